import PyProof.Rows.All
import Wide.All
import OpenK.AllK
import Wide.FinOn
import HandS.ForMost
import HandS.ForExc
import HandS.Wide
import HandS.Text
import HandS.TupAny
import HandS.WideBits
import HandS.SortInts
import HandS.IsInst
import HandS.ExcIs
import HandS.ExcOwn
import HandS.Defaults
import HandS.HotCalls
import HandS.ExcInit
import HandS.ExcInitHot
import HandS.ListItems
import HandS.Conv
import HandS.SetKeys
import HandS.DictTup
import HandS.Flow
import HandS.TupLen
import HandS.Small
import HandS.More
import HandS.Codes
import HandS.EndBits
import HandS.Walk
import HandS.Deep
import HandS.DictComp
import HandS.StrMore
import HandS.Zip
import HandS.RaiseMore
import HandS.SetFor
import HandS.ExcField
import HandS.TryElse
import KE.KExcIs
import KE.KRevIter
import HandS.RevTup
import HandS.Rev
import PySem.Challenge.RW_groupbooks_k41_holders_told
set_option Elab.async false
set_option linter.all false
set_option maxRecDepth 100000
set_option maxHeartbeats 1000000
/-! Q1: the language (E), what it reads (the hand layer's readings, put together), its text. -/
namespace Q
open PySem L2 PySem.Spec
abbrev Frag := PySem.W.Frag

/-- the fixed things: the written part, the classes by number, names of the module by number, the exception at hand -/
structure Kc where
  K : Frag
  cl : Nat → Addr
  gl : Nat → V
  ex : Option (Nat × Addr × Option Addr)
/-- a def: its parameters, the defaults of the last ones, its promise -/
structure Row where
  ar : Nat
  dfl : List V
  sp : Kc → Sp
/-- the defs by number; methods by class; which error's class is under which -/
structure Tb where
  f : Nat → Row
  mt : Nat → Str → Nat
  ini : Nat → Nat
  sub : Nat → Nat → Bool

inductive Blt where
  | len | abs | sum | sorted | list | int | str | max | min | any | all | dict | tuple
  deriving DecidableEq
inductive Bm where
  | lApp | lExt | lIns | lPop | lPopAt | lClr | lIdx | lCnt | sSplit | sFind | sCnt
  deriving DecidableEq
inductive E where
  | var (i : Nat) | int (n : Int) | str (s : Str) | bl (b : Bool) | non | glo (n : Nat)
  | bin (o : Operator) (a b : E) | neg (a : E)
  | cmp (o : CmpOp) (a b : E) | chn (o p : CmpOp) (a b c : E)
  | nt (a : E) | and (es : E) | or (es : E)
  | ife (c a b : E)
  | tup (es : E) | lst (es : E) | nil | cons (e es : E)
  | ix (a i : E) | sl (a lo hi : E)
  | call (i : Nat) (es : E) | callH (i : Nat) (es : E)
  | blt (f : Blt) (es : E)
  | isi (a : E) (t : String)
  | isC (a : E) (n : Nat)
  | dd0 (a : E) (ks : List Int) (z : Int)
  | att (a : E) (f : Str)
  | mth (cs : List Nat) (a : E) (m : Str) (es : E) | mthH (cs : List Nat) (a : E) (m : Str) (es : E)
  | mk (c : Nat) (es : E) | binit (i : Nat) (es : E)
  | bm (m : Bm) (a : E) (es : E)
  | join (s : Str) (e : E)
  | dct | dtt
  | dget (d k z : E) | dsetd (d k z : E) | dpop (d k : E) | ditm (d : E)
  | lrev (e : E) | sset (e : E)
  | lc (js : List Nat) (it : E) (c : E) (e : E)
  | iL (e : E) | iT (e : E) | iR1 (a : E) | iR2 (a b : E) | iR3 (a b c : E) | iEn (e : E) | iZp (a b : E) | iIt (e : E) | iDv (e : E) | iDk (e : E) | iSt (e : E) | iRv (e : E)
  | isx (i : Nat) (c : Nat) | isxs (i : Nat) (cs : List Nat) | isv (i : Nat) | exf (i : Nat) (f : Str)

/-! ### the readings -/
def divOk (j : Int) : Bool := decide (j ≠ 0) && decide (j.natAbs.log2 < 9000)
abbrev rOr (r r' : R2) : R2 := fun x y H Q => r x y H Q ∨ r' x y H Q
theorem OpR.or {X : Cx} {f : Value → Value → Sem Value} {r r' : R2} (h : OpR X f r) (h' : OpR X f r') : OpR X f (rOr r r') := fun pins s σ H x y v u Q I rx ry q => q.elim (h pins s σ H x y v u Q I rx ry) (h' pins s σ H x y v u Q I rx ry)
/-- xs + ys, lists that may be the module's -/
def rCatL (K : Frag) : R2 := fun x y H Q => ∃ a b xs ys, x = .ref a ∧ y = .ref b ∧ SqL K H a xs ∧ SqL K H b ys ∧ xs.length + ys.length ≤ sizeLine ∧ ∀ p, H p = none → Q (.ref p) (upd H p (.lst (xs ++ ys)))
theorem op_catL {X : Cx} : OpR X (binaryOp .Add) (rCatL X.K) := by
  intro pins s σ H x y v u Q I rx ry h
  obtain ⟨a, b, xs, ys, rfl, rfl, ha, hb, hz, q⟩ := h
  cases rx
  cases ry
  obtain ⟨its, r, p, _⟩ := I.list ha
  obtain ⟨its2, r2, p2, _⟩ := I.list hb
  have e1 := r.length
  have e2 := r2.length
  obtain ⟨⟨cls, dd, data, sl⟩, ho, hc, n, hd⟩ := p.isList
  obtain ⟨⟨cls2, dd2, data2, sl2⟩, ho2, hc2, n2, hd2⟩ := p2.isList
  simp only at hc hd hc2 hd2
  subst hc hd hc2 hd2
  refine PySem.concat_meets ⟨_, ho, rfl⟩ ⟨_, ho2, rfl⟩ PySem.noFill_list_add PySem.seq_list_add PySem.F.slot_list_add PySem.F.entry_list_add (PySem.F.args_list_add_2 _ _) (PyProof.Rows.list_addW a b its.toArray its2.toArray n n2 dd dd2 sl sl2 (by rw [List.size_toArray, List.size_toArray]; omega)) ⟨ho, ho2, ?_⟩
  have ea : its.toArray ++ its2.toArray = (its ++ its2).toArray := by simp
  rw [ea]
  exact ⟨.ref _, _, I.lnew (t' := s.toks) (r.append r2) (by rw [List.length_append]; omega), rfl, q _ I.fresh⟩
def rBin (K : Frag) : Operator → R2
  | .Add => rOr (rI0 fun i j => .int (i + j)) (rOr (fun x y H Q => ∃ i j, x = .str i ∧ y = .str j ∧ i.length + j.length ≤ sizeLine ∧ Q (.str (i ++ j)) H) (rOr rCat (rOr (rCatA K) (rCatL K))))
  | .Sub => rI0 fun i j => .int (i - j)
  | .Mult => rI CMulX fun i j => .int (i * j)
  | .FloorDiv => rI (fun _ j => divOk j = true) fun i j => .int (i.fdiv j)
  | .Mod => rI (fun _ j => j ≠ 0) fun i j => .int (i.fmod j)
  | .Pow => rI CPow fun i j => .int (i ^ j.toNat)
  | _ => fun _ _ _ _ => False
def rDIn (neg : Bool) : R2 := fun x y H Q => ∃ a o, y = .ref a ∧ DGet H a x o ∧ Q (.bl (if neg then !o.isSome else o.isSome)) H
def rCmp (K : Frag) : CmpOp → R2
  | .Eq => rOr (rEqD K) rEqDA
  | .NotEq => rOr (rNeD K) rNeDA
  | .Lt => rI0 fun i j => .bl (decide (i < j))
  | .LtE => rI0 fun i j => .bl (decide (i ≤ j))
  | .Gt => rI0 fun i j => .bl (decide (j < i))
  | .GtE => rI0 fun i j => .bl (decide (j ≤ i))
  | .Is => fun x y H Q => y = .non ∧ Q (.bl (decide (x = .non))) H
  | .IsNot => fun x y H Q => y = .non ∧ Q (.bl (!decide (x = .non))) H
  | .In => rOr (rIn K false) (rOr (rInD K) (rOr (rDIn false) fun x y H Q => ∃ (c : Nat) (z : Str), x = .str ⟨#[c]⟩ ∧ y = .str z ∧ Q (.bl (decide (c ∈ z.cps.toList))) H))
  | .NotIn => rOr (rIn K true) (rOr (rNotInD K) (rOr (rDIn true) fun x y H Q => ∃ (c : Nat) (z : Str), x = .str ⟨#[c]⟩ ∧ y = .str z ∧ Q (.bl (!decide (c ∈ z.cps.toList))) H))
abbrev RCall := List V → Hp → VK → Prop
abbrev cOr (r r' : RCall) : RCall := fun xs H Q => r xs H Q ∨ r' xs H Q
theorem CallR.cor {X : Cx} {f : Value} {r r' : RCall} (h : CallR X f r) (h' : CallR X f r') : CallR X f (cOr r r') := fun pins s σ H vs us Q I r q => q.elim (h pins s σ H vs us Q I r) (h' pins s σ H vs us Q I r)
def rBlt (K : Frag) : Blt → RCall
  | .len => cOr (fun xs H Q => ∃ x n, xs = [x] ∧ LenV K x H n ∧ Q (.int n) H) (cOr (fun xs H Q => ∃ a kvs, xs = [V.ref a] ∧ H a = some (.dK kvs) ∧ Q (.int kvs.length) H) rLenT)
  | .abs => fun xs H Q => ∃ i, xs = [.int i] ∧ Q (.int (if i < 0 then -i else i)) H
  | .sum => rSum K
  | .sorted => cOr (cOr (rSortedI K) (rSortedS K)) (cOr
      (fun xs H Q => ∃ (a : Addr) (kvs : List (Key × V)) (ks : List Str), xs = [.ref a] ∧ Rd H a (.dK kvs) ∧ kvs.map (·.1) = ks.map Sum.inr ∧ ks.length < 64 ∧ ∀ ys p, ys.Perm ks → PyProof.Rows.sortedS ys = true → H p = none → Q (.ref p) (upd H p (.lst (ys.map V.str))))
      (fun xs H Q => ∃ (a : Addr) (kvs : List (Key × V)) (ks : List Int), xs = [.ref a] ∧ Rd H a (.dK kvs) ∧ kvs.map (·.1) = ks.map Sum.inl ∧ ks.length < 64 ∧ ∀ (ys : List Int) (p : Addr), ys.Perm ks → ys.Pairwise (· ≤ ·) → H p = none → Q (.ref p) (upd H p (.lst (ys.map V.int)))))
  | .list => cOr (fun xs H Q => ∃ p ys, xs = [.ref p] ∧ (SqL K H p ys ∨ SqT K H p ys) ∧ ∀ l, H l = none → Q (.ref l) (upd H l (.lst ys)))
      (fun xs H Q => ∃ (a : Addr) (kvs : List (Key × V)), xs = [.ref a] ∧ Rd H a (.dK kvs) ∧ ∀ p, H p = none → Q (.ref p) (upd H p (.lst (kvs.map fun kv => kV kv.1))))
  | .int => cOr (fun xs H Q => (∃ i, xs = [.int i] ∧ Q (.int i) H) ∨ ∃ k, xs = [.bl k] ∧ Q (.int (if k then 1 else 0)) H) (fun xs H Q => ∃ a n, xs = [.str a] ∧ PySem.intText? a = some n ∧ a.length ≤ 640 ∧ Q (.int n) H)
  | .str => cOr (fun xs H Q => ∃ i, xs = [.int i] ∧ i.natAbs.log2 < 1920 ∧ Q (.str (toString i)) H) (fun xs H Q => ∃ a, xs = [.str a] ∧ Q (.str a) H)
  | .max => cOr (fun xs H Q => ∃ i j, xs = [.int i, .int j] ∧ Q (.int (if j > i then j else i)) H) (rMax K)
  | .min => cOr (fun xs H Q => ∃ i j, xs = [.int i, .int j] ∧ Q (.int (if j < i then j else i)) H) (rMin K)
  | .any => rAny K
  | .all => rAll K
  | .dict => cOr (fun xs H Q => ∃ (a : Addr) (kvs : List (Key × V)), xs = [.ref a] ∧ Rd H a (.dK kvs) ∧ ∀ p, H p = none → Q (.ref p) (upd H p (.dK kvs)))
      (fun xs H Q => ∃ (a : Addr) (ps : List Addr) (kvs : List (Key × V)), xs = [.ref a] ∧ SqL K H a (ps.map V.ref) ∧ Paired (fun p kv => SqT K H p [kV kv.1, kv.2]) ps kvs ∧ ∀ p, H p = none → Q (.ref p) (upd H p (.dK (mergeK [] kvs))))
  | .tuple => fun xs H Q => ∃ p ys, xs = [.ref p] ∧ ((SqL K H p ys ∧ ∀ l, H l = none → Q (.ref l) (upd H l (.tup ys))) ∨ (SqT K H p ys ∧ Q (.ref p) H))
def bltV : Blt → Value
  | .len => .builtin "len" | .abs => .builtin "abs" | .sum => .builtin "sum" | .sorted => .builtin "sorted" | .list => .type "list" | .int => .type "int" | .str => .type "str" | .max => .builtin "max" | .min => .builtin "min"
  | .any => .builtin "any" | .all => .builtin "all" | .dict => .type "dict" | .tuple => .type "tuple"
def bltS : Blt → Str
  | .len => "len" | .abs => "abs" | .sum => "sum" | .sorted => "sorted" | .list => "list" | .int => "int" | .str => "str" | .max => "max" | .min => "min" | .any => "any" | .all => "all" | .dict => "dict" | .tuple => "tuple"
/-- which of them a suite may call -/
def bltHot : Blt → Bool
  | .len => true | .abs => true | .int => true | .str => true | .tuple => true
  | _ => false
theorem call_blt {X : Cx} (hc : X.calm = true) (f : Blt) : CallR X (bltV f) (rBlt X.K f) := by
  cases f with
  | len => exact CallR.cor call_len (CallR.cor call_lenD call_len_dT)
  | abs => exact call_abs
  | sum => exact cr_sum hc
  | sorted => exact CallR.cor (CallR.cor cr_sortedI cr_sortedS) (CallR.cor (call_sortedD hc) (call_sortedDI hc))
  | list => exact CallR.cor call_list_of (call_listD hc)
  | int => exact CallR.cor call_int1 call_int_str
  | str => exact CallR.cor call_str_int SkE.call_str_str
  | max => exact CallR.cor (call_max2 hc) (cr_max hc)
  | min => exact CallR.cor (call_min2 hc) (cr_min hc)
  | any => exact cr_any hc
  | all => exact cr_all hc
  | dict => exact CallR.cor call_dictD (call_dictP hc)
  | tuple => exact call_tuple_of
theorem call_bltH {X : Cx} {f : Blt} (h : bltHot f = true) : CallR X (bltV f) (rBlt X.K f) := by
  cases f <;> first | (cases h; done) | skip
  · exact CallR.cor call_len (CallR.cor call_lenD call_len_dT)
  · exact call_abs
  · exact CallR.cor call_int1 call_int_str
  · exact CallR.cor call_str_int SkE.call_str_str
  · exact call_tuple_of
theorem op_fdivW2 {X : Cx} : OpR X (binaryOp .FloorDiv) (rI (fun _ j => divOk j = true) fun i j => .int (i.fdiv j)) := opI fun i j _ _ _ _ _ hc q => by
  unfold divOk at hc
  simp only [Bool.and_eq_true, decide_eq_true_eq] at hc
  exact PyProof.Rows.floordiv_int hc.1 q (.inl (PyProof.noPylong_of_log2 hc.2))
theorem op_bin {X : Cx} {o : Operator} (ho : o = .Add ∨ o = .Sub ∨ o = .Mult ∨ o = .FloorDiv ∨ o = .Mod ∨ o = .Pow) : OpR X (binaryOp o) (rBin X.K o) := by
  rcases ho with rfl | rfl | rfl | rfl | rfl | rfl
  · exact OpR.or op_add (OpR.or op_add_str (OpR.or op_cat (OpR.or op_catA op_catL)))
  · exact op_sub
  · exact op_mulX
  · exact op_fdivW2
  · exact op_modN
  · exact op_pow
theorem op_din {X : Cx} (hu : X.A.units + 1 < cLine) : OpR X (compareOp .In) (rDIn false) := by
  intro pins s σ H x y v u Q I rx ry h
  obtain ⟨a, o, e, g, q⟩ := h
  subst e
  obtain rfl : u = Value.ref a := ry
  exact d_in hu I g rx fun s' I' => ⟨.bl o.isSome, H, I', rfl, q⟩
theorem op_dnotin {X : Cx} (hu : X.A.units + 1 < cLine) : OpR X (compareOp .NotIn) (rDIn true) := by
  intro pins s σ H x y v u Q I rx ry h
  obtain ⟨a, o, e, g, q⟩ := h
  subst e
  obtain rfl : u = Value.ref a := ry
  exact d_notIn hu I g rx fun s' I' => ⟨.bl (!o.isSome), H, I', rfl, q⟩
theorem op_cmp {X : Cx} (hu : X.A.units + 65 < cLine) (o : CmpOp) : OpR X (compareOp o) (rCmp X.K o) := by
  have h64 : X.A.units + 64 < cLine := by omega
  have h1 : X.A.units + 1 < cLine := by omega
  have h0 : X.A.units < cLine := by omega
  cases o with
  | Eq => exact OpR.or (op_eqD h64) (op_eq_dictA h0)
  | NotEq => exact OpR.or (op_neD h64) (op_ne_dictA h0)
  | Lt => exact op_lt
  | LtE => exact op_le
  | Gt => exact op_gt
  | GtE => exact op_ge
  | Is => exact op_isN
  | IsNot => exact op_notN
  | In => exact OpR.or op_in_seq (OpR.or (op_inD hu) (OpR.or (op_din h1) op_in_sign))
  | NotIn => exact OpR.or op_notIn_seq (OpR.or (op_notInD hu) (OpR.or (op_dnotin h1) op_notIn_sign))
end Q
/-! Q1b: list(reversed(x)), below the expressions. -/
namespace Q
open PySem PySem.Spec PyProof.Rows L2
section
variable {prog : Program} {w : World} {A : Around} {E : Value → Shared → Prop} {s : Shared}
theorem initRev {R : Result → Shared → Prop} {it l S : Addr} {items : Array Value} (hh : A.handled = none) (hit : s.heap.IsRevIter it l ((items.size : Int) - 1)) (hl : s.heap.IsList l items) (hne : l ≠ it) (hn : items.size ≤ sizeLine)
    (hS : s.heap.get? S = some { cls := .type "list", data := .seq #[] }) (hSi : S ≠ it) (hSl : S ≠ l)
    (hR : ∀ (h' : Heap) (tk : Nat) (acc : Array Value) (c : Nat), (∀ b o, b ≠ S → b ≠ it → s.heap.get? b = some o → h'.get? b = some o) → h'.get? S = some { cls := .type "list", dict := none, data := .seq acc c, slots := #[] } →
      ItemsOf (fun i v => items[items.size - 1 - i]? = some v) acc items.size → R (.ok (.ret .none)) { s with heap := h', toks := tk }) :
    wpAny (model prog w) A.in1 (Builtin.«list.__init__» ⟨[.ref S, .ref it], []⟩)
      (fun fin s' => match fin with | .done f => R (.ok f) s' | .again c' => c'.quiet = true ∧ codeAny (model prog w) A c' R s') (fun e s' => R (.error e) s') s := by
  have W := (Walks.listRev (prog := prog) (w := w) (A := A.in1) hh it l hne items).toS
  have hSf : S ∉ [it, l] := fun z => by
    rcases List.mem_cons.mp z with z | z
    · exact hSi z
    · exact hSl (List.mem_singleton.mp z)
  have oth : ∀ b o, b ≠ S → s.heap.get? b = some o → (s.heap.update S (Obj.mapSeq (fun _ => (#[] : Array Value)))).get? b = some o := fun b o hb e => by
    rw [Heap.get?_update_other _ _ (Ne.symm hb)]; exact e
  have hS2 := Heap.get?_update_self (Obj.mapSeq (fun _ => (#[] : Array Value))) hS rfl
  have hit1 : (s.heap.update S (Obj.mapSeq (fun _ => (#[] : Array Value)))).IsRevIter it l ((items.size : Int) - 1) := hit.at fun o e => oth it o (Ne.symm hSi) e
  have hl1 : (s.heap.update S (Obj.mapSeq (fun _ => (#[] : Array Value)))).IsList l items := by
    obtain ⟨o, ho, r⟩ := hl; exact ⟨o, oth l o (Ne.symm hSl) ho, r⟩
  have hT : ({ s with heap := s.heap.update S (Obj.mapSeq (fun _ => (#[] : Array Value))) } : Shared).TypeIs (.ref it) "list_reverseiterator" := Heap.IsRevIter.typeIs (s := { s with heap := s.heap.update S (Obj.mapSeq (fun _ => (#[] : Array Value))) }) hit1
  have h1 : Builtin.List.listSameRef (.ref S) (.ref it) = false := by unfold Builtin.List.listSameRef; simp [hSi]
  show wpAny _ _ (do let old ← Builtin.List.listItems (.ref S); Builtin.List.listUpdate (.ref S) (fun _ => #[]); letGo old.toList.reverse; Builtin.List.listExtendWith (.ref S) (.ref it) .none) _ _ s
  refine wpAny_bind ?_; unfold Builtin.List.listItems; refine wpAny_bind (wpAny_seqItems hS rfl (wpAny_pure ?_))
  show wpAny _ _ (updateSeq S (fun _ => #[]) >>= fun _ => letGo (#[] : Array Value).toList.reverse >>= fun _ => Builtin.List.listExtendWith (.ref S) (.ref it) .none) _ _ s
  refine wpAny_bind (wpAny_updateSeq hS rfl ?_); refine wpAny_bind (wpAny_letGo ?_)
  unfold Builtin.List.listExtendWith; refine wpAny_bind (wpAny_typeOf hT ?_); rw [if_neg (by rw [h1]; decide)]
  refine wpAny_bind (wpAny_pyIter_revIter (s := { s with heap := s.heap.update S (Obj.mapSeq (fun _ => (#[] : Array Value))) }) hit1 ?_); refine wpAny_bind (wpAny_holding ?_)
  unfold Builtin.List.listLengthHint; refine wpAny_bind (wpAny_specialOf hT RT.nolen_lri ?_)
  show wpAny _ A.in1 (specialOf (Value.ref it) (Str.ofString "__length_hint__") >>= _) _ _ _; refine wpAny_bind (wpAny_specialOf hT RT.hint_lri ?_)
  generalize hid : ("list_reverseiterator.__length_hint__" : String) = id0; wp_delta; rw [show splitId id0 = some ("list_reverseiterator", "__length_hint__") from by subst hid; decide +kernel]; subst hid
  refine wpAny_bind (wpAny_isInstance (b := true) hT (by rw [isSubtype_type]; kernel_rfl) ?_); refine wpAny_pure ?_; rw [if_neg (by decide)]
  have e0 : ((items.size : Nat) : Int) - 1 - ((0 : Nat) : Int) = (items.size : Int) - 1 := by simp
  refine wpAny_pure ⟨plainId_quiet F.plain_extend_loop _, codeAny_extend_loopS W hn S hSf .none items.size 0 _ #[] _ rfl (Nat.zero_le _) ⟨Nat.zero_le _, by rw [e0]; exact hit1, hl1⟩ hS2 (ItemsOf.nil _) fun s' acc' c' hm hS' hacc => ?_⟩
  rw [Moved.eq_with hm]
  refine hR s'.heap s'.toks acc' c' (fun b o hb hb2 e => hm.heap b o (fun hmem => ?_) (oth b o hb e)) hS' hacc
  rcases List.mem_cons.mp hmem with z | z
  · exact hb z
  · exact hb2 (List.mem_singleton.mp z)
theorem callListRev {it l : Addr} {items : Array Value} {Q : Value → Shared → Prop} (hh : A.handled = none) (hit : s.heap.IsRevIter it l ((items.size : Int) - 1)) (hl : s.heap.IsList l items) (hne : l ≠ it) (hn : items.size ≤ sizeLine)
    (hQ : ∀ (h' : Heap) (tk : Nat) (acc : Array Value) (c : Nat), (∀ b o, b ≠ it → s.heap.get? b = some o → h'.get? b = some o) → h'.get? s.heap.objs.size = some { cls := .type "list", dict := none, data := .seq acc c, slots := #[] } →
      ItemsOf (fun i v => items[items.size - 1 - i]? = some v) acc items.size → Q (.ref s.heap.objs.size) { s with heap := h', toks := tk }) :
    wpAny (model prog w) A (call (.type "list") [.ref it]) Q E s := by
  obtain ⟨oi, hoi, _⟩ := id hit
  obtain ⟨ol, hol, _⟩ := id hl
  refine callType_codes (Q₁ := fun obj s₁ => obj = .ref s.heap.objs.size ∧ s₁ = { s with heap := s.heap.push { cls := .type "list", data := .seq #[] } }) F.called_list (F.typeCall_list_1 _) F.entry_list_init (code_list_new _ ⟨rfl, rfl⟩) fun obj s₁ h₁ => ?_
  obtain ⟨rfl, rfl⟩ := h₁
  have hS : (s.heap.push { cls := .type "list", data := .seq #[] }).get? s.heap.objs.size = some { cls := .type "list", data := .seq #[] } := Heap.get?_push_size _ rfl
  refine ⟨⟨_, hS, rfl⟩, F.args_list_init_2 _ _, initRev (s := { s with heap := s.heap.push { cls := .type "list", data := .seq #[] } }) hh (hit.at fun o e => Heap.get?_push_of_some _ e) (hl.push _) hne hn hS (Nat.ne_of_gt (Heap.lt_size hoi)) (Nat.ne_of_gt (Heap.lt_size hol)) fun h' tk acc c hk hS' hacc => ⟨rfl, hQ h' tk acc c (fun b o hb e => ?_) hS' hacc⟩⟩
  exact hk b o (Nat.ne_of_lt (Heap.lt_size e)) hb (Heap.get?_push_of_some _ e)
end
/-- list(reversed(x)), x a list: a new list -/
def tLstRev (K : PySem.W.Frag) (te : TE) : TE := fun σ H Q => te σ H fun v H1 => ∃ (a : Addr) (xs : List V), v = .ref a ∧ SqL K H1 a xs ∧ ∀ q, H1 q = none → Q (.ref q) (upd H1 q (.lst xs.reverse))
theorem pe_lstRev {X : Cx} {e : Expr} {te : TE} {p p2 pos pos2 : Pos} (hc : X.calm = true) (hg : Gl X "list") (hm : X.mg "list" = none) (hg2 : Gl X "reversed") (hm2 : X.mg "reversed" = none) (he : PE X e te) (hb : bootBuiltins "list" = some (.type "list"))
    (hs : starEach [e] X.env = (false, eval e X.env) :: starEach [] X.env) : PE X (.Call (.Name "list" p) [.Call (.Name "reversed" p2) [e] [] pos2] [] pos) (tLstRev X.K te) := by
  have hs2 : starEach [.Call (.Name "reversed" p2) [e] [] pos2] X.env = (false, eval (.Call (.Name "reversed" p2) [e] [] pos2) X.env) :: starEach [] X.env := rfl
  refine ⟨fun pins s σ H Q I h => Call_ (ld_blt I hg hm hb (PyProof.Rows.callWith_type1 (args_cons (Call_ (ld_blt I hg2 hm2 PyProof.Rows.boot_reversed (PyProof.Rows.callWith_type1 (args_cons (thn (he.run pins s σ H _ I h) fun u s1 ⟨v, H1, I1, r1, q1⟩ => args_nil ?_) hs) hs rfl))) hs2) hs2 rfl))⟩
  obtain ⟨a, xs, rfl, hq, q⟩ := q1
  cases r1
  obtain ⟨its, rv, p', hz⟩ := I1.list hq
  refine call_reversed_list p'.isList (args_nil ?_)
  have hlist := p'.isList
  obtain ⟨ol, hol, _⟩ := id hlist
  have hn : its.toArray.size ≤ sizeLine := by rw [List.size_toArray]; rw [← rv.length]; exact hz
  refine callListRev (s := { s1 with heap := s1.heap.push (revObj a ((its.toArray.size : Int) - 1)) }) (I1.ok.hd hc) ⟨_, Heap.get?_push_size _ rfl, rfl, rfl⟩ (hlist.push _) (Nat.ne_of_lt (Heap.lt_size hol)) hn fun h' tk acc c hk hS hi => ?_
  have hsz : s1.heap.objs.size ≤ (s1.heap.push (revObj a ((its.toArray.size : Int) - 1))).objs.size := by unfold Heap.push; simp
  have k : ∀ b u, s1.heap.get? b = some u → h'.get? b = some u := fun b u e => hk b u (Nat.ne_of_lt (Heap.lt_size e)) (Heap.get?_push_of_some _ e)
  refine ⟨.ref (s1.heap.push (revObj a ((its.toArray.size : Int) - 1))).objs.size, upd H1 _ (.lst xs.reverse), I1.laid (t' := tk) k hsz ⟨by rw [List.length_reverse]; exact hz, acc.toList, c, RT.vals_rev rv hi, ?_⟩, rfl, q _ (I1.hok.fresh hsz)⟩
  rw [Array.toArray_toList]; exact hS
end Q
/-! Q1c: a text walked over where an exception is at hand. -/
namespace Q
open PySem PySem.Spec PyProof.Rows L2 L2H HotX
section
variable {prog : Program} {w : World} {A : Around} {E : Value → Shared → Prop} {s : Shared}
theorem stop_hot {α : Type} {x1 : Addr} {Q : α → Shared → Prop} (hot : HotAt A x1 s.heap) (hE : ∀ a h', (∀ b o, s.heap.get? b = some o → h'.get? b = some o) → (∃ ob, h'.get? a = some ob ∧ ob.cls = .type "StopIteration") → E (.ref a) { s with heap := h' }) :
    wpAny (model prog w) A (newExc (.type "StopIteration") [] >>= fun e => (raiseNew e : Sem α)) Q E s := by
  obtain ⟨hh, o1, vs1, k1, d1, c1⟩ := hot
  refine wpAny_bind ?_
  simp only [newExc, newTuple]
  refine wpAny_bind (wpAny_newObj_type ?_ (by size_fits)); refine wpAny_bind (m := firstArgMember _ _) (wpAny_of_eq (a := Value.none) (by first | rfl | (simp only [firstArgMember]; rfl)) ?_)
  refine wpAny_newObj_type ?_ (by size_fits)
  refine raiseNew_hot ⟨hh, o1, vs1, Heap.get?_push_of_some _ (Heap.get?_push_of_some _ k1), d1, c1⟩ (Nat.ne_of_lt (Heap.lt_size (Heap.get?_push_of_some _ k1))) (Heap.get?_push_size _ rfl) rfl (by first | (simp; done) | (simp; omega) | (simp only [Array.size_append]; simp; omega)) ?_
  refine hE _ _ (fun b o e => ?_) ⟨_, Heap.get?_update_self _ (Heap.get?_push_size _ rfl) rfl, rfl⟩
  rw [Heap.get?_update_other _ _ (Nat.ne_of_gt (Heap.lt_size (Heap.get?_push_of_some _ e)))]; exact Heap.get?_push_of_some _ (Heap.get?_push_of_some _ e)
theorem iter_ne {it x1 : Addr} {ty : String} {x : Str} {t : Tok} {i : Nat} (hot : HotAt A x1 s.heap) (hit : s.heap.IsStrIter it ty x t i) : it ≠ x1 := fun e => by
  obtain ⟨_, o1, vs1, k1, d1, c1⟩ := hot
  obtain ⟨o, ho, hc, hd⟩ := hit
  rw [e, k1] at ho
  cases ho
  rw [d1] at hd
  cases hd
  cases c1
theorem next_end_hotA {it x1 : Addr} {x : Str} {t : Tok} {i : Nat} {Q : Option Value → Shared → Prop} (hot : HotAt A x1 s.heap) (hit : s.heap.IsStrIter it "str_ascii_iterator" x t i) (hx : x.cps[i]? = none)
    (hQ : ∀ h', (∀ b o, b ≠ it → s.heap.get? b = some o → h'.get? b = some o) → Q none { s with heap := h' }) : wpAny (model prog w) A (pyNext (.ref it)) Q E s := by
  have hne := iter_ne hot hit
  obtain ⟨ob, hob, hcl, hda⟩ := id hit
  unfold pyNext
  refine wpAny_bind (wpAny_attempt (wpAny_callSpecial?_slot (name := Str.ofString "__next__") hit.typeIs F.slot_str_ascii_iterator_next (wpAny_call_entry F.slot_str_ascii_iterator_next hit.typeIs F.entry_str_ascii_iterator_next ?_ (F.args_str_ascii_iterator_next_1 _))))
  show wpAny _ _ (field (.ref it) 0 >>= _) _ _ s; refine wpAny_bind (wpAny_field hob hda (x := .str x t) rfl ?_)
  show wpAny _ _ (field (.ref it) 1 >>= _) _ _ s; refine wpAny_bind (wpAny_field hob hda (x := .int i 0) rfl ?_)
  simp only [Int.toNat_natCast, hx]
  refine wpAny_bind (wpAny_rule (wpAny_bind (wpAny_setField hob hda (by simp) (wpAny_bind (wpAny_letGo ?_)))))
  obtain ⟨hh, o1, vs1, k1, d1, c1⟩ := hot
  refine stop_hot (x1 := x1) ⟨hh, o1, vs1, by rw [Heap.get?_update_other _ _ hne]; exact k1, d1, c1⟩ fun a h' k ⟨ob', e', c'⟩ => ?_
  refine wpAny_bind (wpAny_isInstance (T := "StopIteration") (b := true) ⟨_, e', c'⟩ isSubtype_stop (wpAny_pure (hQ _ fun b o hb e => k b o ?_)))
  rw [Heap.get?_update_other _ _ (Ne.symm hb)]; exact e
theorem next_end_hotW {it x1 : Addr} {x : Str} {t : Tok} {i : Nat} {Q : Option Value → Shared → Prop} (hot : HotAt A x1 s.heap) (hit : s.heap.IsStrIter it "str_iterator" x t i) (hx : x.cps[i]? = none)
    (hQ : ∀ h', (∀ b o, b ≠ it → s.heap.get? b = some o → h'.get? b = some o) → Q none { s with heap := h' }) : wpAny (model prog w) A (pyNext (.ref it)) Q E s := by
  have hne := iter_ne hot hit
  obtain ⟨ob, hob, hcl, hda⟩ := id hit
  unfold pyNext
  refine wpAny_bind (wpAny_attempt (wpAny_callSpecial?_slot (name := Str.ofString "__next__") hit.typeIs F.slot_str_iterator_next (wpAny_call_entry F.slot_str_iterator_next hit.typeIs F.entry_str_iterator_next ?_ (F.args_str_iterator_next_1 _))))
  show wpAny _ _ (field (.ref it) 0 >>= _) _ _ s; refine wpAny_bind (wpAny_field hob hda (x := .str x t) rfl ?_)
  show wpAny _ _ (field (.ref it) 1 >>= _) _ _ s; refine wpAny_bind (wpAny_field hob hda (x := .int i 0) rfl ?_)
  simp only [Int.toNat_natCast, hx]
  refine wpAny_bind (wpAny_rule (wpAny_bind (wpAny_setField hob hda (by simp) (wpAny_bind (wpAny_letGo ?_)))))
  obtain ⟨hh, o1, vs1, k1, d1, c1⟩ := hot
  refine stop_hot (x1 := x1) ⟨hh, o1, vs1, by rw [Heap.get?_update_other _ _ hne]; exact k1, d1, c1⟩ fun a h' k ⟨ob', e', c'⟩ => ?_
  refine wpAny_bind (wpAny_isInstance (T := "StopIteration") (b := true) ⟨_, e', c'⟩ isSubtype_stop (wpAny_pure (hQ _ fun b o hb e => k b o ?_)))
  rw [Heap.get?_update_other _ _ (Ne.symm hb)]; exact e
end
theorem turn_strH {P : Program} {w : World} {K : PySem.W.Frag} {tg : Expr} (it : Addr) (x : Str) (t : Tok) (ty : String) (hty : ty = "str_ascii_iterator" ∨ ty = "str_iterator") : L2H.TurnH P w K tg (Its x) [it] it (fun i h => h.IsStrIter it ty x t i) where
  mem := by simp
  obj := fun i h st b hb => by
    obtain rfl : b = it := by simpa using hb
    obtain ⟨o, e, c, d⟩ := st
    exact ⟨o, e, fun v z => by rw [d] at z; cases z⟩
  keep := fun i h h' st k => let ⟨o, ho, r⟩ := st; ⟨o, k it (by simp) o ho, r⟩
  item := by
    intro X hP hw hK hc i pins s σ H E I hf st hg
    subst hP hw hK
    obtain ⟨f0, f1, f2, f3, f4, f5⟩ := hf it (by simp)
    obtain ⟨c, hcx⟩ : ∃ c, x.cps[i]? = some c := ⟨_, Array.getElem?_eq_getElem hg⟩
    have hno : ["enumerate", "zip", "dict_itemiterator", "dict_reverseitemiterator", "odict_iterator", "itertools.zip_longest", "itertools.pairwise"].contains ty = false := by rcases hty with e | e <;> (rw [e]; decide)
    have fin : ∀ h' : Heap, h'.IsStrIter it ty x t (i + 1) → Heap.SameBut it s.heap h' → ∃ u, some (Value.str ⟨#[c]⟩ s.toks) = some u ∧ wpAny (model X.prog X.w) X.A (letOwnedTupleGo tg (.ref it) u) (fun _ s2 => ∃ y H', Inv X pins σ H' s2 ∧ RelV y u ∧ (Its x).yld i H y H' ∧ s2.heap.IsStrIter it ty x t (i + 1) ∧ ∀ b ∈ [it], H' b = none) E { s with heap := h', toks := s.toks + 1 } := fun h' st' sb => by
      have I1 : Inv X pins σ H { s with heap := h', toks := s.toks + 1 } := I.turned (fun b o hb e => (sb.2 b hb).trans e) f0 f1 f3 f4 f5
      obtain ⟨oi, e, cc, dd⟩ := id st'
      exact ⟨_, rfl, go_of (s := { s with heap := h', toks := s.toks + 1 }) e cc dd hno ⟨.str ⟨#[c]⟩, H, I1, ⟨_, rfl⟩, ⟨rfl, c, hcx, rfl⟩, st', fun b hb => (hf b hb).1⟩⟩
    rcases hty with e | e
    · subst e; exact wpAny_pyNext_ascii_item st hcx fin
    · subst e; exact wpAny_pyNext_wide_item st hcx fin
  done := by
    intro X hP hw hK hc i pins s σ H E I hf st hg
    subst hP hw hK
    obtain ⟨f0, f1, f2, f3, f4, f5⟩ := hf it (by simp)
    have hx : x.cps[i]? = none := Array.getElem?_eq_none hg
    obtain ⟨x1, hot⟩ := hc.at I
    rcases hty with e | e
    · subst e; exact next_end_hotA hot st hx fun h' eb => ⟨rfl, I.turned (t' := s.toks) (fun b o hb e => eb b o hb e) f0 f1 f3 f4 f5⟩
    · subst e; exact next_end_hotW hot st hx fun h' eb => ⟨rfl, I.turned (t' := s.toks) (fun b o hb e => eb b o hb e) f0 f1 f3 f4 f5⟩
  self := fun A i s Q E st h => by
    rcases hty with e | e
    · subst e; exact wpAny_pyIter_striter_ascii st h
    · subst e; exact wpAny_pyIter_striter_wide st h
theorem pi_strH {X : Cx} {tg e : Expr} {te : TE} (he : PE X e te) : L2H.PIH X tg e (iStr te) := by
  refine ⟨fun pins s σ H R I h => thn (he.run pins s σ H _ I h) fun v s1 ⟨y, H1, I1, r1, x, ex, q⟩ => ?_⟩
  subst ex
  obtain ⟨t, rfl⟩ := r1
  have fin : ∀ (tk : Tok) (ty : String), (ty = "str_ascii_iterator" ∨ ty = "str_iterator") → L2H.PIEH X pins σ tg R (.ref s1.heap.objs.size) { s1 with heap := s1.heap.push { cls := .type ty, data := .fields #[.str x t, .int 0 0] } } := fun tk ty hty => by
    have I2 : Inv X pins σ H1 { s1 with heap := s1.heap.push { cls := .type ty, data := .fields #[.str x t, .int 0 0] } } := I1.kept (t' := s1.toks) fun b o e => Heap.get?_push_of_some _ e
    refine ⟨s1.heap.objs.size, [s1.heap.objs.size], _, _, H1, rfl, I2, turn_strH _ x t ty hty, ⟨_, Heap.get?_push_size _ rfl, rfl, rfl⟩, fun b hb => ?_, q⟩
    obtain rfl : b = s1.heap.objs.size := by simpa using hb
    exact I1.fpOk (Nat.le_refl _) (I1.hok.fresh (Nat.le_refl _))
  cases ha : x.cps.all (· < 128)
  · exact wpAny_pyIter_wide ha (fin 0 _ (.inr rfl))
  · exact wpAny_pyIter_ascii ha (fin 0 _ (.inl rfl))
end Q
/-! Q1d: sorted(set(x)), x a list of texts. -/
namespace Q
open PySem PySem.Spec PyProof.Rows L2
/-! ### sets of texts -/
def keyT (e : Int × Value) : Str := match e.2 with | .str k _ => k | _ => ""
def GoodT (w : World) (e : Int × Value) : Prop := ∃ k u, e.2 = Value.str k u ∧ e.1 = hashStr w k
/-- the set of texts at a: S its members, n their number; its table rises and can be walked -/
def SetT (w : World) (h : Heap) (a : Addr) (S : Str → Bool) (n : Nat) : Prop :=
  ∃ o es ep t, h.get? a = some o ∧ o.ExactSet ∧ o.data = .set es ep t ∧ (∀ e ∈ es.toList, GoodT w e) ∧ (es.toList.map keyT).Nodup ∧ (∀ k, S k = true ↔ k ∈ es.toList.map keyT) ∧
    es.size < scanBound ∧ t.fits es.size = true ∧ es.size = n ∧ Ris t.place.toList ∧ (w.params.followText "set-order" = true ∨ t.led = true)
section
variable {P : Program} {w : World} {h h' : Heap} {a : Addr} {S : Str → Bool} {n : Nat}
theorem isT_str (k : Str) (u : Tok) : (PySem.strKind P w).is k (.str k u) = true := by
  show Value.isStrOf k (.str k u) = true
  simp [Value.isStrOf]
theorem SetT.at (R : SetT w h a S n) (k : ∀ o, h.get? a = some o → h'.get? a = some o) : SetT w h' a S n := by
  obtain ⟨o, es, ep, t, ho, r⟩ := R
  exact ⟨o, es, ep, t, k o ho, r⟩
theorem SetT.congr {S' : Str → Bool} (R : SetT w h a S n) (e : ∀ k, S' k = S k) : SetT w h a S' n := by
  have q : S' = S := funext e
  rw [q]; exact R
theorem goodT_elems {l : List (Int × Value)} (g : ∀ e ∈ l, GoodT w e) : ElemsOf (PySem.strKind P w) l := fun e he => by
  obtain ⟨k, u, h1, h2⟩ := g e he
  exact ⟨⟨k, by rw [h1]; exact isT_str k u, h2⟩, by rw [h1] <;> rfl⟩
theorem goodT_is {e : Int × Value} (g : GoodT w e) (k : Str) : (PySem.strKind P w).is k e.2 = true ↔ keyT e = k := by
  obtain ⟨k0, u, h1, _⟩ := g
  unfold keyT
  rw [h1]
  constructor
  · intro z
    exact (PySem.strKind P w).inj (.str k0 u) k0 k (isT_str k0 u) z
  · intro z
    subst z
    exact isT_str _ u
theorem goodT_mem {l : List (Int × Value)} (g : ∀ e ∈ l, GoodT w e) (k : Str) : k ∈ l.map keyT ↔ ∃ e ∈ l, (PySem.strKind P w).is k e.2 = true := by
  rw [List.mem_map]
  constructor
  · rintro ⟨e, he, q⟩
    exact ⟨e, he, (goodT_is (g e he) k).2 q⟩
  · rintro ⟨e, he, q⟩
    exact ⟨e, he, (goodT_is (g e he) k).1 q⟩
end
section
variable {P : Program} {w : World} {A : Around} {E : Value → Shared → Prop} {s : Shared} {a : Addr} {S : Str → Bool} {n : Nat}
theorem storeT_at {h : Heap} {a : Addr} {o : Obj} {es es' : Array (Int × Value)} {ep : Nat} {t t' : SetTable} (ho : h.get? a = some o) (hd : o.data = .set es ep t) :
    (h.update a (Obj.putSet es' t')).get? a = some { o with data := .set es' (ep + 1) t' } := by
  have q := Heap.get?_update_self (Obj.putSet es' t') ho (by rw [putSet_of es' t' hd]; rfl)
  rw [putSet_of es' t' hd] at q
  exact q
theorem setT_add_tail {g : Bool → Sem Unit} (hg : ∀ (b : Bool) (s₁ : Shared) (Q' : Unit → Shared → Prop), Q' () s₁ → wpAny (model P w) A (g b) Q' E s₁)
    {o : Obj} {es : Array (Int × Value)} {ep : Nat} {t : SetTable} (ho : s.heap.get? a = some o) (hex : o.ExactSet) (hd : o.data = .set es ep t)
    {es1 : Array (Int × Value)} {t2 : SetTable} {S' : Str → Bool} (g1 : ∀ e ∈ es1.toList, GoodT w e) (nd1 : (es1.toList.map keyT).Nodup) (m1 : ∀ k, S' k = true ↔ k ∈ es1.toList.map keyT)
    (hb1 : es1.size < scanBound) (hf2 : t2.fits es1.size = true) (hr : Ris t2.place.toList) (hl : w.params.followText "set-order" = true ∨ t2.led = true) {wasDummy : Bool} {R : Option Bool → Shared → Prop}
    (hR : ∀ h', Heap.SameBut a s.heap h' → SetT w h' a S' es1.size → R (some true) { s with heap := h' }) :
    wpAny (model P w) A (do
        storeSet a es1 t2
        if (!wasDummy && t2.tooFull) = true then do
            g (relayAll t2 es1 (SetTable.grown es1.size)).2.2
            storeSet a (relayAll t2 es1 (SetTable.grown es1.size)).1 (relayAll t2 es1 (SetTable.grown es1.size)).2.1
            pure (some true)
          else pure (some true)) R E s := by
  refine wpAny_bind (wpAny_storeSet_of ho hd ?_ (fits_of_scanBound hb1))
  have ho1 := storeT_at (es' := es1) (t' := t2) ho hd
  have sb1 := Heap.SameBut.update s.heap a (Obj.putSet es1 t2)
  split
  · have pm := relayAll_perm t2 es1 (SetTable.grown es1.size)
    have hf3 := relayAll_fits t2 es1 (SetTable.grown es1.size)
    have hr3 := relayAll_ris t2 es1 (SetTable.grown es1.size)
    have hl3 := relayAll_led t2 es1 (SetTable.grown es1.size)
    generalize relayAll t2 es1 (SetTable.grown es1.size) = Z at pm hf3 hr3 hl3 ⊢
    obtain ⟨es2, t3, gave⟩ := Z
    dsimp only at pm hf3 hr3 hl3 ⊢
    have hsz : es2.size = es1.size := by rw [← Array.length_toList, pm.length_eq, Array.length_toList]
    have hb2 : es2.size < scanBound := by rw [hsz]; exact hb1
    refine wpAny_bind (hg _ _ _ ?_)
    refine wpAny_bind (wpAny_storeSet_of ho1 rfl ?_ (fits_of_scanBound hb2))
    have ho2 := storeT_at (es' := es2) (t' := t3) ho1 rfl
    refine wpAny_pure (hR _ (sb1.trans (Heap.SameBut.update _ a _)) ?_)
    exact ⟨_, es2, _, t3, ho2, hex, rfl, fun e he => g1 e (pm.mem_iff.mp he), (pm.map keyT).nodup_iff.mpr nd1, fun k => (m1 k).trans (pm.map keyT).mem_iff.symm, hb2, hf3, hsz, hr3,
      hl.imp id fun z => by rw [hl3]; exact z⟩
  · exact wpAny_pure (hR _ sb1 ⟨_, es1, _, t2, ho1, hex, rfl, g1, nd1, m1, hb1, hf2, rfl, hr, hl⟩)
theorem setT_add_hashed {k : Str} {u : Tok} {Q : Bool → Shared → Prop} (R : SetT w s.heap a S n) (room : n + 1 < scanBound)
    (hQ : ∀ h', Heap.SameBut a s.heap h' → SetT w h' a (fun j => S j || decide (j = k)) (if S k = true then n else n + 1) → Q (!S k) { s with heap := h' }) :
    wpAny (model P w) A (setAddHashed a (.str k u) ((PySem.strKind P w).hash k)) Q E s := by
  obtain ⟨o, es, ep, t, ho, hex, hd, g, nd, hm, hb, hf, hn, hr, hl⟩ := R
  have hkey : (PySem.strKind P w).is k (.str k u) = true := isT_str k u
  have hsc : (Value.str k u).scannable = true := rfl
  have hel : ElemsOf (PySem.strKind P w) es.toList := goodT_elems g
  unfold setAddHashed setAddHashedIn
  refine wpAny_holding (wpAny_bind (wpAny_setState_of ho hd hf ?_))
  dsimp only
  rw [byScan_of hsc hb hel]
  simp only [↓reduceIte]
  unfold setAddByScan
  refine wpAny_bind ?_
  refine wpAny_bind (wpAny_rule ?_)
  refine wpAny_bind (wpAny_setScan_of hkey ho hd hf hel ?_)
  cases hfi : List.findIdx? (fun e => (PySem.strKind P w).is k e.2) es.toList with
  | some j =>
    dsimp only
    obtain ⟨hj, pj, _⟩ := List.findIdx?_eq_some_iff_getElem.mp hfi
    have hSk : S k = true := (hm k).2 ((goodT_mem (P := P) (w := w) g k).2 ⟨es.toList[j], List.getElem_mem hj, pj⟩)
    refine wpAny_pure (wpAny_pure ?_)
    have q := hQ s.heap (Heap.SameBut.refl a s.heap) ⟨o, es, ep, t, ho, hex, hd, g, nd, fun i => by
      rw [Bool.or_eq_true, decide_eq_true_eq, ← hm i]
      exact ⟨fun z => z.elim id (fun e => e ▸ hSk), .inl⟩, hb, hf, by rw [if_pos hSk]; exact hn, hr, hl⟩
    rw [hSk] at q
    exact q
  | none =>
    dsimp only
    have hnk : k ∉ es.toList.map keyT := fun z => by
      obtain ⟨e, he, q⟩ := (goodT_mem (P := P) (w := w) g k).1 z
      have c := List.findIdx?_eq_none_iff.mp hfi e he
      rw [q] at c
      cases c
    have hSk : S k = false := by
      cases q : S k with
      | false => rfl
      | true => exact absurd ((hm k).1 q) hnk
    have hgw : ∀ (b : Bool) {s₁ : Shared} {Q' : Unit → Shared → Prop}, Q' () s₁ → wpAny (model P w) A (match b with | true => rule "set.scan.the-table-gave-way" | false => pure ()) Q' E s₁ :=
      fun b s₁ Q' q => by cases b <;> first | exact wpAny_pure q | exact wpAny_rule q
    have pm := layNew_perm t es ((PySem.strKind P w).hash k) (.str k u)
    have hf1 := layNew_fits t es ((PySem.strKind P w).hash k) (.str k u)
    have hr1 := layNew_ris t es ((PySem.strKind P w).hash k) (.str k u) hr
    have hl1 := layNew_led t es ((PySem.strKind P w).hash k) (.str k u)
    generalize layNew t es ((PySem.strKind P w).hash k) (.str k u) = Z at pm hf1 hr1 hl1 ⊢
    obtain ⟨es1, t1, wasDummy, gave⟩ := Z
    dsimp only at pm hf1 hr1 hl1 ⊢
    rw [Array.toList_push] at pm
    have pc : es1.toList.Perm (((PySem.strKind P w).hash k, Value.str k u) :: es.toList) := pm.trans (List.perm_append_singleton _ _)
    have pk : (es1.toList.map keyT).Perm (k :: es.toList.map keyT) := pc.map keyT
    have g1 : ∀ e ∈ es1.toList, GoodT w e := fun e he => by
      rcases List.mem_cons.mp (pc.mem_iff.mp he) with z | z
      · rw [z]; exact ⟨k, u, rfl, rfl⟩
      · exact g e z
    have nd1 : (es1.toList.map keyT).Nodup := pk.nodup_iff.mpr (List.nodup_cons.mpr ⟨hnk, nd⟩)
    have m1 : ∀ i, (S i || decide (i = k)) = true ↔ i ∈ es1.toList.map keyT := fun i => by
      rw [Bool.or_eq_true, decide_eq_true_eq, hm i, pk.mem_iff, List.mem_cons]
      exact Or.comm
    have hsz : es1.size = n + 1 := by rw [← Array.length_toList, pc.length_eq, List.length_cons, Array.length_toList, hn]
    have hb1 : es1.size < scanBound := by rw [hsz]; exact room
    have hled : w.params.followText "set-order" = true ∨ t1.led = true := hl.imp id fun z => by rw [hl1]; exact z
    have fin : ∀ h', Heap.SameBut a s.heap h' → SetT w h' a (fun j => S j || decide (j = k)) es1.size → Q true { s with heap := h' } := fun h' sb r => by
      have q := hQ h' sb
      rw [hSk] at q
      rw [hsz] at r
      exact q r
    refine wpAny_bind (hgw _ ?_)
    split
    · refine wpAny_bind ?_
      rw [hashByValue_scannable 8 hsc]
      refine wpAny_pure ?_
      refine setT_add_tail ?_ ho hex hd g1 nd1 m1 hb1 ?_ ?_ ?_ ?_
      · intro b s₁ Q' q; cases b <;> first | exact wpAny_pure q | exact wpAny_rule q
      · first | (split <;> first | exact hf1 | exact SetTable.fits_plain_off hf1) | exact hf1
      · first | (split <;> exact hr1) | exact hr1
      · first | (split <;> exact hled) | exact hled
      · intro h' sb r; dsimp only; exact wpAny_pure (fin h' sb r)
    · refine wpAny_bind (wpAny_pure ?_)
      simp only [↓reduceIte]
      refine setT_add_tail ?_ ho hex hd g1 nd1 m1 hb1 hf1 hr1 hled ?_
      · intro b s₁ Q' q; cases b <;> first | exact wpAny_pure q | exact wpAny_rule q
      · intro h' sb r; dsimp only; exact wpAny_pure (fin h' sb r)
/-! ### set(l) of a list of texts -/
theorem setT_new_at {w : World} {h : Heap} {a : Addr} {ns : List Str} (ho : h.get? a = some { cls := .type "set", dict := none, data := .set #[] 0 (.fresh 0 0 (!w.params.followText "set-order")) }) : SetT w h a (fun j => decide (j ∈ ns.take 0)) 0 :=
  ⟨_, #[], 0, _, ho, ⟨rfl, rfl, rfl⟩, rfl, (fun e he => by simp at he), (by simp), (fun k => by simp), (by decide), (by rfl), rfl, List.Pairwise.nil, by
    show _ ∨ (!w.params.followText "set-order") = true
    cases w.params.followText "set-order"
    · exact .inr rfl
    · exact .inl rfl⟩
theorem set_update_strs {I : Addr} {fp wr : List Addr} {G : Array GenState → Array GenState → Prop} {n : Nat} {Pv : Nat → Value → Prop} {St : Nat → Shared → Prop} {R : Result → Shared → Prop}
    (W : WalksS P w A.in1 I fp wr G n Pv St) (S : Addr) (hSf : S ∉ fp) (ns : List Str) (hn : n = ns.length) (hb : ns.length + 1 < scanBound) (hval : ∀ i v, Pv i v → ∃ k t, ns[i]? = some k ∧ v = .str k t) :
    ∀ (k i : Nat) (s : Shared), n - i = k → i ≤ n → St i s → (∃ c, c ≤ i ∧ SetT w s.heap S (fun j => decide (j ∈ ns.take i)) c) →
      (∀ s' c, Moved (S :: wr) G s s' → c ≤ n → SetT w s'.heap S (fun j => decide (j ∈ ns)) c → R (.ok (.ret .none)) s') →
      codeAny (model P w) A (.builtin "set.update.loop" ⟨[.ref S, .ref I], []⟩) R s := by
  have hSw : S ∉ wr := fun h => hSf (W.sub _ h)
  have hsub : ∀ b ∈ wr, b ∈ S :: wr := fun b hb => List.mem_cons_of_mem _ hb
  intro k
  induction k with
  | zero =>
    intro i s hk' hi hst ⟨c, hc, hS⟩ hR
    have hin : i = n := by omega
    subst hin
    refine codeAny_builtin F.entry_set_update_loop ?_
    rw [Around.under_plainId F.plain_set_update_loop _]
    show wpAny _ A.in1 (pyNext (.ref I) >>= _) _ _ s
    refine wpAny_bind (W.done s _ _ hst fun s' hm => ?_)
    show wpAny _ A.in1 (ret Value.none) _ _ s'
    have e : ns.take i = ns := List.take_of_length_le (by omega)
    rw [e] at hS
    exact wpAny_pure (hR s' c (hm.mono hsub) hc (hS.at fun o e => hm.heap S o hSw e))
  | succ k ih =>
    intro i s hk' hi hst ⟨c, hc, hS⟩ hR
    have hlt : i < n := by omega
    refine codeAny_builtin F.entry_set_update_loop ?_
    rw [Around.under_plainId F.plain_set_update_loop _]
    show wpAny _ A.in1 (pyNext (.ref I) >>= _) _ _ s
    refine wpAny_bind (W.item i s _ _ hlt hst fun v s' hP hst' hm => ?_)
    obtain ⟨z, t, hz, rfl⟩ := hval i v hP
    have hS' : SetT w s'.heap S (fun j => decide (j ∈ ns.take i)) c := hS.at fun o e => hm.heap S o hSw e
    show wpAny _ A.in1 (holding [Value.str z t] (setAdd S (.str z t)) >>= _) _ _ s'
    refine wpAny_bind (wpAny_holding ?_)
    unfold setAdd
    refine wpAny_holding ?_
    refine wpAny_bind ((PySem.strKind P w).pyHash (k := z) (isT_str _ _) ?_)
    refine setT_add_hashed (s := { s' with toks := s'.toks + 1 }) hS' (by omega) fun h' hsb hS2 => ?_
    have hS3 : SetT w h' S (fun j => decide (j ∈ ns.take (i + 1))) (if decide (z ∈ ns.take i) = true then c else c + 1) := hS2.congr fun j => by
      rw [List.take_add_one, hz]
      simp [List.mem_append]
    have hc3 : (if decide (z ∈ ns.take i) = true then c else c + 1) ≤ i + 1 := by
      split <;> omega
    refine wpAny_pure ⟨plainId_quiet F.plain_set_update_loop _, ih (i + 1) _ (by omega) hlt (W.frame _ s' _ _ hst' (Nat.le_succ _) fun b hb o e => ?_) ⟨_, hc3, hS3⟩ fun s'' c2 hm'' hc'' hS'' => ?_⟩
    · rw [hsb.2 b (fun h : b = S => hSf (by rw [← h]; exact hb))]; exact e
    · refine hR s'' c2 (Moved.trans W.gtrans ((hm.mono hsub).then_heap (Nat.le_succ _) fun b o hb e => ?_) hm'') hc'' hS''
      rw [hsb.2 b (fun h : b = S => hb (by rw [h]; exact List.mem_cons_self))]; exact e
theorem code_set_led2 (a : Value) {Q₁ : Value → Shared → Prop}
    (h : Q₁ (.ref s.heap.objs.size) { s with heap := s.heap.push { cls := .type "set", dict := none, data := .set #[] 0 (.fresh 0 0 (!w.params.followText "set-order")) } }) :
    codeAny (model P w) A (.call (.builtin "set.__new__") ⟨[.type "set", a], []⟩) (wants Q₁ E) s := by
  refine codeAny_of_tree ?_
  show wpAny _ A.in1 (do checkBuiltinCall "set.__new__" ⟨[.type "set", a], []⟩; again (.builtin "set.__new__" ⟨[.type "set", a], []⟩)) _ _ s
  refine wpAny_bind (wpAny_of_eq (F.newCall_set_1 a) (wpAny_pure ⟨plainId_quiet F.plain_set_new _, codeAny_builtin F.entry_set_new ?_⟩))
  rw [Around.under_plainId F.plain_set_new _]
  unfold Builtin.«set.__new__» Builtin.Frozenset.newClass
  have hsub := sub_set_self
  obtain ⟨hp, g, d, tk, os⟩ := s
  dsimp only
  wp_walk
  refine wpAny_askSetting (wpAny_pure ?_)
  dsimp only
  simp only [newObj]
  refine wpAny_bind (wpAny_alloc (wpAny_pure ?_))
  exact wpAny_pure h
set_option maxRecDepth 100000 in
set_option maxHeartbeats 3200000 in
theorem call_set_lstS {l : Addr} {items : Array Value} (ns : List Str) {Q : Value → Shared → Prop} (hh : A.handled = none) (hl : s.heap.IsList l items) (hit : StrsAre items.toList ns) (hb : ns.length + 1 < scanBound)
    (h : ∀ (h' : Heap) (tk c : Nat), SetT w h' s.heap.objs.size (fun j => decide (j ∈ ns)) c → c ≤ ns.length → (∀ b o, s.heap.get? b = some o → h'.get? b = some o) → Q (.ref s.heap.objs.size) { s with heap := h', toks := tk }) :
    wpAny (model P w) A (call (.type "set") [.ref l]) Q E s := by
  have hisz : items.size = ns.length := by
    have q := StrsAre.length hit
    rw [Array.length_toList] at q
    exact q
  obtain ⟨c, tl, hmro⟩ := F.called_set.mro
  have hmade := F.called_set.made
  have hsub := F.called_set.sub
  refine wpAny_call (codeAny_of_tree ?_)
  show wpAny _ _ (callAny (.type "set") _) _ _ _
  refine wpAny_pure ⟨Code.quiet_builtin _ (by decide +kernel), codeAny_builtin F.entry_type_call ?_⟩
  rw [Around.under_plain (weight_type_call_type "set" [.ref l] []) rfl]
  have h1 := F.called_set.notType
  have h2 := F.called_set.canCreate
  have hct := F.typeCall_set_1 (.ref l)
  repeat (any_goals (first | assumption | wp_step))
  refine codeAny_mono (code_set_led2 (.ref l) (E := E) (Q₁ := fun obj s₁ => obj = .ref s.heap.objs.size ∧ s₁ = { s with heap := s.heap.push { cls := .type "set", dict := none, data := .set #[] 0 (.fresh 0 0 (!w.params.followText "set-order")) } }) ⟨rfl, rfl⟩) fun r s₁ hr => ?_
  cases r with
  | error e => exact hr
  | ok fl =>
    cases fl with
    | ret obj =>
      obtain ⟨rfl, rfl⟩ := hr
      have hS : (s.heap.push { cls := .type "set", dict := none, data := .set #[] 0 (.fresh 0 0 (!w.params.followText "set-order")) }).get? s.heap.objs.size = some { cls := .type "set", dict := none, data := .set #[] 0 (.fresh 0 0 (!w.params.followText "set-order")) } := Heap.get?_push_size _ rfl
      have hT : Shared.TypeIs { s with heap := s.heap.push { cls := .type "set", dict := none, data := .set #[] 0 (.fresh 0 0 (!w.params.followText "set-order")) } } (.ref s.heap.objs.size) "set" := ⟨_, hS, rfl⟩
      have hli := F.called_set.init.lookup
      have hbi := F.called_set.init.bind (.ref s.heap.objs.size)
      repeat (any_goals (first | assumption | wp_step))
      refine codeAny_mono (codeAny_call_builtin (R := wants (fun r s₂ => r = .none ∧ ∃ h' tk c, s₂ = { s with heap := h', toks := tk } ∧ SetT w h' s.heap.objs.size (fun j => decide (j ∈ ns)) c ∧ c ≤ ns.length ∧
          (∀ b o, s.heap.get? b = some o → h'.get? b = some o)) E) F.called_set.init.plain F.entry_set_init (check_set_init_1 hT ?_)) fun r₂ s₂ hr₂ => ?_
      · obtain ⟨ol, hol, hcl, nl, hdl⟩ := hl
        obtain ⟨ocls, odict, odata, oslots⟩ := ol
        simp only at hcl hdl
        subst hcl; subst hdl
        have hol' : (s.heap.push { cls := .type "set", dict := none, data := .set #[] 0 (.fresh 0 0 (!w.params.followText "set-order")) }).get? l = some { cls := .type "list", dict := odict, data := .seq items nl, slots := oslots } := Heap.get?_push_of_some _ hol
        have hsls := F.sub_list_set
        have hslf := F.sub_list_frozenset
        have hne : (Value.type "list" == Value.type "dict") = false := by decide
        have hl1 : (s.heap.push { cls := .type "set", dict := none, data := .set #[] 0 (.fresh 0 0 (!w.params.followText "set-order")) }).IsList l items := ⟨_, hol', rfl, nl, rfl⟩
        unfold Builtin.«set.__init__» noKeywords Builtin.Frozenset.updateFrom
        generalize hPI : pyIter = PI
        wp_walk
        subst hPI
        refine wpAny_pyIter_list hl1 ?_
        refine wpAny_bind (wpAny_runValue ?_)
        have hlS : l < s.heap.objs.size := Heap.lt_size hol
        have hh3 : A.in1.in1.in1.handled = none := by simp [hh]
        have hz1 : (s.heap.push { cls := .type "set", dict := none, data := .set #[] 0 (.fresh 0 0 (!w.params.followText "set-order")) }).objs.size = s.heap.objs.size + 1 := Heap.size_push ..
        have hneI : l ≠ (s.heap.push { cls := .type "set", dict := none, data := .set #[] 0 (.fresh 0 0 (!w.params.followText "set-order")) }).objs.size := by
          rw [Heap.size_push]; exact Nat.ne_of_lt (Nat.lt_succ_of_lt hlS)
        have hSf : s.heap.objs.size ∉ [(s.heap.push { cls := .type "set", dict := none, data := .set #[] 0 (.fresh 0 0 (!w.params.followText "set-order")) }).objs.size, l] := by
          rw [Heap.size_push]; simp only [List.mem_cons, List.mem_singleton, List.not_mem_nil, or_false, not_or]
          exact ⟨Nat.ne_of_lt (Nat.lt_succ_self _), Nat.ne_of_gt hlS⟩
        have hval : ∀ (i : Nat) (v : Value), items[i]? = some v → ∃ k t, ns[i]? = some k ∧ v = .str k t := fun i v hv => (fun ⟨y, t, e1, e2⟩ => ⟨y, t, e2, e1⟩) (StrsAre.item hit i v (by rw [Array.getElem?_toList]; exact hv))
        refine set_update_strs ((Walks.list hh3 _ l hneI items).toS) s.heap.objs.size
          hSf ns hisz hb hval (items.size - 0) 0 _ (by omega) (Nat.zero_le _)
          ⟨⟨_, Heap.get?_push_size _ rfl, rfl, rfl⟩, (hl1.push _)⟩ ?hS0 ?hR
        case hS0 =>
          have hget : ((s.heap.push { cls := .type "set", dict := none, data := .set #[] 0 (.fresh 0 0 (!w.params.followText "set-order")) }).push { cls := .type "list_iterator", data := .fields #[.ref l, .int 0 0] }).get? s.heap.objs.size
              = some { cls := .type "set", dict := none, data := .set #[] 0 (.fresh 0 0 (!w.params.followText "set-order")) } := Heap.get?_push_of_some _ hS
          exact ⟨0, Nat.le_refl 0, setT_new_at hget⟩
        case hR =>
          intro s' c' hm hc' hS'
          obtain ⟨h', g2, d', tk', os'⟩ := s'
          have eg : g2 = s.gens := hm.gens
          have ed : d' = s.drawn := hm.drawn
          have eo : os' = s.os := hm.os
          subst eg; subst ed; subst eo
          show wpAny _ _ _ _ _ _
          refine wpAny_pure ?_
          show wpAny _ _ (ret Value.none) _ _ _
          rw [hisz] at hc'
          refine wpAny_pure ⟨rfl, h', tk', c', rfl, hS', hc', fun b o e => ?_⟩
          have hb0 : b < s.heap.objs.size := Heap.lt_size e
          have hb1 : b ≠ s.heap.objs.size := Nat.ne_of_lt hb0
          have hb2 : b ≠ (s.heap.push { cls := .type "set", dict := none, data := .set #[] 0 (.fresh 0 0 (!w.params.followText "set-order")) }).objs.size := by
            rw [Heap.size_push]; exact Nat.ne_of_lt (Nat.lt_succ_of_lt hb0)
          exact hm.heap b o (by simp only [List.mem_cons, List.mem_singleton, List.not_mem_nil, or_false, not_or]; exact ⟨hb1, hb2⟩) (Heap.get?_push_of_some _ (Heap.get?_push_of_some _ e))
      · cases r₂ with
        | error e => exact hr₂
        | ok fl₂ =>
          cases fl₂ with
          | ret r =>
            obtain ⟨rfl, h', tk, c', rfl, hS', hc', hk'⟩ := hr₂
            repeat (any_goals (first | assumption | wp_step))
            exact h _ _ _ hS' hc' hk'
          | _ => exact hr₂.elim
    | _ => exact hr.elim
end
/-! ### sorted -/
section
variable {P : Program} {w : World} {A : Around} {E : Value → Shared → Prop} {s : Shared} {a : Addr} {S : Str → Bool} {n : Nat}
theorem strs_of : ∀ (l : List Value), (∀ v ∈ l, ∃ k tk, v = Value.str k tk) → StrsAre l (l.map strOf)
  | [], _ => .nil
  | v :: l, h => by
    obtain ⟨k, tk, rfl⟩ := h v List.mem_cons_self
    exact .cons k tk (strs_of l fun u hu => h u (List.mem_cons_of_mem _ hu))
theorem sorted_setT {Q : Value → Shared → Prop} (R : SetT w s.heap a S n) (hh : A.handled = none) (h64 : n < 64)
    (hQ : ∀ s' p (out : Array Value) (c : Nat) (ns : List Str), (∀ b o, s.heap.get? b = some o → s'.heap.get? b = some o) → s'.gens = s.gens → s'.os = s.os → s.heap.objs.size ≤ p →
      s'.heap.get? p = some (seqObj "list" out c) → StrsAre out.toList ns → sortedS ns = true → ns.Nodup → (∀ k, k ∈ ns ↔ S k = true) → ns.length = n → Q (.ref p) s') :
    wpAny (model P w) A (call (.builtin "sorted") [.ref a]) Q E s := by
  obtain ⟨o, es, ep, t, ho, hex, hd, g, nd, hm, hb, hf, hn, hr, hl⟩ := R
  refine Calls.call_function_entry kind_sorted plain_sorted entry_sorted (args_sorted1 _) ?_
  unfold Builtin.«sorted»
  refine wpAny_bind (m := checkCount "sorted" 1 1 _) (wpAny_pure ?_)
  refine wpAny_bind (collect_set (A := A.in1) hh ⟨o, ho, hex.1, hd⟩ hf hb hr hl fun s1 vs k1 hz g1 o1 pm => ?_)
  have hvl : vs.length = n := by rw [pm.length_eq, List.length_map, Array.length_toList]; exact hn
  have hS : StrsAre vs (vs.map strOf) := strs_of vs fun v hv => by
    obtain ⟨e, he, q⟩ := List.mem_map.mp (pm.mem_iff.mp hv)
    obtain ⟨k, tk, h1, _⟩ := g e he
    exact ⟨k, tk, by rw [← q]; exact h1⟩
  have pk : (vs.map strOf).Perm (es.toList.map keyT) := by
    have q := pm.map strOf
    rw [List.map_map] at q
    refine q.trans (.of_eq (List.map_congr_left fun e he => ?_))
    obtain ⟨k, tk, h1, _⟩ := g e he
    show strOf e.2 = keyT e
    unfold keyT
    rw [h1] <;> rfl
  refine wpAny_bind (wpAny_newList ?_ (by rw [hvl, sizeLine_eq]; omega))
  have hoL : (s1.heap.push (seqObj "list" vs.toArray 0)).get? s1.heap.objs.size = some (seqObj "list" vs.toArray 0) := Heap.get?_push_size _ rfl
  refine wpAny_bind (wpAny_holding (wpAny_call_entry slot_list_sort ⟨_, hoL, rfl⟩ entry_list_sort
    (list_sort_treeK strKind_oneLt hoL hS.keysOf (fun v₁ v₂ rest e => keyKind_strs (by rw [← e]; exact hS)) (by rw [hvl]; exact h64) fun st' hp hs => ⟨_, rfl, ?_⟩) (args_list_sort _)))
  obtain ⟨ys, q1, q2, q3⟩ := sorted_out_str hS hp hs
  obtain ⟨c, hc⟩ := sortedHeap_at (vs := vs) (out := (arrOf st').map (·.2)) hoL
  have pn : ys.Perm (es.toList.map keyT) := q2.trans pk
  refine wpAny_pure ⟨_, rfl, hQ _ s1.heap.objs.size _ c ys (fun b u e => ?_) g1 o1 hz hc q1 q3 (pn.nodup_iff.mpr nd) (fun k => by rw [pn.mem_iff, ← hm k]) ?_⟩
  · have q := k1 b u e
    have hlt := Heap.lt_size q
    rw [sortedHeap_old (Nat.ne_of_lt hlt) (by rw [size_push']; exact Nat.lt_succ_of_lt hlt)]
    exact Heap.get?_push_of_some _ q
  · rw [pn.length_eq, List.length_map, Array.length_toList]; exact hn
end
/-- sorted(set(e)), e a list of fewer than 64 texts: a new list -/
def tSSet (K : PySem.W.Frag) (te : TE) : TE := fun σ H Q => te σ H fun v H1 => ∃ (a : Addr) (xs : List Str), v = .ref a ∧ SqL K H1 a (xs.map V.str) ∧ xs.length < 64 ∧
  ∀ (ys : List Str) (p : Addr), ys.Nodup → (∀ k, k ∈ ys ↔ k ∈ xs) → sortedS ys = true → H1 p = none → Q (.ref p) (upd H1 p (.lst (ys.map V.str)))
theorem pe_sset {X : Cx} {e : Expr} {te : TE} {p p2 pos pos2 : Pos} (hc : X.calm = true) (hg : Gl X "sorted") (hm : X.mg "sorted" = none) (hg2 : Gl X "set") (hm2 : X.mg "set" = none) (he : PE X e te)
    (hb : bootBuiltins "sorted" = some (.builtin "sorted")) (hb2 : bootBuiltins "set" = some (.type "set"))
    (hs : starEach [e] X.env = (false, eval e X.env) :: starEach [] X.env) : PE X (.Call (.Name "sorted" p) [.Call (.Name "set" p2) [e] [] pos2] [] pos) (tSSet X.K te) := by
  have hs2 : starEach [.Call (.Name "set" p2) [e] [] pos2] X.env = (false, eval (.Call (.Name "set" p2) [e] [] pos2) X.env) :: starEach [] X.env := rfl
  refine ⟨fun pins s σ H Q I h => wpAny_Call_Name_kw (ld_blt I hg hm hb (PyProof.Rows.callWith_builtin1 (args_cons (wpAny_Call_Name_kw (ld_blt I hg2 hm2 hb2 (PyProof.Rows.callWith_type1 (args_cons (thn (he.run pins s σ H _ I h) fun u s1 ⟨v, H1, I1, r1, q1⟩ => args_nil ?_) hs) hs rfl))) hs2) hs2 rfl))⟩
  obtain ⟨a, xs, rfl, hq, h64, q⟩ := q1
  cases r1
  obtain ⟨its, rv, p', hz⟩ := I1.list hq
  have hS := rv.strs
  have hlen : its.length = xs.length := by have z := rv.length; rw [List.length_map] at z; exact z.symm
  refine call_set_lstS xs (I1.ok.hd hc) p'.isList hS (by unfold scanBound; omega) fun h' tk c R hc' k => args_nil ?_
  refine sorted_setT (s := { s1 with heap := h', toks := tk }) R (I1.ok.hd hc) (by omega) fun s' pp out cc ns kk g o hp hg hi hsr hnd hmem hln => ?_
  have hlen2 : (ns.map V.str).length ≤ sizeLine := by rw [List.length_map, hln, sizeLine_eq]; omega
  have hpp : s1.heap.objs.size ≤ pp := by
    refine Nat.le_trans ?_ hp
    obtain ⟨oo, _, _, _, e1, _⟩ := R
    exact Nat.le_of_lt (Heap.lt_size e1)
  have hn : H1 pp = none := I1.hok.fresh hpp
  have k2 : ∀ b u, s1.heap.get? b = some u → s'.heap.get? b = some u := fun b u e => kk b u (k b u e)
  have J : Inv X pins σ (upd H1 pp (.lst (ns.map V.str))) { s1 with heap := s'.heap, gens := s'.gens, drawn := s'.drawn, toks := s'.toks } :=
    I1.call (ch := []) (Un.laid k2 hpp hn) (I1.hok.laid k2 hpp ⟨hlen2, out.toList, cc, vals_of_strs hi, hg⟩) (by rw [g]; exact I1.bare) (fun _ z => nomatch z)
  have e : s' = { s1 with heap := s'.heap, gens := s'.gens, drawn := s'.drawn, toks := s'.toks } := by
    cases s'
    cases s1
    cases o
    rfl
  rw [e]
  exact ⟨.ref pp, _, J, rfl, q ns pp hnd (fun k => by rw [hmem k, decide_eq_true_eq]) hsr hn⟩
end Q
/-! Q2: what an expression reads; its text. -/
namespace Q
open PySem L2 PySem.Spec
/-! ### rules of one's own -/
abbrev WE (W : WX) : L2.St → XK := fun σ cls d H => W cls d σ H
def tCallD (sp : Sp) (dvs : List V) (E : L2.St → XK) (t : TA) : TE := fun σ H Q => t σ H fun vs H1 => sp (vs ++ dvs) H1 Q (E σ)
def notSt : Expr → Bool
  | .Starred _ _ => false
  | _ => true
theorem starC {x : Expr} {es : List Expr} {env : PySem.Env} (h : notSt x = true) : starEach (x :: es) env = (false, eval x env) :: starEach es env := by
  cases x <;> first | rfl | cases h
def noSt (xs : List Expr) : Bool := xs.all notSt
theorem star_all {pos : Pos} {env : PySem.Env} : ∀ {xs : List Expr}, noSt xs = true → (backTo pos (starEach xs env)).any (·.1) = false
  | [], _ => rfl
  | x :: xs, h => by
    simp only [noSt, List.all_cons, Bool.and_eq_true] at h
    rw [starC h.1]
    show (false || (backTo pos (starEach xs env)).any (·.1)) = false
    rw [Bool.false_or]
    exact star_all h.2
theorem star_none {pos : Pos} {env : PySem.Env} : ∀ {xs : List Expr}, noSt xs = true → ((backTo pos (starEach xs env)).all fun x => !x.1) = true
  | [], _ => rfl
  | x :: xs, h => by
    simp only [noSt, List.all_cons, Bool.and_eq_true] at h
    rw [starC h.1]
    show (true && (backTo pos (starEach xs env)).all fun x => !x.1) = true
    rw [Bool.true_and]
    exact star_none h.2
section
variable {X : Cx} {CX : CXT} {k : Nat} {f C : Addr} {fd : FuncData} {ps : List Str} {sp : Sp} {dvs : List V} {ds : List Value} {E : L2.St → XK} {x m : Str} {p pos apos : Pos} {e o : Expr} {es : List Expr} {ta : TE} {t : TA}
theorem run_D {pins : List (Addr × Obj)} {σ : L2.St} {H : Hp} {s : Shared} {Q : VK} {us : List Value} {vs : List V} (F : FnOk X.prog X.w X.K X.mg X.base CX k f fd ps sp) (hr : Room k X.A) (hb : Binds X.K fd ps ds) (hd : Vals dvs ds) (hx : PassesAt CX X σ (E σ))
    (I : Inv X pins σ H s) (r : Vals vs us) (h : sp (vs ++ dvs) H Q (E σ)) : wpAny (model X.prog X.w) X.A (call (.ref f) us) (EP X pins σ Q) X.xe s := by
  have r2 : Vals (vs ++ dvs) (us ++ ds) := r.append hd
  have hl : (us ++ ds).length = ps.length := by rw [← r2.length]; exact F.len _ _ _ _ h
  refine wpAny_call (codeAny_mono (F.run X.A X.stack s H ⟨us, []⟩ (us ++ ds) (vs ++ dvs) Q (E σ) hr I.env0 (hb s us I.kIn hl) r2 h) fun r s' hq => ?_)
  match r, hq with
  | .error e, hq => exact hx pins H s e s' I hq
  | .ok (.ret u), hq => exact I.after hq
  | .ok .next, hq => exact False.elim hq
  | .ok .brk, hq => exact False.elim hq
  | .ok .cont, hq => exact False.elim hq
theorem pe_callD (F : FnOk X.prog X.w X.K X.mg X.base CX k f fd ps sp) (hr : Room k X.A) (hg : Gl X x) (hm : X.mg x = some (.ref f)) (hk : PySem.W.keepIn X.K (.ref f) = true)
    (hb : Binds X.K fd ps ds) (hd : Vals dvs ds) (hx : ∀ σ, PassesAt CX X σ (E σ)) (ha : PA X (e :: es) t) (hdb : (x == ("__debug__" : Str)) = false) (he : noSt (e :: es) = true) :
    PE X (.Call (.Name x p) (e :: es) [] pos) (tCallD sp dvs E t) := by
  refine ⟨fun pins s σ H Q I h => ?_⟩
  refine wpAny_Call_Name_kw (ld_glob I hg hm ?_ hdb)
  have h1 := he
  simp only [noSt, List.all_cons, Bool.and_eq_true] at h1
  refine PySem.W.callWith_K (h₀ := X.base) I.ok.mod.kin hk ?_ (starC h1.1) (star_all h1.2)
  refine thn (ha.run pos pins s σ H _ I h) fun us s1 ⟨vs, H1, I1, r, q⟩ => ?_
  exact ⟨I1.kIn, run_D F hr hb hd (hx σ) I1 r q⟩
theorem pe_callD0 (F : FnOk X.prog X.w X.K X.mg X.base CX k f fd ps sp) (hr : Room k X.A) (hg : Gl X x) (hm : X.mg x = some (.ref f)) (hk : PySem.W.keepIn X.K (.ref f) = true)
    (hb : Binds X.K fd ps ds) (hd : Vals dvs ds) (hx : ∀ σ, PassesAt CX X σ (E σ)) (hdb : (x == ("__debug__" : Str)) = false) :
    PE X (.Call (.Name x p) [] [] pos) (tCallD sp dvs E tNil) := by
  refine ⟨fun pins s σ H Q I h => ?_⟩
  refine wpAny_Call_Name_kw (ld_glob I hg hm ?_ hdb)
  exact PySem.W.callWith_K0 I.kIn hk (run_D (us := []) (vs := []) F hr hb hd (hx σ) I .nil h)
/-! methods -/
def tMethD (C : Addr) (m : Str) (sp : Sp) (dvs : List V) (E : L2.St → XK) (ta : TE) (t : TA) : TE := fun σ H Q => ta σ H fun x H1 => ∃ a dx fs, x = .ref a ∧ H1 a = some (.ins C dx fs) ∧ fs.lookup m = none ∧
  t σ H1 fun vs H2 => sp (x :: (vs ++ dvs)) H2 Q (E σ)
theorem pe_methD {pl : Sem Bool} (he : PE X o ta) (c : Cls X.K C) (hm : Meth X.K C m f) (F : FnOk X.prog X.w X.K X.mg X.base CX k f fd ps sp) (hr : Room k X.A) (hb : Binds X.K fd ps ds) (hd : Vals dvs ds) (hx : ∀ σ, PassesAt CX X σ (E σ)) (ha : PA X (e :: es) t)
    (hst : noSt (e :: es) = true)
    (ht : eval (.Call (.Attribute o m apos) (e :: es) [] pos) X.env = (do
      let ov ← eval o X.env
      standAt apos.atName
      let (f, first) ← holding [ov] (getMethod ov m pl)
      callWith pos f first (backTo pos (starEach (e :: es) X.env)) (backToKw pos (keywordEach [] X.env))) := by rfl) :
    PE X (.Call (.Attribute o m apos) (e :: es) [] pos) (tMethD C m sp dvs E ta t) := by
  refine ⟨fun pins s σ H Q I h => ?_⟩
  have h1 := hst
  simp only [noSt, List.all_cons, Bool.and_eq_true] at h1
  refine PySem.W.methodCall_KW (pl := pl) (thn (he.run pins s σ H _ I h) fun u s1 ⟨x, H1, I1, rx, a, dx, fs, ex, ea, l, q⟩ => ?_) ht
  subst ex
  obtain rfl : u = Value.ref a := rx
  refine getmeth_ok I1 ea c hm l ?_
  refine PySem.W.callWith_K (first := [.ref a]) (h₀ := X.base) I.ok.mod.kin hm.kp (thn (ha.run pos pins s1 σ H1 _ I1 q) fun us s2 ⟨vs, H2, I2, r, q2⟩ => ⟨I2.kIn, ?_⟩) (starC h1.1) (star_all h1.2)
  exact run_D (us := .ref a :: us) (vs := .ref a :: vs) F hr hb hd (hx σ) I2 (.cons rfl r) q2
theorem pe_methD0 {pl : Sem Bool} (he : PE X o ta) (c : Cls X.K C) (hm : Meth X.K C m f) (F : FnOk X.prog X.w X.K X.mg X.base CX k f fd ps sp) (hr : Room k X.A) (hb : Binds X.K fd ps ds) (hd : Vals dvs ds) (hx : ∀ σ, PassesAt CX X σ (E σ))
    (ht : eval (.Call (.Attribute o m apos) [] [] pos) X.env = (do
      let ov ← eval o X.env
      standAt apos.atName
      let (f, first) ← holding [ov] (getMethod ov m pl)
      callWith pos f first (backTo pos (starEach [] X.env)) (backToKw pos (keywordEach [] X.env))) := by rfl) :
    PE X (.Call (.Attribute o m apos) [] [] pos) (tMethD C m sp dvs E ta tNil) := by
  refine ⟨fun pins s σ H Q I h => ?_⟩
  refine PySem.W.methodCall_KW (pl := pl) (thn (he.run pins s σ H _ I h) fun u s1 ⟨x, H1, I1, rx, a, dx, fs, ex, ea, l, q⟩ => ?_) ht
  subst ex
  obtain rfl : u = Value.ref a := rx
  refine getmeth_ok I1 ea c hm l ?_
  exact PySem.W.callWith_K0 (first := [.ref a]) I1.kIn hm.kp (run_D (us := [.ref a]) (vs := [.ref a]) F hr hb hd (hx σ) I1 (.cons rfl .nil) q)
/-! new instances -/
def tMakeD (C : Addr) (sp : Sp) (dvs : List V) (E : L2.St → XK) (t : TA) : TE := fun σ H Q => t σ H fun vs H1 => ∀ x dx, H1 x = none → H1 dx = none → dx ≠ x →
  sp (.ref x :: (vs ++ dvs)) (upd (upd H1 dx (.own x)) x (.ins C dx [])) (fun v H2 => v = .non ∧ Q (.ref x) H2) (E σ)
theorem run_makeD {pins : List (Addr × Obj)} {σ : L2.St} {H : Hp} {s : Shared} {Q : VK} {us : List Value} {vs : List V} (M : Mk X.K C f) (F : FnOk X.prog X.w X.K X.mg X.base CX k f fd ps sp) (hr : Room (k + 1) X.A) (hb : Binds X.K fd ps ds) (hd : Vals dvs ds)
    (hx : ∀ H' s' e s'' , Inv X pins σ H' s' → CX X.stack H' s' (E σ) e s'' → X.xe e s'') (I : Inv X pins σ H s) (r : Vals vs us)
    (h : ∀ x dx, H x = none → H dx = none → dx ≠ x → sp (.ref x :: (vs ++ dvs)) (upd (upd H dx (.own x)) x (.ins C dx [])) (fun v H2 => v = .non ∧ Q (.ref x) H2) (E σ)) :
    wpAny (model X.prog X.w) X.A (call (.ref C) us) (EP X pins σ Q) X.xe s := by
  have hq := h (s.heap.objs.size + 1) s.heap.objs.size (I.hok.fresh (Nat.le_succ _)) (I.hok.fresh (Nat.le_refl _)) (Nat.ne_of_lt (Nat.lt_succ_self _))
  have I2 := Inv.made (C := C) I
  have r2 : Vals (V.ref (s.heap.objs.size + 1) :: (vs ++ dvs)) (Value.ref (s.heap.objs.size + 1) :: (us ++ ds)) := .cons rfl (r.append hd)
  have hl : (Value.ref (s.heap.objs.size + 1) :: us ++ ds).length = ps.length := by
    have e := r2.length
    rw [F.len _ _ _ _ hq] at e
    exact e.symm
  refine wpAny_call (make_map (f := f) I.kIn M.makes M.init (beq_iff_eq.mp M.fn) (codeAny_mono (F.run _ X.stack _ _ ⟨Value.ref (s.heap.objs.size + 1) :: us, []⟩ (Value.ref (s.heap.objs.size + 1) :: (us ++ ds)) _ _ (E σ) (hr.make C us [])
    (I2.env0.make C us []) (hb _ (Value.ref (s.heap.objs.size + 1) :: us) I2.kIn hl) r2 hq) fun r s' hq' => ?_))
  cases r with
  | error e => exact hx _ _ e s' I2 hq'
  | ok fl =>
    cases fl with
    | ret u =>
      obtain ⟨v, H', I3, rv, ev, q3⟩ := I2.after hq'
      subst ev
      exact ⟨rv, ⟨V.ref (s.heap.objs.size + 1), H', I3, rfl, q3⟩⟩
    | next => exact False.elim hq'
    | brk => exact False.elim hq'
    | cont => exact False.elim hq'
theorem pe_makeD (M : Mk X.K C f) (F : FnOk X.prog X.w X.K X.mg X.base CX k f fd ps sp) (hr : Room (k + 1) X.A) (hg : Gl X x) (hm : X.mg x = some (.ref C)) (hb : Binds X.K fd ps ds) (hd : Vals dvs ds) (hx : ∀ σ, PassesAt CX X σ (E σ))
    (ha : PA X (e :: es) t) (hdb : (x == ("__debug__" : Str)) = false) (he : noSt (e :: es) = true) :
    PE X (.Call (.Name x p) (e :: es) [] pos) (tMakeD C sp dvs E t) := by
  refine ⟨fun pins s σ H Q I h => ?_⟩
  have h1 := he
  simp only [noSt, List.all_cons, Bool.and_eq_true] at h1
  refine wpAny_Call_Name_kw (ld_glob I hg hm ?_ hdb)
  refine PySem.W.callWith_K (h₀ := X.base) I.ok.mod.kin M.kp (thn (ha.run pos pins s σ H _ I h) fun us s1 ⟨vs, H1, I1, r, q⟩ => ⟨I1.kIn, ?_⟩) (starC h1.1) (star_all h1.2)
  exact run_makeD M F hr hb hd (fun H' s' e s'' I' c => hx σ pins H' s' e s'' I' c) I1 r q
theorem pe_makeD0 (M : Mk X.K C f) (F : FnOk X.prog X.w X.K X.mg X.base CX k f fd ps sp) (hr : Room (k + 1) X.A) (hg : Gl X x) (hm : X.mg x = some (.ref C)) (hb : Binds X.K fd ps ds) (hd : Vals dvs ds) (hx : ∀ σ, PassesAt CX X σ (E σ))
    (hdb : (x == ("__debug__" : Str)) = false) : PE X (.Call (.Name x p) [] [] pos) (tMakeD C sp dvs E tNil) := by
  refine ⟨fun pins s σ H Q I h => ?_⟩
  refine wpAny_Call_Name_kw (ld_glob I hg hm ?_ hdb)
  exact PySem.W.callWith_K0 I.kIn M.kp (run_makeD (us := []) M F hr hb hd (fun H' s' e s'' I' c => hx σ pins H' s' e s'' I' c) I .nil h)
/-! C.__init__(self, ..) of a class of one's own -/
theorem pe_cini {pl : Sem Bool} (hg : Gl X x) (hm : X.mg x = some (.ref C)) (hdb : (x == ("__debug__" : Str)) = false)
    (hf : ∀ (s : Shared) (Q : Value × List Value → Shared → Prop) (E' : Value → Shared → Prop), X.K.In s.heap → Q (.ref f, []) { s with toks := s.toks + 1 } → wpAny (model X.prog X.w) X.A (getMethod (.ref C) m pl) Q E' s)
    (hk : PySem.W.keepIn X.K (.ref f) = true)
    (F : FnOk X.prog X.w X.K X.mg X.base CX k f fd ps sp) (hr : Room k X.A) (hb : Binds X.K fd ps ds) (hd : Vals dvs ds) (hx : ∀ σ, PassesAt CX X σ (E σ)) (ha : PA X (e :: es) t)
    (hst : noSt (e :: es) = true)
    (ht : eval (.Call (.Attribute (.Name x p) m apos) (e :: es) [] pos) X.env = (do
      let ov ← eval (.Name x p) X.env
      standAt apos.atName
      let (f, first) ← holding [ov] (getMethod ov m pl)
      callWith pos f first (backTo pos (starEach (e :: es) X.env)) (backToKw pos (keywordEach [] X.env))) := by rfl) :
    PE X (.Call (.Attribute (.Name x p) m apos) (e :: es) [] pos) (tCallD sp dvs E t) := by
  refine ⟨fun pins s σ H Q I h => ?_⟩
  have h1 := hst
  simp only [noSt, List.all_cons, Bool.and_eq_true] at h1
  refine PySem.W.methodCall_KW (pl := pl) (ld_glob I hg hm ?_ hdb) ht
  refine hf s _ _ I.kIn ?_
  refine PySem.W.callWith_K (first := []) (h₀ := X.base) I.ok.mod.kin hk (thn (ha.run pos pins _ σ H _ (I.tok _) h) fun us s2 ⟨vs, H2, I2, r, q2⟩ => ⟨I2.kIn, ?_⟩) (starC h1.1) (star_all h1.2)
  exact run_D (us := us) (vs := vs) F hr hb hd (hx σ) I2 r q2
end
end Q
/-! Q3: the readings of expressions, and their text. -/
namespace Q
open PySem L2 PySem.Spec
/-- what an expression reads: as a value, a test, items, a slice's part, ifs of a comprehension, operands of and, or; as what is walked over -/
structure Rd where
  E : TE := fun _ _ _ => False
  T : TT := fun _ _ _ => False
  L : TA := fun _ _ _ => False
  O : TO := fun _ _ _ => False
  P : TT := fun _ _ _ => False
  A : TT := fun _ _ _ => False
  R : TT := fun _ _ _ => False
  AV : TE := fun _ _ _ => False
  RV : TE := fun _ _ _ => False
  I : TI := fun _ _ _ => False
def Rd.val (t : TE) : Rd := { E := t, T := tB t }
abbrev noX : WX := fun _ _ _ _ => False
def elen : E → Nat
  | .cons _ es => elen es + 1
  | _ => 0
/-- a call of a def with n arguments -/
def rCall (R : Row) (C : Kc) (n : Nat) (E : L2.St → XK) (t : TA) : TE :=
  if n ≤ R.ar ∧ R.ar ≤ n + R.dfl.length then tCallD (R.sp C) (R.dfl.drop (n + R.dfl.length - R.ar)) E t else fun _ _ _ => False
/-- isinstance(x, C), x an instance of the class itself -/
def rIsC (D : Addr) : List V → Hp → VK → Prop := fun xs H Q => ∃ a dx fs, xs = [.ref a, .ref D] ∧ H a = some (.ins D dx fs) ∧ Q (.bl true) H
def rMeth (T : Tb) (C : Kc) (cs : List Nat) (m : Str) (n : Nat) (E : L2.St → XK) (ta : TE) (t : TA) : TE := fun σ H Q => ∃ c ∈ cs, (n + 1 ≤ (T.f (T.mt c m)).ar ∧ (T.f (T.mt c m)).ar ≤ n + 1 + (T.f (T.mt c m)).dfl.length) ∧
  tMethD (C.cl c) m ((T.f (T.mt c m)).sp C) ((T.f (T.mt c m)).dfl.drop (n + 1 + (T.f (T.mt c m)).dfl.length - (T.f (T.mt c m)).ar)) E ta t σ H Q
def rMake (T : Tb) (C : Kc) (c n : Nat) (E : L2.St → XK) (t : TA) : TE :=
  if n + 1 ≤ (T.f (T.ini c)).ar ∧ (T.f (T.ini c)).ar ≤ n + 1 + (T.f (T.ini c)).dfl.length then tMakeD (C.cl c) ((T.f (T.ini c)).sp C) ((T.f (T.ini c)).dfl.drop (n + 1 + (T.f (T.ini c)).dfl.length - (T.f (T.ini c)).ar)) E t else fun _ _ _ => False
abbrev iOr (r r' : V → Option Int → Option Int → Hp → VK → Prop) : V → Option Int → Option Int → Hp → VK → Prop := fun x l h H Q => r x l h H Q ∨ r' x l h H Q
def rIxA (K : Frag) : R2 := rOr (rIx K) fun x y H Q => ∃ a v, x = .ref a ∧ DGet H a y (some v) ∧ Q v H
def bmT : Bm → String
  | .lApp => "list" | .lExt => "list" | .lIns => "list" | .lPop => "list" | .lPopAt => "list" | .lClr => "list" | .lIdx => "list" | .lCnt => "list" | .sSplit => "str" | .sFind => "str" | .sCnt => "str"
def bmS : Bm → Str
  | .lApp => "append" | .lExt => "extend" | .lIns => "insert" | .lPop => "pop" | .lPopAt => "pop" | .lClr => "clear" | .lIdx => "index" | .lCnt => "count" | .sSplit => "split" | .sFind => "find" | .sCnt => "count"
def rBm (K : Frag) : Bm → V → List V → Hp → VK → Prop
  | .lApp => rAppend
  | .lExt => rExtend
  | .lIns => fun x vs H Q => ∃ (l : Addr) (xs : List V) (i : Int) (y : V), x = .ref l ∧ vs = [.int i, y] ∧ H l = some (.lst xs) ∧ xs.length < sizeLine ∧ 0 ≤ i ∧ i < 2 ^ 63 ∧ Q .non (upd H l (.lst (xs.take i.toNat ++ [y] ++ xs.drop i.toNat)))
  | .lPop => rPop
  | .lPopAt => rPopAt
  | .lClr => rClear
  | .lIdx => fun x xs H Q => rIndex K x xs H Q ∨ rIndexD K x xs H Q
  | .lCnt => rCntI K
  | .sSplit => fun x xs H Q => ∃ a b, x = .str a ∧ xs = [.str b] ∧ (b.length == 0) = false ∧ a.length + 2 ≤ sizeLine ∧ rNewStrs (Txt.split a b) H Q
  | .sFind => fun x xs H Q => ∃ a b, x = .str a ∧ xs = [.str b] ∧ Q (.int (Txt.find a b)) H
  | .sCnt => fun x xs H Q => ∃ a b, x = .str a ∧ xs = [.str b] ∧ Q (.int (Txt.count a b)) H
def gNs : List Nat → TGs
  | [] => gNil
  | i :: is => gCons (gName i) (gNs is)
/-- a target: one name, or names for a tuple's items -/
def gTg (K : Frag) : List Nat → TG
  | [i] => gName i
  | is => gTup K is.length (gNs is)
/-- the exception at hand -/
def rIsx (T : Tb) (C : Kc) (i : Nat) (cs : List Nat) : TE := fun σ H Q => ∃ m a dx, C.ex = some (m, a, dx) ∧ σ[i]? = some (some (.ref a)) ∧ cs.length ≤ sizeLine ∧ (∀ d, dx = some d → ∃ fs, H d = some (.xd fs)) ∧ ∀ H', (∀ b o, H b = some o → H' b = some o) → Q (.bl (cs.any (T.sub m))) H'
def rExf (C : Kc) (i : Nat) (f : Str) : TE := fun σ H Q => ∃ m a d fs v, C.ex = some (m, a, some d) ∧ σ[i]? = some (some (.ref a)) ∧ H d = some (.xd fs) ∧ fs.lookup f = some v ∧ PySem.W.findIn C.K (.ref (C.cl m)) f = some none ∧ Q v H
def rd (T : Tb) (C : Kc) : E → WX → Rd
  | .var i, _ => .val (tVar i)
  | .int n, _ => .val (tC (.int n))
  | .str s, _ => .val (tC (.str s))
  | .bl b, _ => .val (tC (.bl b))
  | .non, _ => .val (tC .non)
  | .glo n, _ => .val (tC (C.gl n))
  | .bin o a b, W => .val (tOp (rBin C.K o) (rd T C a W).E (rd T C b W).E)
  | .neg a, W => .val (tUn (rU fun i => .int (-i)) (rd T C a W).E)
  | .cmp o a b, W => .val (tOp (rCmp C.K o) (rd T C a W).E (rd T C b W).E)
  | .chn o p a b c, W => .val (tChain (rCmp C.K o) (rCmp C.K p) (rd T C a W).E (rd T C b W).E (rd T C c W).E)
  | .nt a, W => { E := tNotV (rd T C a W).E, T := tNot (rd T C a W).T }
  | .and es, W => { E := (rd T C es W).AV, T := (rd T C es W).A }
  | .or es, W => { E := (rd T C es W).RV, T := (rd T C es W).R }
  | .ife c a b, W => { E := tIf (rd T C c W).T (rd T C a W).E (rd T C b W).E }
  | .tup es, W => .val (tTup (rd T C es W).L)
  | .lst es, W => .val (tLst (rd T C es W).L)
  | .nil, _ => { L := tNil, O := tNoPart, P := tYes }
  | .cons e es, W =>
    { L := tCons (rd T C e W).E (rd T C es W).L
      O := tPart (rd T C e W).E
      P := (rd T C e W).T
      A := if elen es = 0 then (rd T C e W).T else tAnd (rd T C e W).T (rd T C es W).A
      R := if elen es = 0 then (rd T C e W).T else tOr (rd T C e W).T (rd T C es W).R
      AV := if elen es = 0 then (rd T C e W).E else tAndV (rd T C e W).E (rd T C es W).AV
      RV := if elen es = 0 then (rd T C e W).E else tOrV (rd T C e W).E (rd T C es W).RV }
  | .ix a i, W => .val (tOp (rIxA C.K) (rd T C a W).E (rd T C i W).E)
  | .sl a lo hi, W => .val (tSl (iOr (rSlL C.K) (iOr rSlS (rSlT C.K))) (rd T C a W).E (rd T C lo W).O (rd T C hi W).O)
  | .call i es, W => .val (rCall (T.f i) C (elen es) (WE W) (rd T C es W).L)
  | .callH i es, W => .val (rCall (T.f i) C (elen es) (WE W) (rd T C es W).L)
  | .blt f es, W => .val (tCB (rBlt C.K f) (rd T C es W).L)
  | .isC a n, W => .val (tCB (rIsC (C.cl n)) (tCons (rd T C a W).E (tCons (tC (.ref (C.cl n))) tNil)))
  | .isi a t, W => .val (tCB (rIsi C.K) (tCons (rd T C a W).E (tCons (tC (.ty t)) tNil)))
  | .att a f, W => .val (tFld C.K (rd T C a W).E f)
  | .mth cs a m es, W => .val (rMeth T C cs m (elen es) (WE W) (rd T C a W).E (rd T C es W).L)
  | .mthH cs a m es, W => .val (rMeth T C cs m (elen es) (WE W) (rd T C a W).E (rd T C es W).L)
  | .mk c es, W => .val (rMake T C c (elen es) (WE W) (rd T C es W).L)
  | .binit c es, W => .val (rCall (T.f (T.ini c)) C (elen es) (WE W) (rd T C es W).L)
  | .bm m a es, W => .val (if elen es = 0 then tBM0 C.K (bmT m) (rBm C.K m) (rd T C a W).E else tBM C.K (bmT m) (rBm C.K m) (rd T C a W).E (rd T C es W).L)
  | .join s e, W => .val (tM1 (fun x xs H Q => ∃ a p, ∃ ys : List Str, x = .str a ∧ xs = [.ref p] ∧ (SqL C.K H p (ys.map V.str) ∨ SqT C.K H p (ys.map V.str)) ∧ (ys.map (·.length)).sum + ys.length * a.length ≤ 16777216 ∧ Q (.str (Txt.join a ys)) H) (tC (.str s)) (rd T C e W).E)
  | .dct, _ => .val tDNewK
  | .dd0 a ks z, W => .val (tDisp (ks.map fun k => (tOp (rIxA C.K) (rd T C a W).E (tC (.int k)), tC (.int z))))
  | .dtt, _ => .val tDNewT
  | .dget d k z, W => .val (tDGet2 (rd T C d W).E (rd T C k W).E (rd T C z W).E)
  | .dsetd d k z, W => .val (tDSetd (rd T C d W).E (rd T C k W).E (rd T C z W).E)
  | .dpop d k, W => .val (tDPop1 (rd T C d W).E (rd T C k W).E)
  | .ditm d, W => .val (LiI.tListItems (rd T C d W).E)
  | .lrev e, W => .val (tLstRev C.K (rd T C e W).E)
  | .sset e, W => .val (tSSet C.K (rd T C e W).E)
  | .lc js it c e, W => .val (tLc (rd T C it W).I (gTg C.K js) (rd T C c noX).P (rd T C e noX).E js)
  | .iL e, W => { I := iList C.K (rd T C e W).E }
  | .iT e, W => { I := iTup C.K (rd T C e W).E }
  | .iR1 a, W => { I := iRng1 (tCons (rd T C a W).E tNil) }
  | .iR2 a b, W => { I := iRng2 (tCons (rd T C a W).E (tCons (rd T C b W).E tNil)) }
  | .iR3 a b d, W => { I := iRng3 (tCons (rd T C a W).E (tCons (rd T C b W).E (tCons (rd T C d W).E tNil))) }
  | .iEn e, W => { I := iEnum C.K (tCons (rd T C e W).E tNil) }
  | .iZp a b, W => { I := iZip C.K (tCons (rd T C a W).E (tCons (rd T C b W).E tNil)) }
  | .iIt e, W => { I := iItems (rd T C e W).E }
  | .iDv e, W => { I := iVals (rd T C e W).E }
  | .iDk e, W => { I := iKeys (rd T C e W).E }
  | .iSt e, W => { I := iStr (rd T C e W).E }
  | .iRv e, W => { I := iRev C.K (tCons (rd T C e W).E tNil) }
  | .isx i c, _ => .val (rIsx T C i [c])
  | .isxs i cs, _ => .val (rIsx T C i cs)
  | .isv i, _ => .val fun σ H Q => ∃ m a dx, C.ex = some (m, a, dx) ∧ σ[i]? = some (some (.ref a)) ∧ (∀ d, dx = some d → ∃ fs, H d = some (.xd fs)) ∧ Q (.bl true) H
  | .exf i f, _ => .val (rExf C i f)

/-! ### the text -/
structure Gt where
  T : Tb
  fn : Nat → Str
  cn : Nat → Str
  gs : List Nat
  gn : Nat → Str
  cs : List Nat
structure Cn where
  N : List Str
  hot : Bool
  fs : List Nat
  hs : List Nat
  ms : List (Nat × Str)
  mh : List (Nat × Str)
  mks : List Nat
  bi : List Nat
  rs : List Nat
def visB (sc : Scope) (x : Str) : Bool := match sc.names.lookup x with
  | some .local => true
  | some .cell => true
  | some .free => true
  | _ => false
def nmB (x : Str) : Bool := !(x == ("__debug__" : Str)) && !(x == ("__classdict__" : Str))
def glB (sc : Scope) (x : Str) : Bool := decide (sc.names.lookup x = some .globalImplicit) && !(x == ("__debug__" : Str)) && !(x == ("__name__" : Str))
def binOk : Operator → Bool
  | .Add => true | .Sub => true | .Mult => true | .FloorDiv => true | .Mod => true | .Pow => true
  | _ => false
def tysOk : List String := ["bool", "int", "str", "tuple", "list", "dict"]
def locB (sc : Scope) (x : Str) : Bool := match sc.names.lookup x with
  | some .local => true
  | some .cell => true
  | _ => false
def ckN (c : Cn) (sc : Scope) : List Nat → List Expr → Bool
  | [], [] => true
  | i :: is, .Name x _ :: xs => decide (c.N[i]? = some x) && locB sc x && ckN c sc is xs
  | _, _ => false
def ckTg (c : Cn) (sc : Scope) : List Nat → Expr → Bool
  | [i], .Name x _ => decide (c.N[i]? = some x) && locB sc x
  | i :: j :: is, .Tuple xs _ _ => ckN c sc (i :: j :: is) xs
  | _, _ => false
/-- a comprehension's own names -/
def tgNs : Expr → List Str
  | .Name x _ => [x]
  | .Tuple xs _ _ => xs.filterMap fun | .Name x _ => some x | _ => none
  | _ => []
def vName (c : Cn) (sc : Scope) (i : Nat) (x : Str) : Bool := decide (c.N[i]? = some x) && visB sc x && nmB x
/-- what is walked over with a tuple of names only -/
def freeIt : E → Bool
  | .iEn _ => false
  | .iZp _ _ => false
  | .iIt _ => false
  | _ => true
def isTupE : Expr → Bool
  | .Tuple _ _ _ => true
  | _ => false
/-- a tuple of own classes -/
def ckCs (G : Gt) (sc : Scope) : List Nat → List Expr → Bool
  | [], [] => true
  | n :: ns, .Name m _ :: ys => decide (n ∈ G.cs) && decide (m = G.cn n) && glB sc m && ckCs G sc ns ys
  | _, _ => false
def ckC (c : Cn) (sc scope : Scope) (js : List Nat) (tg : Expr) : Bool := decide ((tgNs tg).length = js.length) && blkC c.N sc scope ((tgNs tg).zip js) && (tgNs tg).all fun x => decide ((relS scope sc).names.lookup x = some .local)
/-- {x[k]: z, ..}: f sees the x of each -/
def ckDD (f : Expr → Bool) (z : Int) : List Int → List (Option Expr) → List Expr → Bool
  | [], [], [] => true
  | k :: ks, some (.Subscript x (.Constant (.int k') _ _) _) :: keys, .Constant (.int z') _ _ :: vs => f x && decide (k = k') && decide (z = z') && ckDD f z ks keys vs
  | _, _, _ => false
mutual
def ckE (G : Gt) (c : Cn) : Scope → E → Expr → Bool
  | sc, .var i, .Name x _ => vName c sc i x
  | _, .int n, .Constant (.int m) _ _ => decide (n = m)
  | _, .str n, .Constant (.str m) _ _ => decide (n = m)
  | _, .bl n, .Constant (.bool m) _ _ => decide (n = m)
  | _, .non, .Constant .none _ _ => true
  | sc, .glo n, .Name x _ => decide (n ∈ G.gs) && decide (x = G.gn n) && glB sc x
  | sc, .bin o a b, .BinOp x o' y _ => decide (o = o') && binOk o && ckE G c sc a x && ckE G c sc b y
  | sc, .neg a, .UnaryOp .USub x _ => ckE G c sc a x
  | sc, .cmp o a b, .Compare x [o'] [y] _ => decide (o = o') && ckE G c sc a x && ckE G c sc b y
  | sc, .chn o p a b d, .Compare x [o', p'] [y, z] _ => decide (o = o') && decide (p = p') && ckE G c sc a x && ckE G c sc b y && ckE G c sc d z
  | sc, .nt a, .UnaryOp .Not x _ => ckE G c sc a x
  | sc, .and es, .BoolOp .And (x :: xs) _ => ckL G c sc es (x :: xs)
  | sc, .or es, .BoolOp .Or (x :: xs) _ => ckL G c sc es (x :: xs)
  | sc, .ife t a b, .IfExp z x y _ => ckE G c sc t z && ckE G c sc a x && ckE G c sc b y
  | sc, .tup es, .Tuple xs _ _ => ckL G c sc es xs
  | sc, .lst es, .List xs _ => ckL G c sc es xs
  | sc, .ix a i, .Subscript x y _ => ckE G c sc a x && ckE G c sc i y
  | sc, .sl a lo hi, .Subscript x (.Slice l h none _) _ => ckE G c sc a x && ckO G c sc lo l && ckO G c sc hi h
  | sc, .call i es, .Call (.Name f _) xs [] _ => !c.hot && !(f == ("super" : Str)) && decide (i ∈ c.fs) && decide (f = G.fn i) && glB sc f && ckL G c sc es xs
  | sc, .callH i es, .Call (.Name f _) (x :: xs) [] _ => c.hot && decide (i ∈ c.hs) && decide (f = G.fn i) && glB sc f && ckL G c sc es (x :: xs)
  | sc, .blt f es, .Call (.Name n _) (x :: xs) [] _ => (!c.hot || bltHot f) && decide (n = bltS f) && glB sc n && ckL G c sc es (x :: xs)
  | sc, .dd0 a ks z, .Dict keys vs _ => decide (0 < ks.length) && decide (ks.length ≤ 15) && ckDD (fun x => ckE G c sc a x) z ks keys vs
  | sc, .isC a n, .Call (.Name m _) [x, .Name y _] [] _ => decide (m = ("isinstance" : Str)) && decide (n ∈ c.mks) && decide (y = G.cn n) && glB sc m && glB sc y && ckE G c sc a x
  | sc, .isi a t, .Call (.Name n _) [x, .Name m _] [] _ => decide (n = ("isinstance" : Str)) && decide (m = Str.ofString t) && tysOk.contains t && glB sc n && glB sc m && ckE G c sc a x
  | sc, .att a f, .Attribute x m _ => decide (f = m) && ckE G c sc a x
  | sc, .mth cs a m es, .Call (.Attribute x n ap) xs [] cp => (ap.endLine == cp.line) && decide (xs.length < 10) && !c.hot && decide (m = n) && cs.all (fun d => decide ((d, m) ∈ c.ms)) && ckE G c sc a x && ckL G c sc es xs
  | sc, .mk n es, .Call (.Name f _) xs [] _ => !c.hot && !(f == ("super" : Str)) && decide (n ∈ c.mks) && decide (f = G.cn n) && glB sc f && ckL G c sc es xs
  | sc, .binit n es, .Call (.Attribute (.Name f _) m ap) (x :: xs) [] cp => (ap.endLine == cp.line) && decide ((x :: xs).length < 10) && !c.hot && decide (n ∈ c.bi) && decide (f = G.cn n) && decide (m = ("__init__" : Str)) && glB sc f && ckL G c sc es (x :: xs)
  | sc, .bm m a es, .Call (.Attribute x n ap) xs [] cp => decide (n = bmS m) && (ap.endLine == cp.line) && decide (xs.length < 10) && ckE G c sc a x && ckL G c sc es xs
  | sc, .join s e, .Call (.Attribute (.Constant (.str s') _ _) m ap) [y] [] cp => decide (s = s') && decide (m = ("join" : Str)) && (ap.endLine == cp.line) && ckE G c sc e y
  | _, .dct, .Dict [] [] _ => true
  | _, .dtt, .Dict [] [] _ => true
  | sc, .dget d k z, .Call (.Attribute x m ap) [y, w] [] cp => decide (m = ("get" : Str)) && (ap.endLine == cp.line) && ckE G c sc d x && ckE G c sc k y && ckE G c sc z w
  | sc, .dsetd d k z, .Call (.Attribute x m ap) [y, w] [] cp => decide (m = ("setdefault" : Str)) && (ap.endLine == cp.line) && ckE G c sc d x && ckE G c sc k y && ckE G c sc z w
  | sc, .dpop d k, .Call (.Attribute x m ap) [y] [] cp => decide (m = ("pop" : Str)) && (ap.endLine == cp.line) && ckE G c sc d x && ckE G c sc k y
  | sc, .ditm d, .Call (.Name l _) [.Call (.Attribute x m ap) [] [] cp] [] _ => !c.hot && decide (l = ("list" : Str)) && glB sc l && decide (m = ("items" : Str)) && (ap.endLine == cp.line) && ckE G c sc d x
  | sc, .lrev e, .Call (.Name l _) [.Call (.Name r _) [x] [] _] [] _ => !c.hot && decide (l = ("list" : Str)) && decide (r = ("reversed" : Str)) && glB sc l && glB sc r && ckE G c sc e x
  | sc, .sset e, .Call (.Name l _) [.Call (.Name r _) [x] [] _] [] _ => !c.hot && decide (l = ("sorted" : Str)) && decide (r = ("set" : Str)) && glB sc l && glB sc r && ckE G c sc e x
  | sc, .lc js it t e, .ListComp elt [⟨tg, iter, ifs, 0⟩] scope _ => !c.hot && ckI G c sc it iter && (isTupE tg || freeIt it) && ckC c sc scope js tg && ckTg c (relS scope sc) js tg && ckL G c (relS scope sc) t ifs && decide (ifs.length ≤ 1) && ckE G c (relS scope sc) e elt
  | sc, .isx i n, .Call (.Name nm _) [.Name x _, .Name m _] [] _ => c.hot && decide (n ∈ G.cs) && decide (nm = ("isinstance" : Str)) && decide (m = G.cn n) && glB sc nm && glB sc m && vName c sc i x
  | sc, .isv i, .Call (.Name nm _) [.Name x _, .Name m _] [] _ => c.hot && decide (nm = ("isinstance" : Str)) && decide (m = ("ValueError" : Str)) && glB sc nm && glB sc m && vName c sc i x
  | sc, .isxs i ns, .Call (.Name nm _) [.Name x _, .Tuple ys _ _] [] _ => c.hot && decide (nm = ("isinstance" : Str)) && ckCs G sc ns ys && glB sc nm && vName c sc i x
  | sc, .exf i f, .Attribute (.Name x _) m _ => c.hot && decide (f = m) && vName c sc i x
  | _, _, _ => false
def ckL (G : Gt) (c : Cn) : Scope → E → List Expr → Bool
  | _, .nil, [] => true
  | sc, .cons e es, x :: xs => ckE G c sc e x && ckL G c sc es xs
  | _, _, _ => false
def ckO (G : Gt) (c : Cn) : Scope → E → Option Expr → Bool
  | _, .nil, none => true
  | sc, .cons e .nil, some x => ckE G c sc e x
  | _, _, _ => false
def ckI (G : Gt) (c : Cn) : Scope → E → Expr → Bool
  | sc, .iL e, x => ckE G c sc e x
  | sc, .iT e, x => ckE G c sc e x
  | sc, .iDk e, x => ckE G c sc e x
  | sc, .iSt e, x => ckE G c sc e x
  | sc, .iR1 e, .Call (.Name n _) [x] [] _ => decide (n = ("range" : Str)) && glB sc n && ckE G c sc e x
  | sc, .iR2 e f, .Call (.Name n _) [x, y] [] _ => decide (n = ("range" : Str)) && glB sc n && ckE G c sc e x && ckE G c sc f y
  | sc, .iR3 e f h, .Call (.Name n _) [x, y, z] [] _ => decide (n = ("range" : Str)) && glB sc n && ckE G c sc e x && ckE G c sc f y && ckE G c sc h z
  | sc, .iEn e, .Call (.Name n _) [x] [] _ => decide (n = ("enumerate" : Str)) && glB sc n && ckE G c sc e x
  | sc, .iZp e f, .Call (.Name n _) [x, y] [] _ => decide (n = ("zip" : Str)) && glB sc n && ckE G c sc e x && ckE G c sc f y
  | sc, .iRv e, .Call (.Name n _) [x] [] _ => decide (n = ("reversed" : Str)) && glB sc n && ckE G c sc e x
  | sc, .iIt e, .Call (.Attribute x m ap) [] [] cp => decide (m = ("items" : Str)) && (ap.endLine == cp.line) && ckE G c sc e x
  | sc, .iDv e, .Call (.Attribute x m ap) [] [] cp => decide (m = ("values" : Str)) && (ap.endLine == cp.line) && ckE G c sc e x
  | _, _, _ => false
end
end Q
/-! Q4: an expression of this text reads so. -/
namespace Q
open PySem L2 PySem.Spec
structure Gx extends Gt where
  P : Program
  w : World
  C : Kc
  mg : Str → Option Value
  base : Heap
instance : Coe Gx Gt := ⟨Gx.toGt⟩
/-- the def at f keeps the promise of R, at level k -/
structure FnC (G : Gx) (k : Nat) (R : Row) (f : Addr) : Prop where
  ex : ∃ fd ps, FnOk G.P G.w G.C.K G.mg G.base (L2N.CX G.P G.w) k f fd ps (R.sp G.C) ∧ PySem.W.keepIn G.C.K (.ref f) = true ∧ ps.length = R.ar ∧
    ∀ n, n ≤ R.dfl.length → ∃ us, Binds G.C.K fd ps us ∧ Vals (R.dfl.drop n) us
def FnI (G : Gx) (k i : Nat) : Prop := ∃ f, FnC G k (G.T.f i) f ∧ G.mg (G.fn i) = some (.ref f)
/-- a method -/
def MtI (G : Gx) (k n : Nat) (m : Str) : Prop := ∃ f, FnC G k (G.T.f (G.T.mt n m)) f ∧ Cls G.C.K (G.C.cl n) ∧ Meth G.C.K (G.C.cl n) m f
/-- a class whose instances are made -/
def MkI (G : Gx) (k n : Nat) : Prop := ∃ f k', k' + 1 ≤ k ∧ FnC G k' (G.T.f (G.T.ini n)) f ∧ Mk G.C.K (G.C.cl n) f ∧ G.mg (G.cn n) = some (.ref (G.C.cl n)) ∧ C8.InsC G.C.K (G.C.cl n)
/-- a class whose __init__ is called by name -/
def BiI (G : Gx) (k n : Nat) : Prop := ∃ f, FnC G k (G.T.f (G.T.ini n)) f ∧ G.mg (G.cn n) = some (.ref (G.C.cl n)) ∧
  ∀ (pl : Sem Bool) (A : Around) (s : Shared) (Q : Value × List Value → Shared → Prop) (E' : Value → Shared → Prop), G.C.K.In s.heap → Q (.ref f, []) { s with toks := s.toks + 1 } → wpAny (model G.P G.w) A (getMethod (.ref (G.C.cl n)) "__init__" pl) Q E' s
/-- the object of the exception at hand: class m, its namespace -/
def ExO (G : Gt) (cl : Nat → Addr) (m : Nat) (dx : Option Addr) (oe : Obj) : Prop := m ∈ G.cs ∧ L2N.Zn (.ref (cl m)) dx oe ∧ ∃ vs, oe.data = .fields vs
/-- the same within an except suite, whatever exception is at hand -/
structure FnCH (G : Gx) (k : Nat) (R : Row) (f : Addr) : Prop where
  ex : ∃ fd ps, (∀ (m : Nat) (a : Addr) (dx : Option Addr) (oe : Obj) (base : Heap), ExO G.toGt G.C.cl m dx oe → (∀ b o, G.base.get? b = some o → base.get? b = some o) → base.get? a = some oe →
      L2H.FnH G.P G.w G.C.K G.mg base (L2N.CX G.P G.w) k f fd ps (R.sp { G.C with ex := some (m, a, dx) })) ∧ PySem.W.keepIn G.C.K (.ref f) = true ∧ ps.length = R.ar ∧
    ∀ n, n ≤ R.dfl.length → ∃ us, Binds G.C.K fd ps us ∧ Vals (R.dfl.drop n) us
def FnIH (G : Gx) (k i : Nat) : Prop := ∃ f, FnCH G k (G.T.f i) f ∧ G.mg (G.fn i) = some (.ref f)
/-- the exception at hand in the context -/
structure HotG (G : Gx) (k : Nat) (X : Cx) (m : Nat) (a : Addr) (dx : Option Addr) (oe : Obj) : Prop where
  ex : G.C.ex = some (m, a, dx)
  ob : ExO G.toGt G.C.cl m dx oe
  at_ : ∀ {pins σ H s}, Inv X pins σ H s → s.heap.get? a = some oe ∧ H a = none ∧ a ∉ frs X.stack
  hc : L2H.HotC X
  room : L2H.RoomH k X.A
def isxE : E → Bool
  | .isx _ _ => true
  | .isv _ => true
  | .isxs _ _ => true
  | .exf _ _ => true
  | _ => false
def GlF (G : Gx) (n : Nat) : Prop := ∃ u, G.mg (G.gn n) = some u ∧ RelV (G.C.gl n) u
def bltNames : List Str := ["len", "abs", "sum", "sorted", "list", "int", "str", "max", "min", "isinstance", "range", "bool", "tuple", "dict", "ValueError", "reversed", "enumerate", "any", "all", "zip", "set"]
structure Good (G : Gx) (c : Cn) (k : Nat) (sc : Scope) (Wx : WX) (X : Cx) : Prop where
  hP : X.prog = G.P
  hw : X.w = G.w
  hK : X.K = G.C.K
  hmg : X.mg = G.mg
  hb : X.base = G.base
  hN : X.N = c.N
  nd : c.N.Nodup
  hsc : X.env.scope = sc
  calm : c.hot = false → X.calm = true
  room : c.hot = false → Room k X.A
  units : X.A.units + 65 < cLine
  tk : L2N.Takes X Wx
  po : PassesOwn (model X.prog X.w) X.A X.env X.xe
  blt : ∀ x ∈ bltNames, G.mg x = none
  glo : ∀ n ∈ G.gs, GlF G n
  fns : ∀ i ∈ c.fs, FnI G k i
  fnh : ∀ i ∈ c.hs, FnIH G k i
  mts : ∀ p ∈ c.ms, MtI G k p.1 p.2
  mks : ∀ n ∈ c.mks, MkI G k n
  bis : ∀ n ∈ c.bi, BiI G k n
  hotg : c.hot = true → ∃ m a dx oe, HotG G k X m a dx oe
  isx : c.hot = true → ∀ e x, isxE e = true → ckE G c sc e x = true → PE X x (rd G.T G.C e Wx).E
/-- what an expression is worth -/
structure Snd (G : Gx) (c : Cn) (k : Nat) (e : E) : Prop where
  E : ∀ {sc Wx X x}, Good G c k sc Wx X → ckE G c sc e x = true → PE X x (rd G.T G.C e Wx).E
  T : ∀ {sc Wx X x}, Good G c k sc Wx X → ckE G c sc e x = true → PT X x (rd G.T G.C e Wx).T
  L : ∀ {sc Wx X xs}, Good G c k sc Wx X → ckL G c sc e xs = true → PA X xs (rd G.T G.C e Wx).L
  O : ∀ {sc Wx X o}, Good G c k sc Wx X → ckO G c sc e o = true → PO X o (rd G.T G.C e Wx).O
  P : ∀ {sc Wx X xs}, Good G c k sc Wx X → ckL G c sc e xs = true → xs.length ≤ 1 → PTs X xs (rd G.T G.C e Wx).P
  A : ∀ {sc Wx X x xs pos}, Good G c k sc Wx X → ckL G c sc e (x :: xs) = true → PW X (.BoolOp .And (x :: xs) pos) (rd G.T G.C e Wx).A
  R : ∀ {sc Wx X x xs pos}, Good G c k sc Wx X → ckL G c sc e (x :: xs) = true → PW X (.BoolOp .Or (x :: xs) pos) (rd G.T G.C e Wx).R
  AV : ∀ {sc Wx X x xs pos}, Good G c k sc Wx X → ckL G c sc e (x :: xs) = true → PE X (.BoolOp .And (x :: xs) pos) (rd G.T G.C e Wx).AV
  RV : ∀ {sc Wx X x xs pos}, Good G c k sc Wx X → ckL G c sc e (x :: xs) = true → PE X (.BoolOp .Or (x :: xs) pos) (rd G.T G.C e Wx).RV
  I : ∀ {sc Wx X x tg}, Good G c k sc Wx X → ckI G c sc e x = true → isTupE tg = true ∨ freeIt e = true → PI X tg x (rd G.T G.C e Wx).I
theorem ck_notSt {G : Gt} {c : Cn} {sc : Scope} {e : E} {x : Expr} (h : ckE G c sc e x = true) : notSt x = true := by
  cases x <;> first | rfl | (cases e <;> simp [ckE] at h)
theorem ck_nb {G : Gt} {c : Cn} {sc : Scope} {e : E} {x : Expr} {o : CmpOp} (h : ckE G c sc e x = true) : behindInMarks o x = false := by
  cases x <;> first | rfl | (cases e <;> simp [ckE] at h)
theorem ckL_noSt {G : Gt} {c : Cn} {sc : Scope} : ∀ {e : E} {xs : List Expr}, ckL G c sc e xs = true → noSt xs = true
  | .nil, [], _ => rfl
  | .cons e es, x :: xs, h => by
    simp only [ckL, Bool.and_eq_true] at h
    simp only [noSt, List.all_cons, Bool.and_eq_true]
    exact ⟨ck_notSt h.1, ckL_noSt h.2⟩
theorem ckL_len {G : Gt} {c : Cn} {sc : Scope} : ∀ {e : E} {xs : List Expr}, ckL G c sc e xs = true → xs.length = elen e
  | .nil, [], _ => rfl
  | .cons e es, x :: xs, h => by
    simp only [ckL, Bool.and_eq_true] at h
    show xs.length + 1 = elen es + 1
    rw [ckL_len h.2]
section
variable {G : Gx} {c : Cn} {k : Nat}
theorem visB_ok {sc : Scope} {x : Str} (h : visB sc x = true) : Vis sc x := by
  unfold visB at h
  unfold Vis
  split at h
  · exact .inl (by assumption)
  · exact .inr (.inl (by assumption))
  · exact .inr (.inr (by assumption))
  · cases h
theorem nmB_ok {x : Str} (h : nmB x = true) : (x == ("__debug__" : Str)) = false ∧ (x == ("__classdict__" : Str)) = false := by
  unfold nmB at h
  simp only [Bool.and_eq_true, Bool.not_eq_true'] at h
  exact h
theorem glB_ok {sc : Scope} {x : Str} (h : glB sc x = true) : sc.names.lookup x = some .globalImplicit ∧ (x == ("__debug__" : Str)) = false ∧ x ≠ "__name__" := by
  unfold glB at h
  simp only [Bool.and_eq_true, Bool.not_eq_true', decide_eq_true_eq] at h
  exact ⟨h.1.1, h.1.2, fun e => by rw [e] at h; simp at h⟩
theorem Good.gl {sc : Scope} {Wx : WX} {X : Cx} (g : Good G c k sc Wx X) {x : Str} (h : glB sc x = true) : Gl X x := by
  show X.env.scope.names.lookup x = _
  rw [g.hsc]
  exact (glB_ok h).1
theorem Good.mgN {sc : Scope} {Wx : WX} {X : Cx} (g : Good G c k sc Wx X) {x : Str} (h : x ∈ bltNames) : X.mg x = none := by
  rw [g.hmg]
  exact g.blt x h
theorem Good.pv {sc : Scope} {Wx : WX} {X : Cx} (g : Good G c k sc Wx X) {i : Nat} {x : Str} {pos : Pos} (h : vName c sc i x = true) : PE X (.Name x pos) (tVar i) := by
  simp only [vName, Bool.and_eq_true, decide_eq_true_eq] at h
  obtain ⟨⟨h1, h2⟩, h3⟩ := h
  obtain ⟨h4, h5⟩ := nmB_ok h3
  exact pe_var (i := i) (by rw [g.hN]; exact h1) (by rw [g.hsc]; exact visB_ok h2) h4 h5
/-- values that are no lists of expressions, no iterables -/
theorem snd_plain {e : E} (hE : ∀ {sc Wx X x}, Good G c k sc Wx X → ckE G c sc e x = true → PE X x (rd G.T G.C e Wx).E) (hT : ∀ {sc Wx X x}, Good G c k sc Wx X → ckE G c sc e x = true → PT X x (rd G.T G.C e Wx).T)
    (nl : ∀ sc xs, ckL G c sc e xs = false) (no : ∀ sc o, ckO G c sc e o = false) (ni : ∀ sc x, ckI G c sc e x = false) : Snd G c k e where
  E := hE
  T := hT
  L := fun _ h => by rw [nl] at h; cases h
  O := fun _ h => by rw [no] at h; cases h
  P := fun _ h => by rw [nl] at h; cases h
  A := fun _ h => by rw [nl] at h; cases h
  R := fun _ h => by rw [nl] at h; cases h
  AV := fun _ h => by rw [nl] at h; cases h
  RV := fun _ h => by rw [nl] at h; cases h
  I := fun _ h => by rw [ni] at h; cases h
/-- a value: one reading for both -/
theorem snd_val {e : E} (hv : ∀ W, (rd G.T G.C e W).T = tB (rd G.T G.C e W).E)
    (key : ∀ {sc Wx X x}, Good G c k sc Wx X → ckE G c sc e x = true → PE X x (rd G.T G.C e Wx).E ∧ ∀ whole, PySem.isTrue x X.env whole = (do let v ← whole; standAt x.pos; holding [v] (truthy v)))
    (nl : ∀ sc xs, ckL G c sc e xs = false) (no : ∀ sc o, ckO G c sc e o = false) (ni : ∀ sc x, ckI G c sc e x = false) : Snd G c k e :=
  snd_plain (fun g h => (key g h).1) (fun {sc Wx X x} g h => by
    rw [hv]
    exact pt_val (key g h).1 (key g h).2) nl no ni
end
end Q
/-! Q5: an expression of this text reads so (printed by gen5.py). -/
namespace Q
open PySem L2 PySem.Spec
section
variable {G : Gx} {c : Cn} {k : Nat}
open PyProof.Rows in
theorem ix_A {X : Cx} (hu : X.A.units + 1 < cLine) : IxR X (rIxA X.K) := by
  intro value slice pins s σ H x y v u Q I rx ry h hs
  rcases h with h | ⟨a, w, e, g, q⟩
  · exact ix_seq value slice pins s σ H x y v u Q I rx ry h hs
  · subst e
    obtain rfl : v = Value.ref a := rx
    have hT := dict_typeIs I g
    unfold PyProof.Rows.subscriptTail
    refine wpAny_bind ?_
    rw [getitemInPython_of_ne hT.not_modules]
    refine wpAny_bind (wpAny_specialOf hT PySem.F.slot_dict_getitem.lookup ?_)
    have fin : wpAny (model X.prog X.w) X.A (subscripted slice false (.ref a) u >>= fun r => letTemporaryGo value (.ref a) r >>= fun _ => pure r) (EP X pins σ Q) X.xe s := by
      rw [hs]
      exact wpAny_bind (wpAny_operating (d_getItem hu I g ry fun w' s3 I3 rw' => wpAny_bind (wpAny_letTemporaryGo (wpAny_pure ⟨w, H, I3, rw', q⟩))))
    exact wpAny_pure fin
theorem SlR.or {X : Cx} {r r' : V → Option Int → Option Int → Hp → VK → Prop} (h : SlR X r) (h' : SlR X r') : SlR X (iOr r r') := fun pins s σ H x v vl vu lo hi sl Q I rx hS pl pu q => q.elim (h pins s σ H x v vl vu lo hi sl Q I rx hS pl pu) (h' pins s σ H x v vl vu lo hi sl Q I rx hS pl pu)
theorem plainIx_ck {sc : Scope} {e : E} {x : Expr} (h : ckE G c sc e x = true) : PlainIx x := by
  cases x <;> first | (intro _ _; rfl) | (cases e <;> simp [ckE] at h)
theorem binOk_ok {o : Operator} (h : binOk o = true) : o = .Add ∨ o = .Sub ∨ o = .Mult ∨ o = .FloorDiv ∨ o = .Mod ∨ o = .Pow := by
  cases o <;> first | (cases h; done) | simp
theorem bltS_in (f : Blt) : bltS f ∈ bltNames := by
  cases f <;> decide
theorem boot_blt (f : Blt) : bootBuiltins (bltS f) = some (bltV f) := by
  cases f <;> decide +kernel
theorem boot_ty {t : String} (h : t ∈ tysOk) : bootBuiltins (Str.ofString t) = some (.type t) ∧ Str.ofString t ∈ bltNames ∧ (Str.ofString t == ("__debug__" : Str)) = false ∧ Str.ofString t ≠ ("__name__" : Str) := by
  simp only [tysOk, List.mem_cons, List.not_mem_nil, or_false] at h
  rcases h with rfl | rfl | rfl | rfl | rfl | rfl <;> exact ⟨by decide +kernel, by decide, by decide, by decide⟩
theorem pe_callV {X : Cx} {x : Str} {p pos : Pos} {e : Expr} {es : List Expr} {t : TA} {v : Value} {r : List V → Hp → VK → Prop} (hv : (∃ id, v = .builtin id) ∨ ∃ T, v = .type T) (hc : CallR X v r) (hg : Gl X x) (hm : X.mg x = none) (hb : bootBuiltins x = some v) (ha : PA X (e :: es) t)
    (hn : x ≠ "__name__") (hdb : (x == ("__debug__" : Str)) = false) (he : noSt (e :: es) = true) : PE X (.Call (.Name x p) (e :: es) [] pos) (tCB r t) := by
  have h1 := he
  simp only [noSt, List.all_cons, Bool.and_eq_true] at h1
  rcases hv with ⟨id, rfl⟩ | ⟨T, rfl⟩
  · exact pe_callB hc hg hm hb ha hn hdb (starC h1.1) (star_all h1.2)
  · exact pe_callTy hc hg hm hb ha hn hdb (starC h1.1) (star_all h1.2)
theorem ckL_nil {sc : Scope} {es : E} (h : ckL G c sc es [] = true) : es = .nil := by
  cases es <;> first | rfl | (simp [ckL] at h)
theorem ckL_cons {sc : Scope} {es : E} {y : Expr} {ys : List Expr} (h : ckL G c sc es (y :: ys) = true) : ∃ e1 e2, es = .cons e1 e2 := by
  cases es <;> first | (exact ⟨_, _, rfl⟩) | (simp [ckL] at h)
/-! targets -/
theorem locB_ok {sc : Scope} {x : Str} (h : locB sc x = true) : L2.Loc sc x := by
  unfold locB at h
  unfold L2.Loc
  split at h
  · exact .inl (by assumption)
  · exact .inr (by assumption)
  · cases h
theorem pgs_names {X : Cx} {sc : Scope} (hN : X.N = c.N) (nd : c.N.Nodup) (hsc : X.env.scope = sc) (f : Expr → Option Str) (hfn : ∀ x p, f (.Name x p) = some x) : ∀ {is : List Nat} {xs : List Expr}, (∀ x ∈ xs.filterMap f, X.fn x = true ∨ X.env.scope.names.lookup x = some .local) → ckN c sc is xs = true → PGs X xs (gNs is)
  | [], [], _, _ => pgs_nil
  | i :: is, .Name x p :: xs, hf, h => by
    have e : (Expr.Name x p :: xs).filterMap f = x :: xs.filterMap f := by rw [List.filterMap_cons, hfn]
    rw [e] at hf
    simp only [ckN, Bool.and_eq_true, decide_eq_true_eq] at h
    exact pgs_cons (pg_name (i := i) (by rw [hN]; exact nd) (by rw [hN]; exact h.1.1) (by rw [hsc]; exact locB_ok h.1.2) (hf x List.mem_cons_self)) (pgs_names hN nd hsc f hfn (fun y hy => hf y (List.mem_cons_of_mem _ hy)) h.2)
  | [], _ :: _, _, h => by simp [ckN] at h
  | _ :: _, [], _, h => by simp [ckN] at h
theorem names_len {sc : Scope} {env : PySem.Env} : ∀ {is : List Nat} {xs : List Expr}, ckN c sc is xs = true → (assignEach xs env).length = is.length ∧ (assignEach xs env).findIdx? (·.1) = none
  | [], [], _ => ⟨rfl, rfl⟩
  | i :: is, .Name x p :: xs, h => by
    simp only [ckN, Bool.and_eq_true] at h
    obtain ⟨h1, h2⟩ := names_len (env := env) h.2
    refine ⟨by show (assignEach xs env).length + 1 = is.length + 1; rw [h1], ?_⟩
    show ((false, assign (.Name x p) env) :: assignEach xs env).findIdx? (·.1) = none
    rw [List.findIdx?_cons]
    simp [h2]
  | [], _ :: _, h => by simp [ckN] at h
  | _ :: _, [], h => by simp [ckN] at h
theorem pg_tg {X : Cx} {sc : Scope} (hc : X.calm = true) (hN : X.N = c.N) (nd : c.N.Nodup) (hsc : X.env.scope = sc) {is : List Nat} {tg : Expr} (hf : ∀ x ∈ tgNs tg, X.fn x = true ∨ X.env.scope.names.lookup x = some .local) (h : ckTg c sc is tg = true) : PG X tg (gTg X.K is) := by
  match is, tg, hf, h with
  | [i], .Name x p, hf, h =>
    simp only [ckTg, Bool.and_eq_true, decide_eq_true_eq] at h
    exact pg_name (i := i) (by rw [hN]; exact nd) (by rw [hN]; exact h.1) (by rw [hsc]; exact locB_ok h.2) (hf x (by simp [tgNs]))
  | i :: j :: is, .Tuple xs tk tp, hf, h =>
    have h1 : ckN c sc (i :: j :: is) xs = true := h
    obtain ⟨l1, l2⟩ := names_len (env := X.env) h1
    exact pg_tup hc (pgs_names hN nd hsc _ (fun _ _ => rfl) hf h1) l1 l2
theorem attBase_ck {sc : Scope} {e : E} {x : Expr} {m : Str} {env : PySem.Env} (h : ckE G c sc e x = true) : attributeBase x m env (eval x env) = eval x env := by
  cases x <;> first | rfl | skip
  rename_i fn xs kws pos
  cases fn <;> first | rfl | skip
  cases xs <;> first | rfl | skip
  cases kws <;> first | rfl | skip
  rename_i id p
  have hid : (id == ("super" : Str)) = false := by
    cases e <;> first | (simp [ckE] at h; done) | skip
    · simp only [ckE, Bool.and_eq_true, Bool.not_eq_true'] at h; exact h.1.1.1.1.2
    · simp only [ckE, Bool.and_eq_true, Bool.not_eq_true'] at h; exact h.1.1.1.1.2
  unfold attributeBase
  have e2 : (id != ("super" : Str)) = true := by unfold bne; rw [hid]; rfl
  simp only [e2, Bool.true_or, if_true]
theorem meth_ev {o : Expr} {m : Str} {apos pos : Pos} {xs : List Expr} {env : PySem.Env} (hb : attributeBase o m env (eval o env) = eval o env) (hs : noSt xs = true) (hl : xs.length < 10) (hp : (apos.endLine == pos.line) = true) :
    eval (.Call (.Attribute o m apos) xs [] pos) env = (do
      let ov ← eval o env
      standAt apos.atName
      let (f, first) ← holding [ov] (getMethod ov m (do return (← importBound o env).getD true))
      callWith pos f first (backTo pos (starEach xs env)) (backToKw pos (keywordEach [] env))) := by
  have hf : methodCallForm (xs.length + ([] : List Keyword).length) (backTo pos (starEach xs env)) (backToKw pos (keywordEach [] env)) = true := by
    unfold methodCallForm
    rw [star_none hs]
    show (true && true && decide (xs.length + 0 + 0 < 30)) = true
    simp
    omega
  have e1 : eval (.Call (.Attribute o m apos) xs [] pos) env = (do
      let ov ← attributeBase o m env (eval o env)
      standAt apos.atName
      methodCall o m apos pos env ov (xs.length + ([] : List Keyword).length) (backTo pos (starEach xs env)) (backToKw pos (keywordEach [] env))) := rfl
  rw [e1, hb]
  have e2 : ∀ ov, methodCall o m apos pos env ov (xs.length + ([] : List Keyword).length) (backTo pos (starEach xs env)) (backToKw pos (keywordEach [] env)) = (do
      let (f, first) ← holding [ov] (getMethod ov m (do return (← importBound o env).getD true))
      callWith pos f first (backTo pos (starEach xs env)) (backToKw pos (keywordEach [] env))) := fun ov => by
    unfold methodCall calleeOf methodCallPos
    simp only [hf, hp, Bool.not_true, Bool.false_or, if_true]
    simp only [pure_bind]
  simp only [e2]
theorem bm_facts {X : Cx} (hu : X.A.units + 65 < cLine) (m : Bm) : ∃ id, PlainAttrs (bmT m) ∧ Slot (bmT m) (bmS m) id ∧ typeOf (.builtin id) = pure (.type "method_descriptor") ∧ MtR X id (rBm X.K m) := by
  cases m with
  | lApp => exact ⟨_, PySem.F.plainAttrs_list, PySem.F.slot_list_append, PySem.F.type_list_append, mt_append⟩
  | lExt => exact ⟨_, PySem.F.plainAttrs_list, PySem.F.slot_list_extend, PySem.F.type_list_extend, mt_extend⟩
  | lIns => exact ⟨_, PySem.F.plainAttrs_list, PySem.F.slot_list_insert, PySem.F.type_list_insert, mt_insert⟩
  | lPop => exact ⟨_, PySem.F.plainAttrs_list, PySem.F.slot_list_pop, PySem.F.type_list_pop, mt_pop⟩
  | lPopAt => exact ⟨_, PySem.F.plainAttrs_list, PySem.F.slot_list_pop, PySem.F.type_list_pop, mt_popAt⟩
  | lClr => exact ⟨_, PySem.F.plainAttrs_list, PySem.F.slot_list_clear, PySem.F.type_list_clear, mt_clear⟩
  | lIdx => exact ⟨_, PySem.F.plainAttrs_list, PySem.F.slot_list_index, PySem.F.type_list_index, MtR.or mt_index (mt_indexD hu)⟩
  | lCnt => exact ⟨_, PySem.F.plainAttrs_list, PySem.F.slot_list_count, PySem.F.type_list_count, mt_lcount⟩
  | sSplit => exact ⟨_, PySem.F.plainAttrs_str, PySem.F.slot_str_split, PySem.F.type_str_split, mt_split⟩
  | sFind => exact ⟨_, PySem.F.plainAttrs_str, PySem.F.slot_str_find, PySem.F.type_str_find, mt_find⟩
  | sCnt => exact ⟨_, PySem.F.plainAttrs_str, PySem.F.slot_str_count, PySem.F.type_str_count, mt_count⟩
theorem fold_ckI {sc : Scope} {e : E} {x : Expr} {env : PySem.Env} (h : ckI G c sc e x = true) : ∀ y, foldedSetIterable x env y = pure y := by
  have base : ∀ {e : E}, ckE G c sc e x = true → ∀ y, foldedSetIterable x env y = pure y := by
    intro e h
    cases x <;> first | (intro _; rfl) | (cases e <;> simp [ckE] at h)
  cases e <;> first | (simp [ckI] at h; done) | (simp only [ckI] at h; exact base h) | skip
  all_goals
    cases x <;> first | (simp [ckI] at h; done) | (intro _; rfl)

theorem snd_var (i : Nat) : Snd G c k (.var i) := by
  refine snd_val (fun _ => rfl) (fun {sc Wx X x} g h => ?_) (fun _ xs => by cases xs <;> rfl) (fun _ o => by cases o <;> rfl) (fun _ x => by cases x <;> rfl)
  cases x <;> first | (simp [ckE] at h; done) | skip
  simp only [ckE] at h
  exact ⟨g.pv h, fun _ => rfl⟩
theorem snd_int (n : Int) : Snd G c k (.int n) := by
  refine snd_val (fun _ => rfl) (fun {sc Wx X x} g h => ?_) (fun _ xs => by cases xs <;> rfl) (fun _ o => by cases o <;> rfl) (fun _ x => by cases x <;> rfl)
  cases x <;> first | (simp [ckE] at h; done) | skip
  rename_i v _ _
  cases v <;> first | (simp [ckE] at h; done) | skip
  simp only [ckE, decide_eq_true_eq] at h
  subst h
  exact ⟨pe_int, fun _ => rfl⟩
theorem snd_str (n : Str) : Snd G c k (.str n) := by
  refine snd_val (fun _ => rfl) (fun {sc Wx X x} g h => ?_) (fun _ xs => by cases xs <;> rfl) (fun _ o => by cases o <;> rfl) (fun _ x => by cases x <;> rfl)
  cases x <;> first | (simp [ckE] at h; done) | skip
  rename_i v _ _
  cases v <;> first | (simp [ckE] at h; done) | skip
  simp only [ckE, decide_eq_true_eq] at h
  subst h
  exact ⟨pe_str, fun _ => rfl⟩
theorem snd_bl (n : Bool) : Snd G c k (.bl n) := by
  refine snd_val (fun _ => rfl) (fun {sc Wx X x} g h => ?_) (fun _ xs => by cases xs <;> rfl) (fun _ o => by cases o <;> rfl) (fun _ x => by cases x <;> rfl)
  cases x <;> first | (simp [ckE] at h; done) | skip
  rename_i v _ _
  cases v <;> first | (simp [ckE] at h; done) | skip
  simp only [ckE, decide_eq_true_eq] at h
  subst h
  exact ⟨pe_bl, fun _ => rfl⟩
theorem snd_non  : Snd G c k (.non) := by
  refine snd_val (fun _ => rfl) (fun {sc Wx X x} g h => ?_) (fun _ xs => by cases xs <;> rfl) (fun _ o => by cases o <;> rfl) (fun _ x => by cases x <;> rfl)
  cases x <;> first | (simp [ckE] at h; done) | skip
  rename_i v _ _
  cases v <;> first | (simp [ckE] at h; done) | skip
  exact ⟨pe_non, fun _ => rfl⟩
theorem snd_glo (n : Nat) : Snd G c k (.glo n) := by
  refine snd_val (fun _ => rfl) (fun {sc Wx X x} g h => ?_) (fun _ xs => by cases xs <;> rfl) (fun _ o => by cases o <;> rfl) (fun _ x => by cases x <;> rfl)
  cases x <;> first | (simp [ckE] at h; done) | skip
  simp only [ckE, Bool.and_eq_true, decide_eq_true_eq] at h
  obtain ⟨⟨h1, rfl⟩, h3⟩ := h
  obtain ⟨u, hm, rv⟩ := g.glo n h1
  exact ⟨pe_glob (g.gl h3) (by rw [g.hmg]; exact hm) rv (glB_ok h3).2.1, fun _ => rfl⟩
theorem snd_bin {o : Operator} {a b : E} (ha : Snd G c k a) (hb : Snd G c k b) : Snd G c k (.bin o a b) := by
  refine snd_val (fun _ => rfl) (fun {sc Wx X x} g h => ?_) (fun _ xs => by cases xs <;> rfl) (fun _ o => by cases o <;> rfl) (fun _ x => by cases x <;> rfl)
  cases x <;> first | (simp [ckE] at h; done) | skip
  simp only [ckE, Bool.and_eq_true, decide_eq_true_eq] at h
  obtain ⟨⟨⟨rfl, h2⟩, h3⟩, h4⟩ := h
  exact ⟨pe_op (by rw [← g.hK]; exact op_bin (binOk_ok h2)) (ha.E g h3) (hb.E g h4), fun _ => rfl⟩
theorem snd_neg {a : E} (ha : Snd G c k a) : Snd G c k (.neg a) := by
  refine snd_val (fun _ => rfl) (fun {sc Wx X x} g h => ?_) (fun _ xs => by cases xs <;> rfl) (fun _ o => by cases o <;> rfl) (fun _ x => by cases x <;> rfl)
  cases x <;> first | (simp [ckE] at h; done) | skip
  rename_i op y pos
  cases op <;> first | (simp [ckE] at h; done) | skip
  simp only [ckE] at h
  exact ⟨show PE X _ (tUn (rU fun i => .int (-i)) (rd G.T G.C a Wx).E) from pe_un un_neg (ha.E g h), fun _ => rfl⟩
theorem snd_cmp {o : CmpOp} {a b : E} (ha : Snd G c k a) (hb : Snd G c k b) : Snd G c k (.cmp o a b) := by
  refine snd_plain (fun {sc Wx X x} g h => ?_) (fun {sc Wx X x} g h => ?_) (fun _ xs => by cases xs <;> rfl) (fun _ o => by cases o <;> rfl) (fun _ x => by cases x <;> rfl)
  all_goals
    cases x <;> first | (simp [ckE] at h; done) | skip
    rename_i x1 ops ys pos
    match ops, ys, h with
    | [o'], [y], h => ?_
    simp only [ckE, Bool.and_eq_true, decide_eq_true_eq] at h
    obtain ⟨⟨rfl, h3⟩, h4⟩ := h
  · exact pe_cmpR (by rw [← g.hK]; exact op_cmp g.units o) (ha.E g h3) (hb.E g h4) (ck_nb h4)
  · exact pt_cmpR (by rw [← g.hK]; exact op_cmp g.units o) (ha.E g h3) (hb.E g h4) (ck_nb h4)
theorem snd_chn {o p : CmpOp} {a b d : E} (ha : Snd G c k a) (hb : Snd G c k b) (hd : Snd G c k d) : Snd G c k (.chn o p a b d) := by
  refine snd_plain (fun {sc Wx X x} g h => ?_) (fun {sc Wx X x} g h => ?_) (fun _ xs => by cases xs <;> rfl) (fun _ o => by cases o <;> rfl) (fun _ x => by cases x <;> rfl)
  all_goals
    cases x <;> first | (simp [ckE] at h; done) | skip
    rename_i x1 ops ys pos
    match ops, ys, h with
    | [o', p'], [y, z], h => ?_
    simp only [ckE, Bool.and_eq_true, decide_eq_true_eq] at h
    obtain ⟨⟨⟨⟨rfl, rfl⟩, h3⟩, h4⟩, h5⟩ := h
    have hm : lastMarks [o, p] [y, z] = false := by
      show behindInMarks p z = false
      exact ck_nb h5
  · exact pe_chain (by rw [← g.hK]; exact op_cmp g.units o) (by rw [← g.hK]; exact op_cmp g.units p) (ha.E g h3) (hb.E g h4) (hd.E g h5) hm
  · exact pt_chain (by rw [← g.hK]; exact op_cmp g.units o) (by rw [← g.hK]; exact op_cmp g.units p) (ha.E g h3) (hb.E g h4) (hd.E g h5) hm
theorem snd_nt {a : E} (ha : Snd G c k a) : Snd G c k (.nt a) := by
  refine snd_plain (fun {sc Wx X x} g h => ?_) (fun {sc Wx X x} g h => ?_) (fun _ xs => by cases xs <;> rfl) (fun _ o => by cases o <;> rfl) (fun _ x => by cases x <;> rfl)
  all_goals
    cases x <;> first | (simp [ckE] at h; done) | skip
    rename_i op y pos
    cases op <;> first | (simp [ckE] at h; done) | skip
    simp only [ckE] at h
  · exact pe_not (ha.E g h)
  · exact pt_not (ha.T g h)
theorem snd_and {es : E} (hs : Snd G c k es) : Snd G c k (.and es) := by
  refine snd_plain (fun {sc Wx X x} g h => ?_) (fun {sc Wx X x} g h => ?_) (fun _ xs => by cases xs <;> rfl) (fun _ o => by cases o <;> rfl) (fun _ x => by cases x <;> rfl)
  all_goals
    cases x <;> first | (simp [ckE] at h; done) | skip
    rename_i op xs pos
    cases op <;> cases xs <;> first | (simp [ckE] at h; done) | skip
    simp only [ckE] at h
  · exact hs.AV g h
  · exact PW.pt (hs.A g h)
theorem snd_or {es : E} (hs : Snd G c k es) : Snd G c k (.or es) := by
  refine snd_plain (fun {sc Wx X x} g h => ?_) (fun {sc Wx X x} g h => ?_) (fun _ xs => by cases xs <;> rfl) (fun _ o => by cases o <;> rfl) (fun _ x => by cases x <;> rfl)
  all_goals
    cases x <;> first | (simp [ckE] at h; done) | skip
    rename_i op xs pos
    cases op <;> cases xs <;> first | (simp [ckE] at h; done) | skip
    simp only [ckE] at h
  · exact hs.RV g h
  · exact PW.pt (hs.R g h)
theorem snd_ife {t a b : E} (ht : Snd G c k t) (ha : Snd G c k a) (hb : Snd G c k b) : Snd G c k (.ife t a b) := by
  refine snd_plain (fun {sc Wx X x} g h => ?_) (fun _ _ => ⟨fun _ _ _ _ _ _ z => z.elim⟩) (fun _ xs => by cases xs <;> rfl) (fun _ o => by cases o <;> rfl) (fun _ x => by cases x <;> rfl)
  cases x <;> first | (simp [ckE] at h; done) | skip
  simp only [ckE, Bool.and_eq_true] at h
  exact pe_ifExp (ht.T g h.1.1) (ha.E g h.1.2) (hb.E g h.2)
theorem snd_tup {es : E} (hs : Snd G c k es) : Snd G c k (.tup es) := by
  refine snd_val (fun _ => rfl) (fun {sc Wx X x} g h => ?_) (fun _ xs => by cases xs <;> rfl) (fun _ o => by cases o <;> rfl) (fun _ x => by cases x <;> rfl)
  cases x <;> first | (simp [ckE] at h; done) | skip
  simp only [ckE] at h
  exact ⟨pe_tup (hs.L g h), fun _ => rfl⟩
theorem snd_lst {es : E} (hs : Snd G c k es) : Snd G c k (.lst es) := by
  refine snd_val (fun _ => rfl) (fun {sc Wx X x} g h => ?_) (fun _ xs => by cases xs <;> rfl) (fun _ o => by cases o <;> rfl) (fun _ x => by cases x <;> rfl)
  cases x <;> first | (simp [ckE] at h; done) | skip
  simp only [ckE] at h
  exact ⟨pe_lst (hs.L g h), fun _ => rfl⟩
theorem snd_nil : Snd G c k .nil where
  E := fun {_ _ _ x} _ h => by cases x <;> cases h
  T := fun {_ _ _ x} _ h => by cases x <;> cases h
  L := fun {_ _ _ xs} _ h => by
    cases xs <;> first | (simp [ckL] at h; done) | skip
    exact (pa_nil : PA _ [] tNil)
  O := fun {_ _ _ o} _ h => by
    cases o <;> first | (simp [ckO] at h; done) | skip
    exact (po_none : PO _ none tNoPart)
  P := fun {_ _ _ xs} _ h _ => by
    cases xs <;> first | (simp [ckL] at h; done) | skip
    exact (pts_nil : PTs _ [] tYes)
  A := fun _ h => by simp [ckL] at h
  R := fun _ h => by simp [ckL] at h
  AV := fun _ h => by simp [ckL] at h
  RV := fun _ h => by simp [ckL] at h
  I := fun {_ _ _ x _} _ h => by cases x <;> cases h
theorem snd_cons {e es : E} (he : Snd G c k e) (hs : Snd G c k es) : Snd G c k (.cons e es) where
  E := fun {_ _ _ x} _ h => by cases x <;> cases h
  T := fun {_ _ _ x} _ h => by cases x <;> cases h
  L := fun {_ _ _ xs} g h => by
    cases xs <;> first | (simp [ckL] at h; done) | skip
    simp only [ckL, Bool.and_eq_true] at h
    exact pa_cons (he.E g h.1) (hs.L g h.2) (starC (ck_notSt h.1))
  O := fun {_ _ _ o} g h => by
    cases es <;> first | (simp [ckO] at h; done) | skip
    cases o <;> first | (simp [ckO] at h; done) | skip
    simp only [ckO] at h
    exact po_some (he.E g h)
  P := fun {_ _ _ xs} g h hl => by
    cases xs <;> first | (simp [ckL] at h; done) | skip
    rename_i x xs
    simp only [ckL, Bool.and_eq_true] at h
    cases xs with
    | cons _ _ => simp at hl
    | nil => exact pts_one (he.T g h.1)
  A := fun {_ _ _ _ xs _} g h => by
    simp only [ckL, Bool.and_eq_true] at h
    show PW _ _ (if elen es = 0 then _ else _)
    cases xs with
    | nil => rw [if_pos (show elen es = 0 from (ckL_len h.2).symm)]; exact pw_and1 (he.T g h.1)
    | cons y ys => rw [if_neg (by rw [← ckL_len h.2]; simp)]; exact pw_and (he.T g h.1) (hs.A g h.2)
  R := fun {_ _ _ _ xs _} g h => by
    simp only [ckL, Bool.and_eq_true] at h
    show PW _ _ (if elen es = 0 then _ else _)
    cases xs with
    | nil => rw [if_pos (show elen es = 0 from (ckL_len h.2).symm)]; exact pw_or1 (he.T g h.1)
    | cons y ys => rw [if_neg (by rw [← ckL_len h.2]; simp)]; exact pw_or (he.T g h.1) (hs.R g h.2)
  AV := fun {_ _ _ _ xs _} g h => by
    simp only [ckL, Bool.and_eq_true] at h
    show PE _ _ (if elen es = 0 then _ else _)
    cases xs with
    | nil => rw [if_pos (show elen es = 0 from (ckL_len h.2).symm)]; exact pe_one (he.E g h.1)
    | cons y ys => rw [if_neg (by rw [← ckL_len h.2]; simp)]; exact pe_and (he.E g h.1) (hs.AV g h.2)
  RV := fun {_ _ _ _ xs _} g h => by
    simp only [ckL, Bool.and_eq_true] at h
    show PE _ _ (if elen es = 0 then _ else _)
    cases xs with
    | nil => rw [if_pos (show elen es = 0 from (ckL_len h.2).symm)]; exact pe_one (he.E g h.1)
    | cons y ys => rw [if_neg (by rw [← ckL_len h.2]; simp)]; exact pe_or (he.E g h.1) (hs.RV g h.2)
  I := fun {_ _ _ x _} _ h => by cases x <;> cases h
theorem snd_ix {a i : E} (ha : Snd G c k a) (hi : Snd G c k i) : Snd G c k (.ix a i) := by
  refine snd_val (fun _ => rfl) (fun {sc Wx X x} g h => ?_) (fun _ xs => by cases xs <;> rfl) (fun _ o => by cases o <;> rfl) (fun _ x => by cases x <;> rfl)
  cases x <;> first | (simp [ckE] at h; done) | skip
  simp only [ckE, Bool.and_eq_true] at h
  exact ⟨pe_ix (by rw [← g.hK]; exact ix_A (Nat.lt_of_le_of_lt (Nat.add_le_add_left (show 1 ≤ 65 by decide) _) g.units)) (ha.E g h.1) (hi.E g h.2) (plainIx_ck h.2), fun _ => rfl⟩
theorem snd_sl {a lo hi : E} (ha : Snd G c k a) (hl : Snd G c k lo) (hh : Snd G c k hi) : Snd G c k (.sl a lo hi) := by
  refine snd_val (fun _ => rfl) (fun {sc Wx X x} g h => ?_) (fun _ xs => by cases xs <;> rfl) (fun _ o => by cases o <;> rfl) (fun _ x => by cases x <;> rfl)
  cases x <;> first | (simp [ckE] at h; done) | skip
  rename_i x y pos
  cases y <;> first | (simp [ckE] at h; done) | skip
  rename_i l u st pos2
  cases st <;> first | (simp [ckE] at h; done) | skip
  simp only [ckE, Bool.and_eq_true] at h
  exact ⟨pe_slice (by rw [← g.hK]; exact SlR.or sl_list (SlR.or sl_str sl_tup)) (ha.E g h.1.1) (hl.O g h.1.2) (hh.O g h.2), fun _ => rfl⟩
theorem snd_call {i : Nat} {es : E} (hs : Snd G c k es) : Snd G c k (.call i es) := by
  refine snd_val (fun _ => rfl) (fun {sc Wx X x} g h => ?_) (fun _ xs => by cases xs <;> rfl) (fun _ o => by cases o <;> rfl) (fun _ x => by cases x <;> rfl)
  cases x <;> first | (simp [ckE] at h; done) | skip
  rename_i fn xs kws pos
  cases fn <;> cases kws <;> first | (simp [ckE] at h; done) | skip
  simp only [ckE, Bool.and_eq_true, Bool.not_eq_true', decide_eq_true_eq] at h
  obtain ⟨⟨⟨⟨⟨hh, hsup⟩, h1⟩, rfl⟩, h2⟩, h3⟩ := h
  obtain ⟨k1, k2, k3⟩ := glB_ok h2
  obtain ⟨fa, ⟨fd, ps, F, hk, hl, hb⟩, hm⟩ := g.fns i h1
  refine ⟨?_, fun _ => rfl⟩
  show PE X _ (rCall (G.T.f i) G.C (elen es) (WE Wx) (rd G.T G.C es Wx).L)
  unfold rCall
  split
  rotate_left
  · exact ⟨fun _ _ _ _ _ _ z => z.elim⟩
  rename_i ha
  obtain ⟨us, B, V⟩ := hb (elen es + (G.T.f i).dfl.length - (G.T.f i).ar) (by omega)
  have F' : FnOk X.prog X.w X.K X.mg X.base (L2N.CX X.prog X.w) k fa fd ps ((G.T.f i).sp G.C) := by rw [g.hP, g.hw, g.hK, g.hmg, g.hb]; exact F
  cases xs with
  | nil =>
    have e := ckL_nil h3
    subst e
    exact pe_callD0 F' (g.room hh) (g.gl h2) (by rw [g.hmg]; exact hm) (by rw [g.hK]; exact hk) (by rw [g.hK]; exact B) V (fun σ => L2N.passAt g.tk σ) k2
  | cons y ys => exact pe_callD F' (g.room hh) (g.gl h2) (by rw [g.hmg]; exact hm) (by rw [g.hK]; exact hk) (by rw [g.hK]; exact B) V (fun σ => L2N.passAt g.tk σ) (hs.L g h3) k2 (ckL_noSt h3)
theorem snd_blt {f : Blt} {es : E} (hs : Snd G c k es) : Snd G c k (.blt f es) := by
  refine snd_val (fun _ => rfl) (fun {sc Wx X x} g h => ?_) (fun _ xs => by cases xs <;> rfl) (fun _ o => by cases o <;> rfl) (fun _ x => by cases x <;> rfl)
  cases x <;> first | (simp [ckE] at h; done) | skip
  rename_i fn xs kws pos
  cases fn <;> cases kws <;> first | (simp [ckE] at h; done) | skip
  cases xs <;> first | (simp [ckE] at h; done) | skip
  simp only [ckE, Bool.and_eq_true, Bool.or_eq_true, Bool.not_eq_true', decide_eq_true_eq] at h
  obtain ⟨⟨⟨hh, rfl⟩, h2⟩, h3⟩ := h
  obtain ⟨k1, k2, k3⟩ := glB_ok h2
  have cr : CallR X (bltV f) (rBlt G.C.K f) := by
    rw [← g.hK]
    rcases hh with hh | hh
    · exact call_blt (g.calm hh) f
    · exact call_bltH hh
  exact ⟨pe_callV (by cases f <;> first | exact .inl ⟨_, rfl⟩ | exact .inr ⟨_, rfl⟩) cr (g.gl h2) (g.mgN (bltS_in f)) (boot_blt f) (hs.L g h3) k3 k2 (ckL_noSt h3), fun _ => rfl⟩
theorem snd_isi {a : E} {t : String} (ha : Snd G c k a) : Snd G c k (.isi a t) := by
  refine snd_val (fun _ => rfl) (fun {sc Wx X x} g h => ?_) (fun _ xs => by cases xs <;> rfl) (fun _ o => by cases o <;> rfl) (fun _ x => by cases x <;> rfl)
  cases x <;> first | (simp [ckE] at h; done) | skip
  rename_i fn xs kws pos
  cases fn <;> cases kws <;> first | (simp [ckE] at h; done) | skip
  match xs, h with
  | [x, .Name m mp], h => ?_
  simp only [ckE, Bool.and_eq_true, decide_eq_true_eq, List.contains_iff_mem] at h
  obtain ⟨⟨⟨⟨⟨rfl, rfl⟩, ht⟩, h1⟩, h2⟩, h3⟩ := h
  obtain ⟨b1, b2, b3, b4⟩ := boot_ty ht
  have n := ck_notSt h3
  exact ⟨pe_callB (by rw [← g.hK]; exact call_isi) (g.gl h1) (g.mgN (by simp [bltNames])) PyProof.Rows.boot_isinstance (pa_cons (ha.E g h3) (pa_cons (pe_bltn (v := .ty t) (g.gl h2) (g.mgN b2) b1 rfl b4 b3) pa_nil) (starC n)) (by decide) (by decide) (starC n), fun _ => rfl⟩
theorem snd_isC {a : E} {n : Nat} (ha : Snd G c k a) : Snd G c k (.isC a n) := by
  refine snd_val (fun _ => rfl) (fun {sc Wx X x} g h => ?_) (fun _ xs => by cases xs <;> rfl) (fun _ o => by cases o <;> rfl) (fun _ x => by cases x <;> rfl)
  cases x <;> first | (simp [ckE] at h; done) | skip
  rename_i fn xs kws pos
  cases fn <;> cases kws <;> first | (simp [ckE] at h; done) | skip
  match xs, h with
  | [x, .Name m mp], h => ?_
  simp only [ckE, Bool.and_eq_true, decide_eq_true_eq] at h
  obtain ⟨⟨⟨⟨⟨rfl, hn⟩, rfl⟩, h1⟩, h2⟩, h3⟩ := h
  obtain ⟨_, _, _, _, _, hm, ic⟩ := g.mks n hn
  obtain ⟨k1, k2, k3⟩ := glB_ok h2
  have nn := ck_notSt h3
  have ic2 := ic
  rw [← g.hK] at ic2
  exact ⟨pe_callB (C8.call_isC ic2) (g.gl h1) (g.mgN (by simp [bltNames])) PyProof.Rows.boot_isinstance (pa_cons (ha.E g h3) (pa_cons (C8.pe_gc (v := .ref (G.C.cl n)) (g.gl h2) ⟨.ref (G.C.cl n), by rw [g.hmg]; exact hm, rfl⟩ k2) pa_nil) (starC nn)) (by decide) (by decide) (starC nn), fun _ => rfl⟩
theorem snd_att {a : E} {f : Str} (ha : Snd G c k a) : Snd G c k (.att a f) := by
  refine snd_val (fun _ => rfl) (fun {sc Wx X x} g h => ?_) (fun _ xs => by cases xs <;> rfl) (fun _ o => by cases o <;> rfl) (fun _ x => by cases x <;> rfl)
  cases x <;> first | (simp [ckE] at h; done) | skip
  simp only [ckE, Bool.and_eq_true, decide_eq_true_eq] at h
  obtain ⟨rfl, h2⟩ := h
  refine ⟨?_, fun _ => rfl⟩
  show PE X _ (tFld G.C.K (rd G.T G.C a Wx).E f)
  rw [← g.hK]
  exact pe_fld (ha.E g h2) (attBase_ck h2)
theorem snd_mth {cs : List Nat} {a : E} {m : Str} {es : E} (ha : Snd G c k a) (hs : Snd G c k es) : Snd G c k (.mth cs a m es) := by
  refine snd_val (fun _ => rfl) (fun {sc Wx X x} g h => ?_) (fun _ xs => by cases xs <;> rfl) (fun _ o => by cases o <;> rfl) (fun _ x => by cases x <;> rfl)
  cases x <;> first | (simp [ckE] at h; done) | skip
  rename_i fn xs kws pos
  cases fn <;> cases kws <;> first | (simp [ckE] at h; done) | skip
  rename_i o n apos
  simp only [ckE, Bool.and_eq_true, Bool.not_eq_true', decide_eq_true_eq, List.all_eq_true] at h
  obtain ⟨⟨⟨⟨⟨⟨hln, hlt⟩, hh⟩, rfl⟩, h1⟩, h2⟩, h3⟩ := h
  have me := meth_ev (pos := pos) (m := m) (apos := apos) (env := X.env) (xs := xs) (attBase_ck h2) (ckL_noSt h3) hlt hln
  refine ⟨⟨fun pins s σ H Q I hq => ?_⟩, fun _ => rfl⟩
  obtain ⟨d, hd, ha2, q⟩ := hq
  obtain ⟨fa, ⟨fd, ps, F, hk, hl, hb⟩, cc, mm⟩ := g.mts (d, m) (h1 d hd)
  obtain ⟨us, B, V⟩ := hb (elen es + 1 + (G.T.f (G.T.mt d m)).dfl.length - (G.T.f (G.T.mt d m)).ar) (by show _ ≤ (G.T.f (G.T.mt d m)).dfl.length; omega)
  have F' : FnOk X.prog X.w X.K X.mg X.base (L2N.CX X.prog X.w) k fa fd ps ((G.T.f (G.T.mt d m)).sp G.C) := by rw [g.hP, g.hw, g.hK, g.hmg, g.hb]; exact F
  cases xs with
  | nil =>
    have e := ckL_nil h3
    subst e
    exact (pe_methD0 (ha.E g h2) (by rw [g.hK]; exact cc) (by rw [g.hK]; exact mm) F' (g.room hh) (by rw [g.hK]; exact B) V (fun σ => L2N.passAt g.tk σ) me).run pins s σ H Q I q
  | cons y ys => exact (pe_methD (ha.E g h2) (by rw [g.hK]; exact cc) (by rw [g.hK]; exact mm) F' (g.room hh) (by rw [g.hK]; exact B) V (fun σ => L2N.passAt g.tk σ) (hs.L g h3) (ckL_noSt h3) me).run pins s σ H Q I q
theorem snd_mk {n : Nat} {es : E} (hs : Snd G c k es) : Snd G c k (.mk n es) := by
  refine snd_val (fun _ => rfl) (fun {sc Wx X x} g h => ?_) (fun _ xs => by cases xs <;> rfl) (fun _ o => by cases o <;> rfl) (fun _ x => by cases x <;> rfl)
  cases x <;> first | (simp [ckE] at h; done) | skip
  rename_i fn xs kws pos
  cases fn <;> cases kws <;> first | (simp [ckE] at h; done) | skip
  simp only [ckE, Bool.and_eq_true, Bool.not_eq_true', decide_eq_true_eq] at h
  obtain ⟨⟨⟨⟨⟨hh, hsup⟩, h1⟩, rfl⟩, h2⟩, h3⟩ := h
  obtain ⟨k1, k2, k3⟩ := glB_ok h2
  obtain ⟨fa, k0, hk0, ⟨fd, ps, F, hk, hl, hb⟩, M, hm, _⟩ := g.mks n h1
  refine ⟨?_, fun _ => rfl⟩
  show PE X _ (rMake G.T G.C n (elen es) (WE Wx) (rd G.T G.C es Wx).L)
  unfold rMake
  split
  rotate_left
  · exact ⟨fun _ _ _ _ _ _ z => z.elim⟩
  rename_i ha
  obtain ⟨us, B, V⟩ := hb (elen es + 1 + (G.T.f (G.T.ini n)).dfl.length - (G.T.f (G.T.ini n)).ar) (by omega)
  have F' : FnOk X.prog X.w X.K X.mg X.base (L2N.CX X.prog X.w) k0 fa fd ps ((G.T.f (G.T.ini n)).sp G.C) := by rw [g.hP, g.hw, g.hK, g.hmg, g.hb]; exact F
  have hr : Room (k0 + 1) X.A := (g.room hh).mono hk0
  cases xs with
  | nil =>
    have e := ckL_nil h3
    subst e
    exact pe_makeD0 (by rw [g.hK]; exact M) F' hr (g.gl h2) (by rw [g.hmg]; exact hm) (by rw [g.hK]; exact B) V (fun σ => L2N.passAt g.tk σ) k2
  | cons y ys => exact pe_makeD (by rw [g.hK]; exact M) F' hr (g.gl h2) (by rw [g.hmg]; exact hm) (by rw [g.hK]; exact B) V (fun σ => L2N.passAt g.tk σ) (hs.L g h3) k2 (ckL_noSt h3)
theorem snd_binit {n : Nat} {es : E} (hs : Snd G c k es) : Snd G c k (.binit n es) := by
  refine snd_val (fun _ => rfl) (fun {sc Wx X x} g h => ?_) (fun _ xs => by cases xs <;> rfl) (fun _ o => by cases o <;> rfl) (fun _ x => by cases x <;> rfl)
  cases x <;> first | (simp [ckE] at h; done) | skip
  rename_i fn xs kws pos
  cases fn <;> cases kws <;> first | (simp [ckE] at h; done) | skip
  rename_i o m apos
  cases o <;> cases xs <;> first | (simp [ckE] at h; done) | skip
  simp only [ckE, Bool.and_eq_true, Bool.not_eq_true', decide_eq_true_eq] at h
  obtain ⟨⟨⟨⟨⟨⟨⟨hln, hlt⟩, hh⟩, h1⟩, rfl⟩, rfl⟩, h2⟩, h3⟩ := h
  obtain ⟨k1, k2, k3⟩ := glB_ok h2
  obtain ⟨fa, ⟨fd, ps, F, hk, hl, hb⟩, hm, hf⟩ := g.bis n h1
  refine ⟨?_, fun _ => rfl⟩
  show PE X _ (rCall (G.T.f (G.T.ini n)) G.C (elen es) (WE Wx) (rd G.T G.C es Wx).L)
  unfold rCall
  split
  rotate_left
  · exact ⟨fun _ _ _ _ _ _ z => z.elim⟩
  rename_i ha
  obtain ⟨us, B, V⟩ := hb (elen es + (G.T.f (G.T.ini n)).dfl.length - (G.T.f (G.T.ini n)).ar) (by omega)
  have F' : FnOk X.prog X.w X.K X.mg X.base (L2N.CX X.prog X.w) k fa fd ps ((G.T.f (G.T.ini n)).sp G.C) := by rw [g.hP, g.hw, g.hK, g.hmg, g.hb]; exact F
  exact pe_cini (g.gl h2) (by rw [g.hmg]; exact hm) k2 (fun s Q E' hin q => by rw [g.hP, g.hw]; exact hf _ _ s Q E' (by rw [← g.hK]; exact hin) q) (by rw [g.hK]; exact hk) F' (g.room hh) (by rw [g.hK]; exact B) V (fun σ => L2N.passAt g.tk σ) (hs.L g h3) (ckL_noSt h3) (meth_ev rfl (ckL_noSt h3) hlt hln)
theorem snd_bm {m : Bm} {a es : E} (ha : Snd G c k a) (hs : Snd G c k es) : Snd G c k (.bm m a es) := by
  refine snd_val (fun _ => rfl) (fun {sc Wx X x} g h => ?_) (fun _ xs => by cases xs <;> rfl) (fun _ o => by cases o <;> rfl) (fun _ x => by cases x <;> rfl)
  cases x <;> first | (simp [ckE] at h; done) | skip
  rename_i fn xs kws pos
  cases fn <;> cases kws <;> first | (simp [ckE] at h; done) | skip
  rename_i o n apos
  simp only [ckE, Bool.and_eq_true, decide_eq_true_eq] at h
  obtain ⟨⟨⟨⟨rfl, h1⟩, h4⟩, h2⟩, h3⟩ := h
  refine ⟨?_, fun _ => rfl⟩
  show PE X _ (if elen es = 0 then _ else _)
  obtain ⟨id, f1, f2, f3, f4⟩ := bm_facts (X := X) g.units m
  cases xs with
  | nil =>
    rw [if_pos (show elen es = 0 from (ckL_len h3).symm), ← g.hK]
    exact pe_bm0 f1 f2 f3 f4 (ha.E g h2) (attBase_ck h2) h1
  | cons y ys =>
    rw [if_neg (by rw [← ckL_len h3]; simp), ← g.hK]
    have hn := ckL_noSt h3
    have hn2 := hn
    simp only [noSt, List.all_cons, Bool.and_eq_true] at hn2
    refine pe_bm f1 f2 f3 f4 (ha.E g h2) (hs.L g h3) (attBase_ck h2) ?_ h1 (starC hn2.1) (star_all hn2.2)
    rw [star_none hn]
    show (true && true && decide ((y :: ys).length + 0 + 0 < 30)) = true
    simp only [Bool.and_self, Bool.true_and, decide_eq_true_eq]
    omega
theorem snd_join {s : Str} {e : E} (he : Snd G c k e) : Snd G c k (.join s e) := by
  refine snd_val (fun _ => rfl) (fun {sc Wx X x} g h => ?_) (fun _ xs => by cases xs <;> rfl) (fun _ o => by cases o <;> rfl) (fun _ x => by cases x <;> rfl)
  cases x <;> first | (simp [ckE] at h; done) | skip
  rename_i fn xs kws pos
  cases fn <;> cases kws <;> first | (simp [ckE] at h; done) | skip
  rename_i o m ap
  cases o <;> first | (simp [ckE] at h; done) | skip
  rename_i cv ck cpos
  cases cv <;> first | (simp [ckE] at h; done) | skip
  match xs, h with
  | [y], h => ?_
  simp only [ckE, Bool.and_eq_true, decide_eq_true_eq] at h
  obtain ⟨⟨⟨rfl, rfl⟩, h3⟩, h4⟩ := h
  have ns := ck_notSt h4
  refine ⟨?_, fun _ => rfl⟩
  have := pe_join (apos := ap) (pos := pos) (pe_str (x := s) (j := ck) (pos := cpos)) (he.E g h4) (by rw [starC ns]; rfl) rfl h3
  rw [g.hK] at this
  exact this
theorem snd_dct  : Snd G c k (.dct) := by
  refine snd_val (fun _ => rfl) (fun {sc Wx X x} g h => ?_) (fun _ xs => by cases xs <;> rfl) (fun _ o => by cases o <;> rfl) (fun _ x => by cases x <;> rfl)
  cases x <;> first | (simp [ckE] at h; done) | skip
  rename_i ks vs pos
  cases ks <;> cases vs <;> first | (simp [ckE] at h; done) | skip
  exact ⟨pe_dnewK, fun _ => rfl⟩
theorem pps_dd {a : E} (ha : Snd G c k a) {sc : Scope} {Wx : WX} {X : Cx} {pos : Pos} {z : Int} (g : Good G c k sc Wx X) : ∀ {ks : List Int} {keys : List (Option Expr)} {vs : List Expr}, ckDD (fun x => ckE G c sc a x) z ks keys vs = true →
    PPs X pos keys vs (ks.map fun k => (tOp (rIxA G.C.K) (rd G.T G.C a Wx).E (tC (.int k)), tC (.int z))) ∧ keys.all (·.isSome) = true ∧ keys.length = vs.length ∧ keys.length = ks.length
  | [], [], [], _ => ⟨pps_nil, rfl, rfl, rfl⟩
  | k :: ks, some (.Subscript x (.Constant (.int k') _ _) _) :: keys, .Constant (.int z') _ _ :: vs, h => by
    simp only [ckDD, Bool.and_eq_true, decide_eq_true_eq] at h
    obtain ⟨⟨⟨h1, rfl⟩, rfl⟩, h2⟩ := h
    obtain ⟨p1, p2, p3, p4⟩ := pps_dd ha g (pos := pos) h2
    exact ⟨pps_cons (pe_ix (by rw [← g.hK]; exact ix_A (Nat.lt_of_le_of_lt (Nat.add_le_add_left (show 1 ≤ 65 by decide) _) g.units)) (ha.E g h1) pe_int (plainIx_ck (G := G) (c := c) (sc := sc) (e := .int k) (by simp [ckE]))) pe_int p1, by simp [p2], by simp [p3], by simp [p4]⟩
theorem snd_dd0 {a : E} {ks : List Int} {z : Int} (ha : Snd G c k a) : Snd G c k (.dd0 a ks z) := by
  refine snd_val (fun _ => rfl) (fun {sc Wx X x} g h => ?_) (fun _ xs => by cases xs <;> rfl) (fun _ o => by cases o <;> rfl) (fun _ x => by cases x <;> rfl)
  cases x <;> first | (simp [ckE] at h; done) | skip
  rename_i keys vs pos
  simp only [ckE, Bool.and_eq_true, decide_eq_true_eq] at h
  obtain ⟨⟨h0, h15⟩, h2⟩ := h
  obtain ⟨p1, p2, p3, p4⟩ := pps_dd ha g (pos := pos) h2
  exact ⟨pe_disp p1 p2 p3 (fun e => by rw [e] at p4; simp at p4; omega) (by omega), fun _ => rfl⟩
theorem snd_dtt  : Snd G c k (.dtt) := by
  refine snd_val (fun _ => rfl) (fun {sc Wx X x} g h => ?_) (fun _ xs => by cases xs <;> rfl) (fun _ o => by cases o <;> rfl) (fun _ x => by cases x <;> rfl)
  cases x <;> first | (simp [ckE] at h; done) | skip
  rename_i ks vs pos
  cases ks <;> cases vs <;> first | (simp [ckE] at h; done) | skip
  exact ⟨pe_dnewT, fun _ => rfl⟩
theorem snd_dget {d y z : E} (hd : Snd G c k d) (hy : Snd G c k y) (hz : Snd G c k z) : Snd G c k (.dget d y z) := by
  refine snd_val (fun _ => rfl) (fun {sc Wx X x} g h => ?_) (fun _ xs => by cases xs <;> rfl) (fun _ o => by cases o <;> rfl) (fun _ x => by cases x <;> rfl)
  cases x <;> first | (simp [ckE] at h; done) | skip
  rename_i fn xs kws pos
  cases fn <;> cases kws <;> first | (simp [ckE] at h; done) | skip
  match xs, h with
  | [a, b], h => ?_
  simp only [ckE, Bool.and_eq_true, decide_eq_true_eq] at h
  obtain ⟨⟨⟨⟨rfl, h2⟩, h3⟩, h4⟩, h5⟩ := h
  have n1 := ck_notSt h4
  have n2 := ck_notSt h5
  have hu : X.A.units + 1 < cLine := Nat.lt_of_le_of_lt (Nat.add_le_add_left (show 1 ≤ 65 by decide) _) g.units
  have tr : starEach [a, b] X.env = [(false, eval a X.env), (false, eval b X.env)] := by rw [starC n1, starC n2]; rfl
  exact ⟨pe_dget2 hu (hd.E g h3) (hy.E g h4) (hz.E g h5) ⟨attBase_ck h3, by rw [tr]; rfl, h2, by rw [tr]; rfl⟩, fun _ => rfl⟩
theorem snd_dsetd {d y z : E} (hd : Snd G c k d) (hy : Snd G c k y) (hz : Snd G c k z) : Snd G c k (.dsetd d y z) := by
  refine snd_val (fun _ => rfl) (fun {sc Wx X x} g h => ?_) (fun _ xs => by cases xs <;> rfl) (fun _ o => by cases o <;> rfl) (fun _ x => by cases x <;> rfl)
  cases x <;> first | (simp [ckE] at h; done) | skip
  rename_i fn xs kws pos
  cases fn <;> cases kws <;> first | (simp [ckE] at h; done) | skip
  match xs, h with
  | [a, b], h => ?_
  simp only [ckE, Bool.and_eq_true, decide_eq_true_eq] at h
  obtain ⟨⟨⟨⟨rfl, h2⟩, h3⟩, h4⟩, h5⟩ := h
  have n1 := ck_notSt h4
  have n2 := ck_notSt h5
  have hu : X.A.units + 1 < cLine := Nat.lt_of_le_of_lt (Nat.add_le_add_left (show 1 ≤ 65 by decide) _) g.units
  have tr : starEach [a, b] X.env = [(false, eval a X.env), (false, eval b X.env)] := by rw [starC n1, starC n2]; rfl
  exact ⟨pe_dsetd (hd.E g h3) (hy.E g h4) (hz.E g h5) ⟨attBase_ck h3, by rw [tr]; rfl, h2, by rw [tr]; rfl⟩, fun _ => rfl⟩
theorem snd_dpop {d y : E} (hd : Snd G c k d) (hy : Snd G c k y) : Snd G c k (.dpop d y) := by
  refine snd_val (fun _ => rfl) (fun {sc Wx X x} g h => ?_) (fun _ xs => by cases xs <;> rfl) (fun _ o => by cases o <;> rfl) (fun _ x => by cases x <;> rfl)
  cases x <;> first | (simp [ckE] at h; done) | skip
  rename_i fn xs kws pos
  cases fn <;> cases kws <;> first | (simp [ckE] at h; done) | skip
  match xs, h with
  | [a], h => ?_
  simp only [ckE, Bool.and_eq_true, decide_eq_true_eq] at h
  obtain ⟨⟨⟨rfl, h2⟩, h3⟩, h4⟩ := h
  have n1 := ck_notSt h4
  have tr : starEach [a] X.env = [(false, eval a X.env)] := by rw [starC n1]; rfl
  exact ⟨pe_dpop1 (hd.E g h3) (hy.E g h4) ⟨attBase_ck h3, by rw [tr]; rfl, h2, by rw [tr]; rfl⟩, fun _ => rfl⟩
theorem snd_ditm {d : E} (hd : Snd G c k d) : Snd G c k (.ditm d) := by
  refine snd_val (fun _ => rfl) (fun {sc Wx X x} g h => ?_) (fun _ xs => by cases xs <;> rfl) (fun _ o => by cases o <;> rfl) (fun _ x => by cases x <;> rfl)
  cases x <;> first | (simp [ckE] at h; done) | skip
  rename_i fn xs kws pos
  cases fn <;> cases kws <;> first | (simp [ckE] at h; done) | skip
  match xs, h with
  | [.Call (.Attribute x m ap) [] [] cp], h => ?_
  simp only [ckE, Bool.and_eq_true, Bool.not_eq_true', decide_eq_true_eq] at h
  obtain ⟨⟨⟨⟨⟨hh, rfl⟩, h2⟩, rfl⟩, h4⟩, h5⟩ := h
  exact ⟨LiI.pe_listItems (g.calm hh) (hd.E g h5) (g.gl h2) (g.mgN (by simp [bltNames])) (boot_blt .list) (attBase_ck h5) h4 rfl, fun _ => rfl⟩
theorem snd_isx {i n : Nat} : Snd G c k (.isx i n) := by
  refine snd_val (fun _ => rfl) (fun {sc Wx X x} g h => ?_) (fun _ xs => by cases xs <;> rfl) (fun _ o => by cases o <;> rfl) (fun _ x => by cases x <;> rfl)
  cases x <;> first | (simp [ckE] at h; done) | skip
  rename_i fn xs kws pos
  cases fn <;> cases kws <;> first | (simp [ckE] at h; done) | skip
  match xs, h with
  | [.Name x p1, .Name m p2], h => ?_
  have h0 := h
  simp only [ckE, Bool.and_eq_true] at h
  exact ⟨g.isx h.1.1.1.1.1.1 _ _ rfl h0, fun _ => rfl⟩
theorem snd_isv {i : Nat} : Snd G c k (.isv i) := by
  refine snd_val (fun _ => rfl) (fun {sc Wx X x} g h => ?_) (fun _ xs => by cases xs <;> rfl) (fun _ o => by cases o <;> rfl) (fun _ x => by cases x <;> rfl)
  cases x <;> first | (simp [ckE] at h; done) | skip
  rename_i fn xs kws pos
  cases fn <;> cases kws <;> first | (simp [ckE] at h; done) | skip
  match xs, h with
  | [.Name x p1, .Name m p2], h => ?_
  have h0 := h
  simp only [ckE, Bool.and_eq_true] at h
  exact ⟨g.isx h.1.1.1.1.1 _ _ rfl h0, fun _ => rfl⟩
theorem snd_isxs {i : Nat} {ns : List Nat} : Snd G c k (.isxs i ns) := by
  refine snd_val (fun _ => rfl) (fun {sc Wx X x} g h => ?_) (fun _ xs => by cases xs <;> rfl) (fun _ o => by cases o <;> rfl) (fun _ x => by cases x <;> rfl)
  cases x <;> first | (simp [ckE] at h; done) | skip
  rename_i fn xs kws pos
  cases fn <;> cases kws <;> first | (simp [ckE] at h; done) | skip
  match xs, h with
  | [.Name x p1, .Tuple ys tk p2], h => ?_
  have h0 := h
  simp only [ckE, Bool.and_eq_true] at h
  exact ⟨g.isx h.1.1.1.1 _ _ rfl h0, fun _ => rfl⟩
theorem snd_exf {i : Nat} {f : Str} : Snd G c k (.exf i f) := by
  refine snd_val (fun _ => rfl) (fun {sc Wx X x} g h => ?_) (fun _ xs => by cases xs <;> rfl) (fun _ o => by cases o <;> rfl) (fun _ x => by cases x <;> rfl)
  cases x <;> first | (simp [ckE] at h; done) | skip
  rename_i o m p
  cases o <;> first | (simp [ckE] at h; done) | skip
  have h0 := h
  simp only [ckE, Bool.and_eq_true] at h
  exact ⟨g.isx h.1.1 _ _ rfl h0, fun _ => rfl⟩
theorem snd_lrev {e : E} (he : Snd G c k e) : Snd G c k (.lrev e) := by
  refine snd_val (fun _ => rfl) (fun {sc Wx X x} g h => ?_) (fun _ xs => by cases xs <;> rfl) (fun _ o => by cases o <;> rfl) (fun _ x => by cases x <;> rfl)
  cases x <;> first | (simp [ckE] at h; done) | skip
  rename_i fn xs kws pos
  cases fn <;> cases kws <;> first | (simp [ckE] at h; done) | skip
  match xs, h with
  | [.Call (.Name r p2) [x] [] pos2], h => ?_
  simp only [ckE, Bool.and_eq_true, Bool.not_eq_true', decide_eq_true_eq] at h
  obtain ⟨⟨⟨⟨⟨hh, rfl⟩, rfl⟩, h2⟩, h3⟩, h4⟩ := h
  have n1 := ck_notSt h4
  refine ⟨?_, fun _ => rfl⟩
  show PE X _ (tLstRev G.C.K _)
  rw [← g.hK]
  exact pe_lstRev (g.calm hh) (g.gl h2) (g.mgN (by simp [bltNames])) (g.gl h3) (g.mgN (by simp [bltNames])) (he.E g h4) (boot_blt .list) (starC n1)
theorem snd_sset {e : E} (he : Snd G c k e) : Snd G c k (.sset e) := by
  refine snd_val (fun _ => rfl) (fun {sc Wx X x} g h => ?_) (fun _ xs => by cases xs <;> rfl) (fun _ o => by cases o <;> rfl) (fun _ x => by cases x <;> rfl)
  cases x <;> first | (simp [ckE] at h; done) | skip
  rename_i fn xs kws pos
  cases fn <;> cases kws <;> first | (simp [ckE] at h; done) | skip
  match xs, h with
  | [.Call (.Name r p2) [x] [] pos2], h => ?_
  simp only [ckE, Bool.and_eq_true, Bool.not_eq_true', decide_eq_true_eq] at h
  obtain ⟨⟨⟨⟨⟨hh, rfl⟩, rfl⟩, h2⟩, h3⟩, h4⟩ := h
  have n1 := ck_notSt h4
  refine ⟨?_, fun _ => rfl⟩
  show PE X _ (tSSet G.C.K _)
  rw [← g.hK]
  exact pe_sset (g.calm hh) (g.gl h2) (g.mgN (by simp [bltNames])) (g.gl h3) (g.mgN (by simp [bltNames])) (he.E g h4) (boot_blt .sorted) PyProof.Rows.boot_set (starC n1)
end
end Q
/-! Q6: comprehensions, what is walked over; all expressions. -/
namespace Q
open PySem L2 PySem.Spec
section
variable {G : Gx} {c : Cn} {k : Nat}
theorem Good.blk {sc : Scope} {Wx : WX} {X : Cx} (g : Good G c k sc Wx X) (hh : c.hot = false) (s : Shared) (H : Hp) (scope : Scope) (D : Addr) (cl : List (Str × Addr)) (fp : List Addr) : Good G c k (relS scope sc) noX (X.blk s H scope (compEnvC scope cl D X.env) fp) where
  hP := g.hP
  hw := g.hw
  hK := g.hK
  hmg := g.hmg
  hb := g.hb
  hN := g.hN
  nd := g.nd
  hsc := by
    rw [← g.hsc]
    rfl
  calm := g.calm
  room := g.room
  tk := fun u s' ⟨_, _, _, _, _, _, _, _, _, _, _, _, _, _, _, _, z⟩ => z
  po := PassesOwn.never
  blt := g.blt
  glo := g.glo
  fns := g.fns
  units := g.units
  fnh := g.fnh
  mts := g.mts
  mks := g.mks
  bis := g.bis
  hotg := fun h => by rw [hh] at h; cases h
  isx := fun h => by rw [hh] at h; cases h
theorem zip_snd {α β : Type} : ∀ {a : List α} {b : List β}, a.length = b.length → (a.zip b).map (·.2) = b
  | [], [], _ => rfl
  | _ :: a, _ :: b, h => by
    show _ :: (a.zip b).map (·.2) = _
    rw [zip_snd (by simpa using h)]
theorem zip_mem {α β : Type} : ∀ {a : List α} {b : List β}, a.length = b.length → ∀ x ∈ a, ∃ y, (x, y) ∈ a.zip b
  | [], [], _, _, z => nomatch z
  | _ :: a, _ :: b, h, x, hx => by
    rcases List.mem_cons.mp hx with rfl | hx
    · exact ⟨_, List.mem_cons_self⟩
    · obtain ⟨y, hy⟩ := zip_mem (a := a) (b := b) (by simpa using h) x hx
      exact ⟨y, List.mem_cons_of_mem _ hy⟩
theorem tup_of_tg {sc : Scope} {js : List Nat} {tg : Expr} (h : ckTg c sc js tg = true) (hl : 1 < js.length) : isTupE tg = true := by
  match js, tg, h with
  | [i], _, _ => simp at hl
  | _ :: _ :: _, .Tuple _ _ _, _ => rfl
theorem snd_lc {js : List Nat} {it t e : E} (hit : Snd G c k it) (ht : Snd G c k t) (he : Snd G c k e) : Snd G c k (.lc js it t e) := by
  refine snd_val (fun _ => rfl) (fun {sc Wx X x} g h => ?_) (fun _ xs => by cases xs <;> rfl) (fun _ o => by cases o <;> rfl) (fun _ x => by cases x <;> rfl)
  cases x <;> first | (simp [ckE] at h; done) | skip
  rename_i elt gens scope pos
  match gens, h with
  | [⟨tg, iter, ifs, 0⟩], h =>
    simp only [ckE, Bool.and_eq_true, Bool.not_eq_true', decide_eq_true_eq] at h
    obtain ⟨⟨⟨⟨⟨⟨⟨hh, h1⟩, htp⟩, h2⟩, h3⟩, h4⟩, h5⟩, h6⟩ := h
    simp only [ckC, Bool.and_eq_true, decide_eq_true_eq, List.all_eq_true] at h2
    obtain ⟨⟨hlen, hbk⟩, hloc⟩ := h2
    have bk := blkOk_by hbk
    refine ⟨?_, fun _ => rfl⟩
    have q := pe_lc (elt := elt) (pos := pos) (ifs := ifs) (own := (tgNs tg).zip js) (g := gTg G.C.K js) (g.calm hh) (by rw [g.hN]; exact g.nd) (hit.I (tg := tg) g h1 (by simpa using htp)) (by rw [g.hN, g.hsc]; exact bk)
      (fun s H D cl fp => by
        have gb := g.blk hh s H scope D cl fp
        rw [← gb.hK]
        refine pg_tg (c := c) (gb.calm hh) gb.hN gb.nd gb.hsc (fun x hx => .inr ?_) h3
        rw [gb.hsc]
        exact hloc x hx)
      (fun s H D cl fp => ht.P (g.blk hh s H scope D cl fp) h4 h5) (fun s H D cl fp => he.E (g.blk hh s H scope D cl fp) h6) (fold_ckI h1)
    rw [zip_snd hlen] at q
    exact q
/-! what is walked over -/
theorem snd_it {e : E} (ne : ∀ sc x, ckE G c sc e x = false) (nl : ∀ sc xs, ckL G c sc e xs = false) (no : ∀ sc o, ckO G c sc e o = false)
    (hI : ∀ {sc Wx X x tg}, Good G c k sc Wx X → ckI G c sc e x = true → isTupE tg = true ∨ freeIt e = true → PI X tg x (rd G.T G.C e Wx).I) : Snd G c k e where
  E := fun _ h => by rw [ne] at h; cases h
  T := fun _ h => by rw [ne] at h; cases h
  L := fun _ h => by rw [nl] at h; cases h
  O := fun _ h => by rw [no] at h; cases h
  P := fun _ h => by rw [nl] at h; cases h
  A := fun _ h => by rw [nl] at h; cases h
  R := fun _ h => by rw [nl] at h; cases h
  AV := fun _ h => by rw [nl] at h; cases h
  RV := fun _ h => by rw [nl] at h; cases h
  I := hI
theorem snd_iL {e : E} (he : Snd G c k e) : Snd G c k (.iL e) := snd_it (fun _ x => by cases x <;> rfl) (fun _ xs => by cases xs <;> rfl) (fun _ o => by cases o <;> rfl) fun {sc Wx X x tg} g h _ => by
  simp only [ckI] at h
  show PI X tg x (iList G.C.K _)
  rw [← g.hK]
  exact pi_list (he.E g h)
theorem snd_iT {e : E} (he : Snd G c k e) : Snd G c k (.iT e) := snd_it (fun _ x => by cases x <;> rfl) (fun _ xs => by cases xs <;> rfl) (fun _ o => by cases o <;> rfl) fun {sc Wx X x tg} g h _ => by
  simp only [ckI] at h
  show PI X tg x (iTup G.C.K _)
  rw [← g.hK]
  exact pi_tup (he.E g h)
theorem snd_iDk {e : E} (he : Snd G c k e) : Snd G c k (.iDk e) := snd_it (fun _ x => by cases x <;> rfl) (fun _ xs => by cases xs <;> rfl) (fun _ o => by cases o <;> rfl) fun {sc Wx X x tg} g h _ => by
  simp only [ckI] at h
  exact pi_keys (he.E g h)
theorem snd_iSt {e : E} (he : Snd G c k e) : Snd G c k (.iSt e) := snd_it (fun _ x => by cases x <;> rfl) (fun _ xs => by cases xs <;> rfl) (fun _ o => by cases o <;> rfl) fun {sc Wx X x tg} g h _ => by
  simp only [ckI] at h
  exact pi_str (he.E g h)
theorem snd_iR1 {e : E} (he : Snd G c k e) : Snd G c k (.iR1 e) := snd_it (fun _ x => by cases x <;> rfl) (fun _ xs => by cases xs <;> rfl) (fun _ o => by cases o <;> rfl) fun {sc Wx X x tg} g h _ => by
  cases x <;> first | (simp [ckI] at h; done) | skip
  rename_i fn xs kws pos
  match fn, xs, kws, h with
  | .Name n p, [x], [], h =>
    simp only [ckI, Bool.and_eq_true, decide_eq_true_eq] at h
    obtain ⟨⟨rfl, h2⟩, h3⟩ := h
    have n1 := ck_notSt h3
    exact pi_range1 (g.gl h2) (g.mgN (by simp [bltNames])) (pa_cons (he.E g h3) pa_nil (starC n1)) (starC n1)
theorem snd_iR2 {e f : E} (he : Snd G c k e) (hf : Snd G c k f) : Snd G c k (.iR2 e f) := snd_it (fun _ x => by cases x <;> rfl) (fun _ xs => by cases xs <;> rfl) (fun _ o => by cases o <;> rfl) fun {sc Wx X x tg} g h _ => by
  cases x <;> first | (simp [ckI] at h; done) | skip
  rename_i fn xs kws pos
  match fn, xs, kws, h with
  | .Name n p, [x, y], [], h =>
    simp only [ckI, Bool.and_eq_true, decide_eq_true_eq] at h
    obtain ⟨⟨⟨rfl, h2⟩, h3⟩, h4⟩ := h
    have n1 := ck_notSt h3
    have n2 := ck_notSt h4
    exact pi_range2 (g.gl h2) (g.mgN (by simp [bltNames])) (pa_cons (he.E g h3) (pa_cons (hf.E g h4) pa_nil (starC n2)) (starC n1)) (by rw [starC n1, starC n2]; rfl) (starC n2)
theorem snd_iR3 {e f d : E} (he : Snd G c k e) (hf : Snd G c k f) (hd : Snd G c k d) : Snd G c k (.iR3 e f d) := snd_it (fun _ x => by cases x <;> rfl) (fun _ xs => by cases xs <;> rfl) (fun _ o => by cases o <;> rfl) fun {sc Wx X x tg} g h _ => by
  cases x <;> first | (simp [ckI] at h; done) | skip
  rename_i fn xs kws pos
  match fn, xs, kws, h with
  | .Name n p, [x, y, z], [], h =>
    simp only [ckI, Bool.and_eq_true, decide_eq_true_eq] at h
    obtain ⟨⟨⟨⟨rfl, h2⟩, h3⟩, h4⟩, h5⟩ := h
    have n1 := ck_notSt h3
    have n2 := ck_notSt h4
    have n3 := ck_notSt h5
    exact pi_range3 (g.gl h2) (g.mgN (by simp [bltNames])) (pa_cons (he.E g h3) (pa_cons (hf.E g h4) (pa_cons (hd.E g h5) pa_nil (starC n3)) (starC n2)) (starC n1)) (starC n1) (star_all (xs := [y, z]) (by simp only [noSt, List.all_cons, n2, n3]; rfl))
theorem snd_iEn {e : E} (he : Snd G c k e) : Snd G c k (.iEn e) := snd_it (fun _ x => by cases x <;> rfl) (fun _ xs => by cases xs <;> rfl) (fun _ o => by cases o <;> rfl) fun {sc Wx X x tg} g h ht => by
  have ht' : isTupE tg = true := ht.elim id fun z => by cases z
  obtain ⟨te, tk, tp, rfl⟩ : ∃ te tk tp, tg = .Tuple te tk tp := by cases tg <;> first | (exact ⟨_, _, _, rfl⟩) | (cases ht'; done)
  cases x <;> first | (simp [ckI] at h; done) | skip
  rename_i fn xs kws pos
  match fn, xs, kws, h with
  | .Name n p, [x], [], h =>
    simp only [ckI, Bool.and_eq_true, decide_eq_true_eq] at h
    obtain ⟨⟨rfl, h2⟩, h3⟩ := h
    have n1 := ck_notSt h3
    have q := pi_enum (elts := te) (kk := tk) (tpos := tp) (pos := pos) (p := p) (g.gl h2) (g.mgN (by simp [bltNames])) (pa_cons (he.E g h3) pa_nil (starC n1)) (starC n1)
    rw [g.hK] at q
    exact q
theorem snd_iZp {e f : E} (he : Snd G c k e) (hf : Snd G c k f) : Snd G c k (.iZp e f) := snd_it (fun _ x => by cases x <;> rfl) (fun _ xs => by cases xs <;> rfl) (fun _ o => by cases o <;> rfl) fun {sc Wx X x tg} g h ht => by
  have ht' : isTupE tg = true := ht.elim id fun z => by cases z
  obtain ⟨te, tk, tp, rfl⟩ : ∃ te tk tp, tg = .Tuple te tk tp := by cases tg <;> first | (exact ⟨_, _, _, rfl⟩) | (cases ht'; done)
  cases x <;> first | (simp [ckI] at h; done) | skip
  rename_i fn xs kws pos
  match fn, xs, kws, h with
  | .Name n p, [x, y], [], h =>
    simp only [ckI, Bool.and_eq_true, decide_eq_true_eq] at h
    obtain ⟨⟨⟨rfl, h2⟩, h3⟩, h4⟩ := h
    have n1 := ck_notSt h3
    have n2 := ck_notSt h4
    have q := pi_zip (elts := te) (kk := tk) (tpos := tp) (pos := pos) (p := p) (g.gl h2) (g.mgN (by simp [bltNames])) (pa_cons (he.E g h3) (pa_cons (hf.E g h4) pa_nil (starC n2)) (starC n1)) (starC n1) (by rw [starC n2]; rfl)
    rw [g.hK] at q
    exact q
theorem snd_iRv {e : E} (he : Snd G c k e) : Snd G c k (.iRv e) := snd_it (fun _ x => by cases x <;> rfl) (fun _ xs => by cases xs <;> rfl) (fun _ o => by cases o <;> rfl) fun {sc Wx X x tg} g h _ => by
  cases x <;> first | (simp [ckI] at h; done) | skip
  rename_i fn xs kws pos
  match fn, xs, kws, h with
  | .Name n p, [x], [], h =>
    simp only [ckI, Bool.and_eq_true, decide_eq_true_eq] at h
    obtain ⟨⟨rfl, h2⟩, h3⟩ := h
    have n1 := ck_notSt h3
    have q := pi_reversed (tg := tg) (pos := pos) (p := p) (g.gl h2) (g.mgN (by simp [bltNames])) (pa_cons (he.E g h3) pa_nil (starC n1)) (starC n1)
    rw [g.hK] at q
    exact q
theorem snd_iIt {e : E} (he : Snd G c k e) : Snd G c k (.iIt e) := snd_it (fun _ x => by cases x <;> rfl) (fun _ xs => by cases xs <;> rfl) (fun _ o => by cases o <;> rfl) fun {sc Wx X x tg} g h ht => by
  have ht' : isTupE tg = true := ht.elim id fun z => by cases z
  obtain ⟨te, tk, tp, rfl⟩ : ∃ te tk tp, tg = .Tuple te tk tp := by cases tg <;> first | (exact ⟨_, _, _, rfl⟩) | (cases ht'; done)
  cases x <;> first | (simp [ckI] at h; done) | skip
  rename_i fn xs kws pos
  match fn, xs, kws, h with
  | .Attribute o m ap, [], [], h =>
    simp only [ckI, Bool.and_eq_true, decide_eq_true_eq] at h
    obtain ⟨⟨rfl, h2⟩, h3⟩ := h
    exact pi_items (he.E g h3) (attBase_ck h3) h2
theorem snd_iDv {e : E} (he : Snd G c k e) : Snd G c k (.iDv e) := snd_it (fun _ x => by cases x <;> rfl) (fun _ xs => by cases xs <;> rfl) (fun _ o => by cases o <;> rfl) fun {sc Wx X x tg} g h ht => by
  cases x <;> first | (simp [ckI] at h; done) | skip
  rename_i fn xs kws pos
  match fn, xs, kws, h with
  | .Attribute o m ap, [], [], h =>
    simp only [ckI, Bool.and_eq_true, decide_eq_true_eq] at h
    obtain ⟨⟨rfl, h2⟩, h3⟩ := h
    exact pi_values (he.E g h3) (attBase_ck h3) h2
def extH (h : Heap) (n : Nat) (a : Addr) (oe : Obj) : Heap := { h with objs := Array.ofFn (n := n) fun i => if i.val = a then oe else (h.get? i.val).getD { cls := .none, dict := none, data := .freed } }
theorem heap_ix {h : Heap} {b : Addr} {o : Obj} (e : h.objs[b]? = some o) (nf : o.data ≠ .freed) : h.get? b = some o := by
  unfold Heap.get?
  rw [e]
  obtain ⟨c, d, dt, sl⟩ := o
  cases dt <;> first | rfl | exact absurd rfl nf
theorem heap_nf {h : Heap} {b : Addr} {o : Obj} (e : h.get? b = some o) : h.objs[b]? = some o ∧ o.data ≠ .freed := by
  unfold Heap.get? at e
  split at e
  · cases e
  · rename_i hx
    refine ⟨e, fun z => ?_⟩
    obtain ⟨c, d, dt, sl⟩ := o
    simp only at z
    subst z
    exact hx _ _ _ e
theorem extH_at {h : Heap} {n : Nat} {a : Addr} {oe : Obj} (ha : a < n) (nf : oe.data ≠ .freed) : (extH h n a oe).get? a = some oe := by
  refine heap_ix ?_ nf
  show (Array.ofFn _)[a]? = _
  rw [Array.getElem?_ofFn, dif_pos ha]
  simp
theorem extH_keep {h : Heap} {n : Nat} {a b : Addr} {oe o : Obj} (hn : h.objs.size ≤ n) (hb : b = a → o = oe) (e : h.get? b = some o) : (extH h n a oe).get? b = some o := by
  have hl : b < n := Nat.lt_of_lt_of_le (Heap.lt_size e) hn
  refine heap_ix ?_ (heap_nf e).2
  show (Array.ofFn _)[b]? = _
  rw [Array.getElem?_ofFn, dif_pos hl]
  by_cases z : b = a
  · simp only [z, if_true]
    rw [hb z]
  · simp only [z, if_false]
    rw [e]
    rfl
theorem extH_back {h : Heap} {n : Nat} {a b : Addr} {oe o : Obj} (e : (extH h n a oe).get? b = some o) : (b = a ∧ o = oe) ∨ h.get? b = some o := by
  obtain ⟨e1, e2⟩ := heap_nf e
  replace e1 : (Array.ofFn _)[b]? = some o := e1
  rw [Array.getElem?_ofFn] at e1
  split at e1
  · by_cases z : b = a
    · simp only [z, if_true, Option.some.injEq] at e1
      exact .inl ⟨z, e1.symm⟩
    · simp only [z, if_false, Option.some.injEq] at e1
      cases q : h.get? b with
      | some u =>
        rw [q] at e1
        exact .inr (by rw [← e1]; rfl)
      | none =>
        rw [q] at e1
        rw [← e1] at e2
        exact absurd rfl e2
  · cases e1
theorem mod_ext {K : PySem.W.Frag} {mg : Str → Option Value} {h h' : Heap} (m : Mod K mg h) (k : ∀ b o, h.get? b = some o → h'.get? b = some o) : Mod K mg h' where
  kin := m.kin.keeps k
  glob := m.glob.keeps k
  blt := let ⟨mb, q, r⟩ := m.blt; ⟨mb, q.keeps k, r⟩
  nolimit := m.nolimit.keeps k
theorem env0_ext {P : Program} {w : World} {K : PySem.W.Frag} {mg : Str → Option Value} {base : Heap} {A : Around} {outer : List PySem.Env} {s : Shared} {H : Hp} {a : Addr} {oe : Obj} (e0 : Env0 P w K mg base A outer s H) (ha : s.heap.get? a = some oe) (hf : H a = none) (ho : a ∉ frs outer) :
    (∀ b o, base.get? b = some o → (extH base s.heap.objs.size a oe).get? b = some o) ∧ (extH base s.heap.objs.size a oe).get? a = some oe ∧ Env0 P w K mg (extH base s.heap.objs.size a oe) A outer s H := by
  have k : ∀ b o, base.get? b = some o → (extH base s.heap.objs.size a oe).get? b = some o := fun b o e => extH_keep e0.bsz (fun z => by
    subst z
    have q := (e0.bs _ _ e).1
    rw [ha] at q
    cases q
    rfl) e
  refine ⟨k, extH_at (Heap.lt_size ha) (heap_nf ha).2, ⟨e0.frames, mod_ext e0.mod k, fun b o e => ?_, ?_, ?_, e0.frf, e0.hok, e0.bare⟩⟩
  · rcases extH_back e with ⟨rfl, rfl⟩ | z
    · exact ⟨ha, hf⟩
    · exact e0.bs b o z
  · show (Array.ofFn _).size ≤ _
    rw [Array.size_ofFn]
    exact Nat.le_refl _
  · refine funFrames_none e0.funs fun L hL => ?_
    cases q : (extH base s.heap.objs.size a oe).get? L with
    | none => rfl
    | some o =>
      rcases extH_back q with ⟨rfl, _⟩ | z
      · exact absurd hL ho
      · rw [(e0.funs.mem hL).1] at z
        cases z
theorem pe_callHo {i : Nat} {es : E} (hs : Snd G c k es) {sc : Scope} {Wx : WX} {X : Cx} {f : Str} {x : Expr} {xs : List Expr} {p pos : Pos} (g : Good G c k sc Wx X)
    (h : (c.hot && decide (i ∈ c.hs) && decide (f = G.fn i) && glB sc f && ckL G c sc es (x :: xs)) = true) : PE X (.Call (.Name f p) (x :: xs) [] pos) (rCall (G.T.f i) G.C (elen es) (WE Wx) (rd G.T G.C es Wx).L) := by
  simp only [Bool.and_eq_true, decide_eq_true_eq] at h
  obtain ⟨⟨⟨⟨hh, h1⟩, rfl⟩, h2⟩, h3⟩ := h
  obtain ⟨k1, k2, k3⟩ := glB_ok h2
  obtain ⟨m, a, dx, oe, hg⟩ := g.hotg hh
  obtain ⟨fa, ⟨fd, ps, F, hk, hl, hb⟩, hm⟩ := g.fnh i h1
  have hA := hs.L g h3
  have h4 := ckL_noSt h3
  simp only [noSt, List.all_cons, Bool.and_eq_true] at h4
  unfold rCall
  split
  rotate_left
  · exact ⟨fun _ _ _ _ _ _ z => z.elim⟩
  rename_i ha
  refine ⟨fun pins s σ H Q I hw => ?_⟩
  refine wpAny_Call_Name_kw (ld_glob I (g.gl h2) (by rw [g.hmg]; exact hm) ?_ k2)
  refine PySem.W.callWith_K (h₀ := X.base) I.ok.mod.kin (by rw [g.hK]; exact hk) ?_ (starC h4.1) (star_all h4.2)
  refine thn (hA.run pos pins s σ H _ I hw) fun us s1 ⟨vs, H1, I1, r, q⟩ => ?_
  refine ⟨I1.kIn, ?_⟩
  obtain ⟨us2, B, V⟩ := hb (elen es + (G.T.f i).dfl.length - (G.T.f i).ar) (by omega)
  obtain ⟨A1, A2, A3⟩ := hg.at_ I1
  obtain ⟨E1, E2, E3⟩ := env0_ext I1.env0 A1 A2 A3
  have F' : L2H.FnH X.prog X.w X.K X.mg (extH X.base s1.heap.objs.size a oe) (L2N.CX X.prog X.w) k fa fd ps ((G.T.f i).sp { G.C with ex := some (m, a, dx) }) := by
    rw [g.hP, g.hw, g.hK, g.hmg]
    exact F m a dx oe _ hg.ob (by rw [← g.hb]; exact E1) E2
  have hC : ({ G.C with ex := some (m, a, dx) } : Kc) = G.C := by
    have := hg.ex
    cases hh : G.C with
    | mk K cl gl ex =>
      rw [hh] at this
      simp only at this
      rw [this]
  rw [hC] at F'
  have r2 : Vals (vs ++ (G.T.f i).dfl.drop (elen es + (G.T.f i).dfl.length - (G.T.f i).ar)) (us ++ us2) := r.append V
  have hl2 : (us ++ us2).length = ps.length := r2.length.symm.trans (F'.len _ _ _ _ q)
  obtain ⟨pp, hot, hp⟩ := hg.hc
  have P1 := I1.pin pp (List.mem_append_left _ hp)
  have hpin : L2H.PinOk X.stack H1 s1 pp := ⟨P1.1, P1.2.1, fun z => (List.mem_cons.mp (I1.stkSub _ z)).elim P1.2.2.1 P1.2.2.2.1, P1.2.2.2.2⟩
  have bd := B s1 us (by rw [← g.hK]; exact I1.kIn) hl2
  refine wpAny_call (codeAny_mono (F'.run X.A X.stack s1 H1 ⟨us, []⟩ (us ++ us2) _ Q (WE Wx σ) pp hg.room hot hpin E3 bd r2 q) fun r s' hq => ?_)
  match r, hq with
  | .error e, hq => exact L2N.passAt g.tk σ pins H1 s1 e s' I1 hq
  | .ok (.ret u), hq => exact I1.after hq
  | .ok .next, hq => exact False.elim hq
  | .ok .brk, hq => exact False.elim hq
  | .ok .cont, hq => exact False.elim hq
theorem snd_callH {i : Nat} {es : E} (hs : Snd G c k es) : Snd G c k (.callH i es) := by
  refine snd_val (fun _ => rfl) (fun {sc Wx X x} g h => ?_) (fun _ xs => by cases xs <;> rfl) (fun _ o => by cases o <;> rfl) (fun _ x => by cases x <;> rfl)
  cases x <;> first | (simp [ckE] at h; done) | skip
  rename_i fn xs kws pos
  cases fn <;> cases xs <;> cases kws <;> first | (simp [ckE] at h; done) | skip
  simp only [ckE] at h
  exact ⟨pe_callHo hs g h, fun _ => rfl⟩
theorem snd_mthH {cs : List Nat} {a : E} {m : Str} {es : E} : Snd G c k (.mthH cs a m es) := by
  refine snd_plain (fun {sc Wx X x} g h => ?_) (fun {sc Wx X x} g h => ?_) (fun _ xs => by cases xs <;> rfl) (fun _ o => by cases o <;> rfl) (fun _ x => by cases x <;> rfl)
  all_goals (cases x <;> simp [ckE] at h)
theorem snd (e : E) : Snd G c k e := by
  induction e with
  | var i => exact snd_var i
  | int n => exact snd_int n
  | str n => exact snd_str n
  | bl n => exact snd_bl n
  | non => exact snd_non
  | glo n => exact snd_glo n
  | bin o a b ha hb => exact snd_bin ha hb
  | neg a ha => exact snd_neg ha
  | cmp o a b ha hb => exact snd_cmp ha hb
  | chn o p a b d ha hb hd => exact snd_chn ha hb hd
  | nt a ha => exact snd_nt ha
  | and es hs => exact snd_and hs
  | or es hs => exact snd_or hs
  | ife t a b ht ha hb => exact snd_ife ht ha hb
  | tup es hs => exact snd_tup hs
  | lst es hs => exact snd_lst hs
  | nil => exact snd_nil
  | cons e es he hs => exact snd_cons he hs
  | ix a i ha hi => exact snd_ix ha hi
  | sl a lo hi ha hl hh => exact snd_sl ha hl hh
  | call i es hs => exact snd_call hs
  | callH i es hs => exact snd_callH hs
  | blt f es hs => exact snd_blt hs
  | isi a t ha => exact snd_isi ha
  | isC a n ha => exact snd_isC ha
  | dd0 a ks z ha => exact snd_dd0 ha
  | att a f ha => exact snd_att ha
  | mth cs a m es ha hs => exact snd_mth ha hs
  | mthH cs a m es ha hs => exact snd_mthH
  | mk n es hs => exact snd_mk hs
  | binit n es hs => exact snd_binit hs
  | bm m a es ha hs => exact snd_bm ha hs
  | join s e he => exact snd_join he
  | dct => exact snd_dct
  | dtt => exact snd_dtt
  | dget d y z hd hy hz => exact snd_dget hd hy hz
  | dsetd d y z hd hy hz => exact snd_dsetd hd hy hz
  | dpop d y hd hy => exact snd_dpop hd hy
  | ditm d hd => exact snd_ditm hd
  | lrev e he => exact snd_lrev he
  | sset e he => exact snd_sset he
  | lc js it t e hit ht he => exact snd_lc hit ht he
  | iL e he => exact snd_iL he
  | iT e he => exact snd_iT he
  | iR1 e he => exact snd_iR1 he
  | iR2 e f he hf => exact snd_iR2 he hf
  | iR3 e f d he hf hd => exact snd_iR3 he hf hd
  | iEn e he => exact snd_iEn he
  | iZp e f he hf => exact snd_iZp he hf
  | iIt e he => exact snd_iIt he
  | iDv e he => exact snd_iDv he
  | iDk e he => exact snd_iDk he
  | iSt e he => exact snd_iSt he
  | iRv e he => exact snd_iRv he
  | isx i n => exact snd_isx
  | isxs i ns => exact snd_isxs
  | isv i => exact snd_isv
  | exf i f => exact snd_exf
end
end Q
/-! Q7: statements. -/
namespace Q
open PySem L2 PySem.Spec
inductive S where
  | nop | seq (a b : S) | pas
  | exp (e : E) | asg (i : Nat) (e : E) | asgT (is : List Nat) (e : E)
  | aug (i : Nat) (o : Operator) (e : E)
  | ret (e : E) | retN
  | ife (t : E) (a b : S)
  | for (js : List Nat) (it : E) (b : S) | forD (js : List Nat) (it : E) (b : S)
  | whl (t : E) (b : S) | forH (i : Nat) (e : E) (b : S)
  | brk | cnt
  | setf (a : E) (f : Str) (e : E) | setk (d k e : E) | setl (l i e : E)
  | rse0 (c : Nat) | rse (c : Nat) (es : E)
  | tryA (b : S) (c i : Nat) (h : S) | tryO (b : S) (c : Nat) (h : S)
  | vini (c : Nat) (es : E) | ost (a : E) (f : Str) (e : E)
  | stuck
/-- what an except suite may use -/
abbrev Cn.inS (c : Cn) : Cn := { c with hot := true, fs := [], ms := [], mks := [], bi := [], rs := [] }
def ipO : Operator → TIp
  | .Add => ipI fun i j => i + j
  | .Sub => ipI fun i j => i - j
  | _ => fun _ _ _ _ => False
def rs (T : Tb) (cs : List Nat) : S → Kc → WX → TS
  | .nop, _, _ => tNext
  | .pas, _, _ => tNext
  | .seq a b, C, W => tSeq (rs T cs a C W) (rs T cs b C W)
  | .exp e, C, W => tDrop (rd T C e W).E
  | .asg i e, C, W => tAsg (rd T C e W).E (gName i)
  | .asgT is e, C, W => tAsg (rd T C e W).E (gTup C.K is.length (gNs is))
  | .aug i o e, C, W => tAug i (rd T C e W).E (ipO o)
  | .ret e, C, W => tRet (rd T C e W).E
  | .retN, _, _ => tRetN
  | .ife t a b, C, W => tIfS (rd T C t W).T (rs T cs a C W) (rs T cs b C W)
  | .for js it b, C, W => tFor (rd T C it W).I (gTg C.K js) (rs T cs b C W)
  | .forD js it b, C, W => fun D σ H => tLock (tFor (rd T C it W).I (gTg C.K js) (rs T cs b C W)) D σ H ∨ tFor (rd T C it W).I (gTg C.K js) (rs T cs b C W) D σ H
  | .forH i e b, C, W => tFor (rd T C (.iSt e) W).I (gTg C.K [i]) (rs T cs b C W)
  | .whl t b, C, W => tWhile (rd T C t W).T (rs T cs b C W)
  | .brk, _, _ => tBreak
  | .cnt, _, _ => tCont
  | .setf a f e, C, W => sFld C.K (rd T C a W).E (rd T C e W).E f
  | .setk d k e, C, W => sDPut (rd T C d W).E (rd T C k W).E (rd T C e W).E
  | .setl l i e, C, W => tAsg (rd T C e W).E (gSub (rd T C l W).E (rd T C i W).E rSetL)
  | .rse0 c, C, W => fun _ σ H => W (.ref (C.cl c)) none σ H
  | .rse c es, C, W => fun _ σ H => if elen es + 1 = (T.f (T.ini c)).ar then tMkO (C.cl c) ((T.f (T.ini c)).sp C) [] (rd T C es W).L σ H (fun cls d H' => W cls d σ H') else False
  | .tryA b n i h, C, W => fun D σ H => rs T cs b C (wAs C.K (.ref (C.cl n)) i (fun a cls dx D σ H => ∃ m ∈ cs, cls = .ref (C.cl m) ∧ rs T cs h { C with ex := some (m, a, dx) } noX D σ H) W D) D σ H
  | .tryO b n h, C, W => fun D σ H => rs T cs b C (wMany C.K W D [(.ref (C.cl n), fun a cls dx D σ H => ∃ m ∈ cs, cls = .ref (C.cl m) ∧ rs T cs h { C with ex := some (m, a, dx) } noX D σ H)]) D σ H
  | .vini _ es, C, W => tDrop (tVeI C.K (rd T C es W).L)
  | .ost a f e, C, W => tOst C.K f (rd T C a W).E (rd T C e W).E
  | .stuck, _, _ => fun _ _ _ => False
/-! ### the text -/
def isLC : Expr → Bool
  | .ListComp _ _ _ _ => true
  | _ => false
/-- the comprehension that is stored at once -/
def lcB (sc : Scope) (x : Str) (p : Pos) (l : Nat) : Expr → Bool
  | .ListComp _ _ scope pos => (match sc.names.lookup x with
    | some .local => (p.line == pos.line) && !(scope.names.any fun (n, k) => n == x && (k == .local || k == .cell))
    | some .cell => true
    | _ => false)
  | _ => true
mutual
def ck1 (G : Gt) (c : Cn) (sc : Scope) : S → Stmt → Bool
  | .asg i e, .Assign [.Name x p] v pos => decide (c.N[i]? = some x) && locB sc x && lcB sc x p pos.line v && ckE G c sc e v
  | .asgT is e, .Assign [.Tuple xs _ _] v _ => !c.hot && ckN c sc is xs && !isTupE v && !isLC v && ckE G c sc e v
  | .exp e, .Expr v _ => !isLC v && ckE G c sc e v
  | .aug i o e, .AugAssign (.Name x _) o' v _ => decide (c.N[i]? = some x) && locB sc x && decide (o = o') && (match o with | .Add => true | .Sub => true | _ => false) && ckE G c sc e v
  | .ret e, .Return (some v) _ => ckE G c sc e v
  | .retN, .Return none _ => true
  | .ife t a b, .If z xs ys _ => ckE G c sc t z && ckS G c sc a xs && ckS G c sc b ys
  | .for js it b, .For tg iter xs [] _ => !c.hot && ckTg c sc js tg && (isTupE tg || freeIt it) && ckI G c sc it iter && ckS G c sc b xs
  | .forD js it b, .For tg iter xs [] _ => !c.hot && ckTg c sc js tg && (isTupE tg || freeIt it) && ckI G c sc it iter && ckS G c sc b xs
  | .forH i e b, .For (.Name x _) iter xs [] _ => c.hot && decide (c.N[i]? = some x) && locB sc x && ckE G c sc e iter && ckS G c sc b xs
  | .whl t b, .While z xs [] _ => ckE G c sc t z && ckS G c sc b xs
  | .brk, .Break _ => true
  | .cnt, .Continue _ => true
  | .pas, .Pass _ => true
  | .setf a f e, .Assign [.Attribute x m _] v _ => !isLC v && decide (f = m) && ckE G c sc a x && ckE G c sc e v
  | .setk d k e, .Assign [.Subscript x y _] v _ => !isLC v && ckE G c sc d x && ckE G c sc k y && ckE G c sc e v
  | .setl l i e, .Assign [.Subscript x y _] v _ => !isLC v && ckE G c sc l x && ckE G c sc i y && ckE G c sc e v
  | .rse0 n, .Raise (some (.Call (.Name x _) [.Constant (.str _) _ _] [] _)) none _ => !c.hot && decide (n ∈ c.rs) && decide (G.T.ini n = 0) && decide (x = G.cn n) && glB sc x
  | .rse n es, .Raise (some (.Call (.Name x _) (y :: ys) [] _)) none _ => !c.hot && decide (n ∈ c.rs) && decide (G.T.ini n ≠ 0) && decide (x = G.cn n) && glB sc x && ckL G c sc es (y :: ys)
  | .tryA b n i h, .Try xs [.ExceptHandler (some (.Name x _)) (some nm) ys _] [] [] _ => !c.hot && decide (n ∈ G.cs) && decide (x = G.cn n) && glB sc x && decide (c.N[i]? = some nm) && decide (sc.names.lookup nm = some .local) && !ys.isEmpty && ckS G c sc b xs && ckS G c.inS sc h ys
  | .tryO b n h, .Try xs [.ExceptHandler (some (.Name x _)) none ys _] [] [] _ => !c.hot && decide (n ∈ G.cs) && decide (x = G.cn n) && glB sc x && !ys.isEmpty && ckS G c sc b xs && ckS G c.inS sc h ys
  | .vini n es, .Expr (.Call (.Attribute (.Name x _) m ap) (y :: ys) [] cp) _ => decide (G.T.mt n "#vini" = 1) && (ap.endLine == cp.line) && decide ((y :: ys).length < 10) && !c.hot && decide (n ∈ c.rs) && decide (x = G.cn n) && decide (m = ("__init__" : Str)) && glB sc x && ckL G c sc es (y :: ys)
  | .ost a f e, .Assign [.Attribute x m _] v _ => !isLC v && decide (f = m) && ckE G c sc a x && ckE G c sc e v
  | _, _ => false
def ckS (G : Gt) (c : Cn) (sc : Scope) : S → List Stmt → Bool
  | .nop, [] => true
  | .seq a b, x :: xs => ck1 G c sc a x && ckS G c sc b xs
  | .stuck, _ => true
  | _, _ => false
end
abbrev veT : List Value := [.type "ValueError", .type "Exception", .type "BaseException", .type "object"]
/-- what an error's class must say -/
structure ClsF (G : Gx) (k : Nat) (rs : List Nat) : Prop where
  mg : ∀ n ∈ G.cs, G.mg (G.cn n) = some (.ref (G.C.cl n))
  sub : ∀ n ∈ rs, n ∈ G.cs
  kp : ∀ n ∈ rs, PySem.W.keepIn G.C.K (.ref (G.C.cl n)) = true
  bs : ∀ n ∈ rs, PySem.W.subIn G.C.K (.ref (G.C.cl n)) (.type "BaseException") = some true
  ty : ∀ n ∈ rs, PySem.W.typeIn G.C.K (.ref (G.C.cl n)) = some (.type "type")
  /-- made of a text: no __init__ of its own -/
  exI : ∀ n ∈ rs, G.T.ini n = 0 → PySem.W.excIn G.C.K (G.C.cl n) veT "ValueError.__new__" = true
  /-- with its own __init__ -/
  exO : ∀ n ∈ rs, G.T.ini n ≠ 0 → OexC G.C.K (G.C.cl n) ∧ ∃ f k', k' + 1 ≤ k ∧ FnC G k' (G.T.f (G.T.ini n)) f ∧ PySem.W.findIn G.C.K (.ref (G.C.cl n)) "__init__" = some (some (.ref f)) ∧ PySem.W.typeIn G.C.K (.ref f) = some (.type "function")
  /-- its __init__ by name, where it has none of its own -/
  vin : ∀ n ∈ rs, G.T.mt n "#vini" = 1 → ∀ (pl : Sem Bool) (A : Around) (s : Shared) (Q : Value × List Value → Shared → Prop) (E' : Value → Shared → Prop), G.C.K.In s.heap → Q (.builtin "ValueError.__init__", []) { s with toks := s.toks + 1 } → wpAny (model G.P G.w) A (getMethod (.ref (G.C.cl n)) "__init__" pl) Q E' s
  exm : ∀ m ∈ G.cs, ∀ n ∈ G.cs, PySem.W.exmOne G.C.K (.ref (G.C.cl m)) (.ref (G.C.cl n)) = some (G.T.sub m n)
  kit : ∀ m ∈ G.cs, ∀ n ∈ G.cs, PySem.W.kitOne G.C.K (.ref (G.C.cl m)) (.ref (G.C.cl n)) = some (G.T.sub m n)
  exc : ∀ m ∈ G.cs, ExcC G.C.K (G.C.cl m)
  ve : ∀ m ∈ G.cs, PySem.W.kitOne G.C.K (.ref (G.C.cl m)) (.type "ValueError") = some true
structure GoodS (G : Gx) (c : Cn) (k : Nat) (sc : Scope) (Wx : WX) (X : Cx) : Prop where
  g : Good G c k sc Wx X
  fn : ∀ x, X.fn x = true
  st : X.stack = X.env :: X.outer
  fr : X.env.frame = some X.env.locals
  cls : ClsF G k c.rs
structure SndS (s : S) : Prop where
  one : ∀ {G c k sc Wx X st}, GoodS G c k sc Wx X → ck1 G c sc s st = true → PS X st (rs G.T G.cs s G.C Wx)
  all : ∀ {G c k sc Wx X sts}, GoodS G c k sc Wx X → ckS G c sc s sts = true → PSs X sts (rs G.T G.cs s G.C Wx)
section
variable {G : Gx} {c : Cn} {k : Nat} {sc : Scope} {Wx : WX} {X : Cx}
theorem GoodS.loc (g : GoodS G c k sc Wx X) {x : Str} (h : locB sc x = true) : L2.Loc X.env.scope x := by
  rw [g.g.hsc]; exact locB_ok h
theorem GoodS.ni (g : GoodS G c k sc Wx X) {i : Nat} {x : Str} (h : c.N[i]? = some x) : X.N[i]? = some x := by
  rw [g.g.hN]; exact h
theorem GoodS.nd (g : GoodS G c k sc Wx X) : X.N.Nodup := by
  rw [g.g.hN]; exact g.g.nd
theorem sndS_one {s : S} (h1 : ∀ {G c k sc Wx X st}, GoodS G c k sc Wx X → ck1 G c sc s st = true → PS X st (rs G.T G.cs s G.C Wx)) (h2 : ∀ G c sc sts, ckS G c sc s sts = false) : SndS s :=
  ⟨h1, fun {G c k sc Wx X sts} _ h => by rw [h2] at h; cases h⟩
theorem swF {e : E} {v : Expr} {t : Option Expr} {l : Nat} {env : PySem.Env} (h : ckE G c sc e v = true) (hl : isLC v = false) : swapsWith v t l env = pure false := by
  cases v <;> first | rfl | (cases hl; done) | (cases e <;> simp [ckE] at h)
theorem swT {v : Expr} {t : Expr} {env : PySem.Env} (hl : isTupE v = false) : swappedStores [t] v env = pure none := by
  cases v <;> first | (cases hl; done) | (cases t <;> rfl)
theorem subA {e : E} {y : Expr} {o : Expr} {sp : Pos} {env : PySem.Env} (h : ckE G c sc e y = true) : ∀ v : Value, assign (.Subscript o y sp) env v = (do
      let ov ← holding [v] (eval o env)
      let iv ← holding [v, ov] (eval y env)
      standAt sp
      holding [v, ov, iv] (setItem ov iv v)
      release [v, ov, iv] []) := fun v => by
  cases y <;> first | rfl | (cases e <;> simp [ckE] at h)
end
theorem sndS_asg (i : Nat) (e : E) : SndS (.asg i e) := by
  refine sndS_one (fun {G c k sc Wx X st} g h => ?_) (fun G c sc sts => by cases sts <;> rfl)
  cases st <;> first | (simp [ck1] at h; done) | skip
  rename_i tgs v pos
  match tgs, h with
  | [.Name x p], h =>
    simp only [ck1, Bool.and_eq_true, decide_eq_true_eq] at h
    obtain ⟨⟨⟨h1, h2⟩, h3⟩, h4⟩ := h
    cases hl : isLC v with
    | false => exact ps_set (i := i) g.nd (g.ni h1) (g.loc h2) ((snd e).E g.g h4) (swF h4 hl) (.inl (g.fn x))
    | true =>
      cases v <;> first | (cases hl; done) | skip
      rename_i elt gens scope lpos
      simp only [lcB] at h3
      cases hx : sc.names.lookup x with
      | none => rw [hx] at h3; cases h3
      | some kd =>
        rw [hx] at h3
        cases kd <;> first | (cases h3; done) | skip
        · simp only [Bool.and_eq_true, Bool.not_eq_true'] at h3
          obtain ⟨h5, h6⟩ := h3
          have hxl : X.env.scope.names.lookup x = some .local := by rw [g.g.hsc]; exact hx
          cases e <;> first | (simp [ckE] at h4; done) | skip
          rename_i js it t e
          match gens, h4 with
          | [⟨tg, iter, ifs, 0⟩], h4 =>
            simp only [ckE, Bool.and_eq_true, Bool.not_eq_true', decide_eq_true_eq] at h4
            obtain ⟨⟨⟨⟨⟨⟨⟨hh, k1⟩, htp⟩, k2⟩, k3⟩, k4⟩, k5⟩, k6⟩ := h4
            simp only [ckC, Bool.and_eq_true, decide_eq_true_eq, List.all_eq_true] at k2
            obtain ⟨⟨hlen, hbk⟩, hloc⟩ := k2
            have bk := blkOk_by hbk
            refine ⟨fun pins s σ H Z I hq => ?_⟩
            have q := ps_setLc (i := i) (elt := elt) (ifs := ifs) (py := p) (spos := pos) (own := (tgNs tg).zip js) (g := gTg G.C.K js) (g.g.calm hh) g.nd (g.ni h1) hxl (sw_true I.ok.kind hxl h5 h6) ((snd it).I (tg := tg) g.g k1 (by simpa using htp)) (by rw [g.g.hN, g.g.hsc]; exact bk)
              (fun s H D cl fp => by
                have gb := g.g.blk hh s H scope D cl fp
                rw [← gb.hK]
                refine pg_tg (c := c) (gb.calm hh) gb.hN gb.nd gb.hsc (fun x hx => .inr ?_) k3
                rw [gb.hsc]
                exact hloc x hx)
              (fun s H D cl fp => (snd t).P (g.g.blk hh s H scope D cl fp) k4 k5) (fun s H D cl fp => (snd e).E (g.g.blk hh s H scope D cl fp) k6) (fold_ckI k1)
            rw [zip_snd hlen] at q
            exact q.run pins s σ H Z I hq
        · refine ps_set (i := i) g.nd (g.ni h1) (g.loc h2) ((snd e).E g.g h4) ?_ (.inl (g.fn x))
          have hxc : X.env.kindOf x = some .cell := by
            show X.env.scope.names.lookup x = _
            rw [g.g.hsc]; exact hx
          unfold swapsWith
          simp only [hxc]
          simp [show (NameKind.cell == NameKind.local) = false from by decide]
theorem sndS_asgT (is : List Nat) (e : E) : SndS (.asgT is e) := by
  refine sndS_one (fun {G c k sc Wx X st} g h => ?_) (fun G c sc sts => by cases sts <;> rfl)
  cases st <;> first | (simp [ck1] at h; done) | skip
  rename_i tgs v pos
  match tgs, h with
  | [.Tuple xs tk tp], h =>
    simp only [ck1, Bool.and_eq_true, Bool.not_eq_true'] at h
    obtain ⟨⟨⟨⟨hh, h1⟩, h2⟩, h3⟩, h4⟩ := h
    obtain ⟨l1, l2⟩ := names_len (env := X.env) h1
    have q := ps_asg (pos := pos) ((snd e).E g.g h4) (pg_tup (k := tk) (pos := tp) (g.g.calm hh) (pgs_names g.g.hN g.g.nd g.g.hsc (fun | .Name x _ => some x | _ => none) (fun _ _ => rfl) (fun x _ => .inl (g.fn x)) h1) l1 l2) (by unfold swapsWithSole; exact swF h4 h3) (swT h2) rfl
    rw [g.g.hK] at q
    exact q
theorem sndS_exp (e : E) : SndS (.exp e) := by
  refine sndS_one (fun {G c k sc Wx X st} g h => ?_) (fun G c sc sts => by cases sts <;> rfl)
  cases st <;> first | (simp [ck1] at h; done) | skip
  simp only [ck1, Bool.and_eq_true, Bool.not_eq_true'] at h
  exact ps_expr ((snd e).E g.g h.2) (swF h.2 h.1)
theorem sndS_ret (e : E) : SndS (.ret e) := by
  refine sndS_one (fun {G c k sc Wx X st} g h => ?_) (fun G c sc sts => by cases sts <;> rfl)
  cases st <;> first | (simp [ck1] at h; done) | skip
  rename_i o pos
  cases o <;> first | (simp [ck1] at h; done) | skip
  simp only [ck1] at h
  exact ps_ret ((snd e).E g.g h)
theorem sndS_retN : SndS .retN := by
  refine sndS_one (fun {G c k sc Wx X st} g h => ?_) (fun G c sc sts => by cases sts <;> rfl)
  cases st <;> first | (simp [ck1] at h; done) | skip
  rename_i o pos
  cases o <;> first | (simp [ck1] at h; done) | skip
  exact ps_retN
theorem sndS_brk : SndS .brk := by
  refine sndS_one (fun {G c k sc Wx X st} g h => ?_) (fun G c sc sts => by cases sts <;> rfl)
  cases st <;> first | (simp [ck1] at h; done) | skip
  exact ps_break
theorem sndS_cnt : SndS .cnt := by
  refine sndS_one (fun {G c k sc Wx X st} g h => ?_) (fun G c sc sts => by cases sts <;> rfl)
  cases st <;> first | (simp [ck1] at h; done) | skip
  exact ps_continue
theorem sndS_pas : SndS .pas := by
  refine sndS_one (fun {G c k sc Wx X st} g h => ?_) (fun G c sc sts => by cases sts <;> rfl)
  cases st <;> first | (simp [ck1] at h; done) | skip
  exact ps_pass
theorem sndS_nop : SndS .nop where
  one := fun {G c k sc Wx X st} g h => by cases st <;> simp [ck1] at h
  all := fun {G c k sc Wx X sts} g h => by
    cases sts <;> first | (simp [ckS] at h; done) | skip
    exact pss_nil
theorem sndS_stuck : SndS .stuck where
  one := fun {G c k sc Wx X st} g h => by cases st <;> simp [ck1] at h
  all := fun {G c k sc Wx X sts} g h => ⟨fun _ _ _ _ _ _ z => z.elim⟩
theorem sndS_seq {a b : S} (ha : SndS a) (hb : SndS b) : SndS (.seq a b) where
  one := fun {G c k sc Wx X st} g h => by cases st <;> simp [ck1] at h
  all := fun {G c k sc Wx X sts} g h => by
    cases sts <;> first | (simp [ckS] at h; done) | skip
    simp only [ckS, Bool.and_eq_true] at h
    exact pss_cons (ha.one g h.1) (hb.all g h.2)
theorem sndS_ife {t : E} {a b : S} (ha : SndS a) (hb : SndS b) : SndS (.ife t a b) := by
  refine sndS_one (fun {G c k sc Wx X st} g h => ?_) (fun G c sc sts => by cases sts <;> rfl)
  cases st <;> first | (simp [ck1] at h; done) | skip
  simp only [ck1, Bool.and_eq_true] at h
  exact ps_if ((snd t).T g.g h.1.1) (ha.all g h.1.2) (hb.all g h.2)
theorem sndS_aug (i : Nat) (o : Operator) (e : E) : SndS (.aug i o e) := by
  refine sndS_one (fun {G c k sc Wx X st} g h => ?_) (fun G c sc sts => by cases sts <;> rfl)
  cases st <;> first | (simp [ck1] at h; done) | skip
  rename_i tg o' v pos
  cases tg <;> first | (simp [ck1] at h; done) | skip
  simp only [ck1, Bool.and_eq_true, decide_eq_true_eq] at h
  obtain ⟨⟨⟨⟨h1, h2⟩, rfl⟩, h4⟩, h5⟩ := h
  cases o <;> first | (cases h4; done) | skip
  · exact ps_aug (i := i) g.nd (g.ni h1) (g.loc h2) ((snd e).E g.g h5) ip_add (.inl (g.fn _))
  · exact ps_aug (i := i) g.nd (g.ni h1) (g.loc h2) ((snd e).E g.g h5) ip_sub (.inl (g.fn _))
theorem sndS_whl {t : E} {b : S} (hb : SndS b) : SndS (.whl t b) := by
  refine sndS_one (fun {G c k sc Wx X st} g h => ?_) (fun G c sc sts => by cases sts <;> rfl)
  cases st <;> first | (simp [ck1] at h; done) | skip
  rename_i z xs els pos
  cases els <;> first | (simp [ck1] at h; done) | skip
  simp only [ck1, Bool.and_eq_true] at h
  exact ps_while g.g.po ((snd t).T g.g h.1) (hb.all g h.2)
theorem for_ps {G : Gx} {c : Cn} {k : Nat} {sc : Scope} {Wx : WX} {X : Cx} {js : List Nat} {it : E} {b : S} (hb : SndS b) {tg iter : Expr} {xs : List Stmt} {pos : Pos} (g : GoodS G c k sc Wx X)
    (h : (!c.hot && ckTg c sc js tg && (isTupE tg || freeIt it) && ckI G c sc it iter && ckS G c sc b xs) = true) : PS X (.For tg iter xs [] pos) (tFor (rd G.T G.C it Wx).I (gTg G.C.K js) (rs G.T G.cs b G.C Wx)) := by
  simp only [Bool.and_eq_true, Bool.not_eq_true'] at h
  obtain ⟨⟨⟨⟨hh, h1⟩, htp⟩, h2⟩, h3⟩ := h
  refine ps_for g.g.po (g.g.calm hh) ((snd it).I (tg := tg) g.g h2 (by simpa using htp)) ?_ (hb.all g h3) (fold_ckI h2)
  rw [← g.g.hK]
  exact pg_tg (c := c) (g.g.calm hh) g.g.hN g.g.nd g.g.hsc (fun x _ => .inl (g.fn x)) h1
theorem sndS_for {js : List Nat} {it : E} {b : S} (hb : SndS b) : SndS (.for js it b) := by
  refine sndS_one (fun {G c k sc Wx X st} g h => ?_) (fun G c sc sts => by cases sts <;> rfl)
  cases st <;> first | (simp [ck1] at h; done) | skip
  rename_i tg iter xs els pos
  cases els <;> first | (simp [ck1] at h; done) | skip
  simp only [ck1] at h
  exact for_ps hb g h
theorem sndS_forD {js : List Nat} {it : E} {b : S} (hb : SndS b) : SndS (.forD js it b) := by
  refine sndS_one (fun {G c k sc Wx X st} g h => ?_) (fun G c sc sts => by cases sts <;> rfl)
  cases st <;> first | (simp [ck1] at h; done) | skip
  rename_i tg iter xs els pos
  cases els <;> first | (simp [ck1] at h; done) | skip
  simp only [ck1] at h
  refine ⟨fun pins s σ H D I hw => ?_⟩
  rcases hw with hw | hw
  · exact (ps_lock (for_ps hb g h)).run pins s σ H D I hw
  · exact (for_ps hb g h).run pins s σ H D I hw
theorem sndS_forH {i : Nat} {e : E} {b : S} (hb : SndS b) : SndS (.forH i e b) := by
  refine sndS_one (fun {G c k sc Wx X st} g h => ?_) (fun G c sc sts => by cases sts <;> rfl)
  cases st <;> first | (simp [ck1] at h; done) | skip
  rename_i tg iter xs els pos
  cases els <;> first | (cases tg <;> simp [ck1] at h; done) | skip
  cases tg <;> first | (simp [ck1] at h; done) | skip
  rename_i x p
  simp only [ck1, Bool.and_eq_true, decide_eq_true_eq] at h
  obtain ⟨⟨⟨⟨hh, h1⟩, h2⟩, h3⟩, h4⟩ := h
  obtain ⟨m, a, dx, oe, hg⟩ := g.g.hotg hh
  exact L2H.ps_forH (g := gName i) g.g.po hg.hc (pi_strH ((snd e).E g.g h3)) (pg_name (i := i) g.nd (g.ni h1) (g.loc h2) (.inl (g.fn x))) (hb.all g h4) (fold_ckI (e := .iSt e) h3)
theorem sndS_setf (a : E) (f : Str) (e : E) : SndS (.setf a f e) := by
  refine sndS_one (fun {G c k sc Wx X st} g h => ?_) (fun G c sc sts => by cases sts <;> rfl)
  cases st <;> first | (simp [ck1] at h; done) | skip
  rename_i tgs v pos
  match tgs, h with
  | [.Attribute x m p], h =>
    simp only [ck1, Bool.and_eq_true, Bool.not_eq_true', decide_eq_true_eq] at h
    obtain ⟨⟨⟨h0, rfl⟩, h1⟩, h2⟩ := h
    have q := ps_fld (f := f) (pos := pos) (pos' := p) ((snd a).E g.g h1) ((snd e).E g.g h2) (swF h2 h0)
    rw [g.g.hK] at q
    exact q
theorem sndS_ost (a : E) (f : Str) (e : E) : SndS (.ost a f e) := by
  refine sndS_one (fun {G c k sc Wx X st} g h => ?_) (fun G c sc sts => by cases sts <;> rfl)
  cases st <;> first | (simp [ck1] at h; done) | skip
  rename_i tgs v pos
  match tgs, h with
  | [.Attribute x m p], h =>
    simp only [ck1, Bool.and_eq_true, Bool.not_eq_true', decide_eq_true_eq] at h
    obtain ⟨⟨⟨h0, rfl⟩, h1⟩, h2⟩ := h
    have q := ps_ost (f := f) (pos := pos) (p' := p) ((snd a).E g.g h1) ((snd e).E g.g h2) (swF h2 h0)
    rw [g.g.hK] at q
    exact q
theorem sndS_setk (d k e : E) : SndS (.setk d k e) := by
  refine sndS_one (fun {G c k' sc Wx X st} g h => ?_) (fun G c sc sts => by cases sts <;> rfl)
  cases st <;> first | (simp [ck1] at h; done) | skip
  rename_i tgs v pos
  match tgs, h with
  | [.Subscript x y p], h =>
    simp only [ck1, Bool.and_eq_true, Bool.not_eq_true'] at h
    obtain ⟨⟨⟨h0, h1⟩, h2⟩, h3⟩ := h
    exact ps_dput (Nat.lt_of_le_of_lt (Nat.add_le_add_left (show 1 ≤ 65 by decide) _) g.g.units) ((snd d).E g.g h1) ((snd k).E g.g h2) ((snd e).E g.g h3) (swF h3 h0)
theorem sndS_setl (l i e : E) : SndS (.setl l i e) := by
  refine sndS_one (fun {G c k' sc Wx X st} g h => ?_) (fun G c sc sts => by cases sts <;> rfl)
  cases st <;> first | (simp [ck1] at h; done) | skip
  rename_i tgs v pos
  match tgs, h with
  | [.Subscript x y p], h =>
    simp only [ck1, Bool.and_eq_true, Bool.not_eq_true'] at h
    obtain ⟨⟨⟨h0, h1⟩, h2⟩, h3⟩ := h
    exact ps_asg ((snd e).E g.g h3) (pg_sub ((snd l).E g.g h1) ((snd i).E g.g h2) set_list (subA h2)) (by unfold swapsWithSole; exact swF h3 h0) (by cases v <;> rfl) rfl
end Q
/-! Q8: exceptions. -/
namespace Q
open PySem L2 PySem.Spec
/-! an own error with its own __init__ is made -/
section
variable {X : Cx} {e : Expr} {es : List Expr} {ta : TA} {p pos : Pos}
theorem mk_endN {pins : List (Addr × Obj)} {σ : L2.St} {H1 H2 : Hp} {Q : XK} {hp hp2 h2 : Heap} {g1 g2 : Array GenState} {d1 d2 : Drawn} {t1 t2 : Nat} {os1 os2 : OsState} {a C d : Addr} {fs : List (Str × V)} (T : Raises X (.ref C)) (I1 : Inv X pins σ H1 ⟨hp, g1, d1, t1, os1⟩)
    (ha : hp.objs.size ≤ a) (k : ∀ b o, hp.get? b = some o → hp2.get? b = some o) (un : Un (frs X.stack) [] (upd H1 a (exo a C none)) H2 hp2 h2) (hok : HOk X.prog X.w H2 h2) (ho : os2 = os1) (hb : PyProof.Rows.AllBare g2)
    (ea : H2 a = some (exo a C (some d))) (ed : H2 d = some (exd d fs)) (hd1 : H1 d = none) (q : Q (.ref C) (some d) (upd (del H2 a) d (.xd fs))) : L2N.MkP X pins σ Q (.ref a) ⟨h2, g2, d2, t2, os2⟩ := by
  obtain ⟨t0, G, J, kG, ge, hoe, na⟩ := mk_end0 (d2 := d2) (t2 := t2) I1 ha k un hok ho hb ea ed hd1
  exact ⟨a, _, _, ⟨G, g2, d2, t2, os2⟩, _, .ref C, some d, rfl, J, kG, ge, hoe, ⟨rfl, rfl, fun vs hv => by cases hv; rfl⟩, rfl, rfl, na, rfl, hb, T, q⟩
theorem pmk_oexN {CX : CXT} {x : Str} {C fI : Addr} {k : Nat} {fd : FuncData} {ps : List Str} {sp : Sp} {ds : List Value} {dvs : List V} (T : OexC X.K C) (iC : PySem.W.findIn X.K (.ref C) "__init__" = some (some (.ref fI))) (tI : PySem.W.typeIn X.K (.ref fI) = some (.type "function"))
    (F1 : FnOk X.prog X.w X.K X.mg X.base CX k fI fd ps sp) (hr : Room (k + 1) X.A) (hb : Binds X.K fd ps ds) (hd : Vals dvs ds) (hx : Passes CX X (fun _ _ _ => False)) (hg : Gl X x) (hm : X.mg x = some (.ref C)) (ha : PA X (e :: es) ta)
    (hdb : (x == ("__debug__" : Str)) = false) (he : noSt (e :: es) = true) :
    L2N.PMk X (.Call (.Name x p) (e :: es) [] pos) (tMkO C sp dvs ta) := by
  intro pins s σ H Q I h
  have hn1 := he
  simp only [noSt, List.all_cons, Bool.and_eq_true] at hn1
  obtain ⟨nm, q, N, bs, bm, sn, sub, ab, col, dd, k0, k1, k2, k3, k5, hC, hbm⟩ := T.cls
  refine wpAny_Call_Name_kw (ld_glob I hg hm ?_ hdb)
  refine PySem.W.callWith_K (h₀ := X.base) I.ok.mod.kin T.kC (thn (ha.run pos pins s σ H _ I h) fun us s1 ⟨vs, H1, I1, r1, hz, q1⟩ => ⟨I1.kIn, ?_⟩) (starC hn1.1) (star_all hn1.2)
  show wpAny _ _ (call (.ref C) us) _ _ _
  obtain ⟨hp, g, dr, tk, os⟩ := s1
  have hsz : hp.objs.size ≤ hp.objs.size + 1 := Nat.le_succ _
  have hn : H1 (hp.objs.size + 1) = none := I1.hok.fresh hsz
  have hq := q1 (hp.objs.size + 1) hn
  have kk : ∀ b o, hp.get? b = some o → ((hp.push (PySem.W.kdv_tup us)).push (PySem.HandSPX.excO C hp.objs.size)).get? b = some o := fun b o e => Heap.get?_push_of_some _ (Heap.get?_push_of_some _ e)
  have hget : ((hp.push (PySem.W.kdv_tup us)).push (PySem.HandSPX.excO C hp.objs.size)).get? (hp.objs.size + 1) = some (PySem.HandSPX.excO C hp.objs.size) := by heap_get
  have I2 : Inv X pins σ (upd H1 (hp.objs.size + 1) (exo (hp.objs.size + 1) C none)) ⟨(hp.push (PySem.W.kdv_tup us)).push (PySem.HandSPX.excO C hp.objs.size), g, dr, tk, os⟩ :=
    I1.laid (t' := tk) (a := hp.objs.size + 1) (o := exo (hp.objs.size + 1) C none) (h' := (hp.push (PySem.W.kdv_tup us)).push (PySem.HandSPX.excO C hp.objs.size)) kk hsz (exo_ok hget)
  have r2 : Vals (V.ref (hp.objs.size + 1) :: (vs ++ dvs)) (Value.ref (hp.objs.size + 1) :: (us ++ ds)) := .cons rfl (r1.append hd)
  have hl : (Value.ref (hp.objs.size + 1) :: us ++ ds).length = ps.length := by
    have e := r2.length
    rw [F1.len _ _ _ _ hq] at e
    exact e.symm
  have hus : us.length ≤ sizeLine := by
    rw [← Paired.length r1, sizeLine_eq]
    omega
  refine wpAny_call (PySem.HandSPX.call_own PySem.F.excBase_ValueError (fun Y => PySem.HandSPX.refsVE_contains Y bm hbm) (I1.kIn _ _ hC) (PySem.W.looks_findIn I1.kIn iC) (fun self => PySem.W.bind_fn I1.kIn self tI) hus
    (codeAny_mono (F1.run _ X.stack _ _ ⟨Value.ref (hp.objs.size + 1) :: us, []⟩ (Value.ref (hp.objs.size + 1) :: (us ++ ds)) _ _ (fun _ _ _ => False) (hr.make C us []) (I2.env0.make C us []) (hb _ (Value.ref (hp.objs.size + 1) :: us) I2.kIn hl) r2 hq) fun r s' hq' => ?_))
  cases r with
  | error er => exact hx pins σ _ _ er s' I2 hq'
  | ok fl =>
    cases fl with
    | ret u =>
      obtain ⟨v, H2, os2, bare2, un2, hok2, rv, ev, d, fs, ea, ed, hd1, q2⟩ := hq'
      subst ev
      obtain ⟨h2, g2, d2, t2, os'⟩ := s'
      exact ⟨rv, mk_endN (raises_own T.exC T.tyC) I1 hsz kk un2 hok2 os2 bare2 ea ed hd1 q2⟩
    | next => exact False.elim hq'
    | brk => exact False.elim hq'
    | cont => exact False.elim hq'
/-! C.__init__(self, ..) of an error's class: the built-in one -/
theorem pe_vein {x m : Str} {C0 : Addr} {pl : Sem Bool} {p1 p2 : Pos} (hg : Gl X x) (hm : X.mg x = some (.ref C0)) (hdb : (x == ("__debug__" : Str)) = false)
    (hf : ∀ (s : Shared) (Q : Value × List Value → Shared → Prop) (E' : Value → Shared → Prop), X.K.In s.heap → Q (.builtin "ValueError.__init__", []) { s with toks := s.toks + 1 } → wpAny (model X.prog X.w) X.A (getMethod (.ref C0) m pl) Q E' s)
    (ha : PA X (e :: es) ta) (he : noSt (e :: es) = true)
    (hc : eval (.Call (.Attribute (.Name x p1) m p2) (e :: es) [] pos) X.env = (do
      let ov ← eval (.Name x p1) X.env
      standAt p2.atName
      let (f, first) ← holding [ov] (getMethod ov m pl)
      callWith pos f first (backTo pos (starEach (e :: es) X.env)) (backToKw pos (keywordEach [] X.env)))) :
    PE X (.Call (.Attribute (.Name x p1) m p2) (e :: es) [] pos) (tVeI X.K ta) := by
  refine ⟨fun pins s σ H Q I h => ?_⟩
  have hn1 := he
  simp only [noSt, List.all_cons, Bool.and_eq_true] at hn1
  refine PySem.W.methodCall_KW (pl := pl) (ld_glob I hg hm ?_ hdb) hc
  refine hf s _ _ I.kIn ?_
  show wpAny _ _ (callWith pos (Value.builtin "ValueError.__init__") [] (backTo pos (starEach (e :: es) X.env)) []) _ _ _
  refine PyProof.Rows.callWith_method1 (thn (ha.run pos pins _ σ H _ (I.tok _) h) fun us s1 ⟨vs, H1, I1, r1, a, C, ws, ev, hl, T, ea, q⟩ => ?_) (starC hn1.1) (star_all hn1.2)
  subst ev
  cases r1 with
  | @cons _ u0 _ ur ra rw' =>
    obtain rfl : u0 = Value.ref a := ra
    have hlen : ur.length ≤ sizeLine := by
      rw [← Paired.length rw', sizeLine_eq]
      omega
    exact oinit_ok T I1 ea hlen fun s' J => ⟨.non, H1, J, rfl, q⟩
end
/-! isinstance of the exception at hand, its fields -/
theorem boot_VE : bootBuiltins "ValueError" = some (.type "ValueError") := by decide +kernel
def rIsEH (K : Frag) (D a : Addr) (dx : Option Addr) : List V → Hp → VK → Prop := fun xs H Q => ∃ (cs : V) (b : Bool), xs = [.ref a, cs] ∧
  ((∃ cv, (∀ u, RelV cs u → u = cv) ∧ PySem.W.kitOne K (.ref D) cv = some b) ∨ (∃ tp vs us, cs = .ref tp ∧ H tp = some (.tup vs) ∧ Paired ClsV vs us ∧ PySem.W.kitAny K (.ref D) us = some b)) ∧ (∀ d, dx = some d → ∃ fs, H d = some (.xd fs)) ∧ Q (.bl b) H
theorem instX {X : Cx} {a D : Addr} {dx : Option Addr} {oe : Obj} {pins : List (Addr × Obj)} {σ : L2.St} {H : Hp} {s : Shared} (I : Inv X pins σ H s) (hz : L2N.Zn (.ref D) dx oe) (hf : ∃ vs, oe.data = .fields vs) (g : s.heap.get? a = some oe) (hd : ∀ d, dx = some d → ∃ fs, H d = some (.xd fs)) :
    ∃ od, PySem.W.InstAt s.heap a oe D od ∧ ∀ d fs, dx = some d → H d = some (.xd fs) → ∃ (o : Obj) (m : Str → Option Value), od = some o ∧ (∀ f, PySem.W.lookIn f o = some (m f)) ∧ ∀ f, RelO (fs.lookup f) (m f) := by
  obtain ⟨vs, hv⟩ := hf
  obtain ⟨k1, k2, k3⟩ := hz
  cases dx with
  | none =>
    refine ⟨none, ⟨g, k1, by unfold PySem.W.notCls; rw [hv] <;> rfl, by rw [k2]; exact trivial⟩, fun d fs e => by cases e⟩
  | some d =>
    obtain ⟨fs, ea⟩ := hd d rfl
    have hx : ObjOk X.prog X.w H s.heap d (.xd fs) := I.hok d _ ea
    obtain ⟨mA, hns, hr⟩ := hx
    obtain ⟨od, ho, hl⟩ := lookIn_ns hns
    refine ⟨some od, ⟨g, k1, by unfold PySem.W.notCls; rw [hv] <;> rfl, by rw [k2]; exact ho⟩, fun d' fs' e1 e2 => ?_⟩
    cases e1
    rw [ea] at e2
    cases e2
    exact ⟨od, mA, rfl, hl, hr⟩
theorem call_isEH {X : Cx} {a D : Addr} {dx : Option Addr} {oe : Obj} (C : ExcC X.K D) (hz : L2N.Zn (.ref D) dx oe) (hf : ∃ vs, oe.data = .fields vs) (at_ : ∀ {pins σ H s}, Inv X pins σ H s → s.heap.get? a = some oe) : CallR X (.builtin "isinstance") (rIsEH X.K D a dx) := by
  intro pins s σ H xs us Q I r h
  obtain ⟨cs, b, rfl, hcs, hdx, q⟩ := h
  obtain ⟨u1, u2, rfl, r1, r2⟩ := vals2 r
  cases r1
  obtain ⟨od, J, _⟩ := instX I hz hf (at_ I) hdx
  have hcl : (PySem.W.clsIn X.K D).isSome = true := by
    obtain ⟨cd, hc, _⟩ := PySem.W.any_some C.hd
    rw [hc]
    rfl
  have Z := PySem.W.kitx_exc (x := a) (ox := oe) (od := od) hcl C.hg C.hk C.hs C.ha C.hn C.ht C.hm
  rcases hcs with ⟨cv, hcv, e⟩ | ⟨tp, vs, ws, rfl, hT, pc, e⟩
  · have ec := hcv _ r2
    subst ec
    exact PySem.W.kia_one Z I.kIn J e (fun z => nomatch z) fun tk => ⟨.bl b, H, I.tok tk, rfl, q⟩
  · cases (show u2 = Value.ref tp from r2)
    obtain ⟨_, its, rv, o, h1, h2, n, h3⟩ := (show ObjOk X.prog X.w H s.heap tp (.tup vs) from I.hok tp _ hT)
    have e3 := ClsV.all pc rv
    subst e3
    obtain ⟨oc, od, dt, sl⟩ := o
    simp only at h2 h3
    subst h2 h3
    exact PySem.W.kia_tup Z I.kIn J h1 e (fun z => nomatch z) fun tk => ⟨.bl b, H, I.tok tk, rfl, q⟩
theorem pe_exf {X : Cx} {a D : Addr} {dx : Option Addr} {oe : Obj} {e : Expr} {te : TE} {pos : Pos} {n : Str} (C : ExcC X.K D) (hz : L2N.Zn (.ref D) dx oe) (hf : ∃ vs, oe.data = .fields vs) (at_ : ∀ {pins σ H s}, Inv X pins σ H s → s.heap.get? a = some oe)
    (he : PE X e te) (hb : attributeBase e n X.env (eval e X.env) = eval e X.env) :
    PE X (.Attribute e n pos) (fun σ H Q => te σ H fun x H1 => x = .ref a ∧ ∃ d fs v, dx = some d ∧ H1 d = some (.xd fs) ∧ fs.lookup n = some v ∧ PySem.W.findIn X.K (.ref D) n = some none ∧ Q v H1) := by
  refine ⟨fun pins s σ H Q I h => ?_⟩
  refine attr_of hb (thn (he.run pins s σ H _ I h) fun u s1 hh => ?_)
  obtain ⟨x, H1, I1, rx, ex, d, fs, v, ed, ea, l, hno, q⟩ := hh
  subst ex
  obtain rfl : u = Value.ref a := rx
  obtain ⟨od, J, hl⟩ := instX I1 hz hf (at_ I1) (fun d' e => ⟨fs, by rw [ed] at e; cases e; exact ea⟩)
  obtain ⟨o, m, rfl, hl2, hr⟩ := hl d fs ed ea
  obtain ⟨u, hu, ru⟩ := RelO.some_of (v := v) (o := m n) (by rw [← l]; exact hr n)
  exact HandSPX.exc_get I1.kIn J C.hg C.hk C.hs (PySem.W.findObj_own C.hd hno rfl (by rw [hl2, hu])) (handed_of ru) ⟨v, H1, I1.tok _, ru, q⟩
theorem kitAny_any {K : PySem.W.Frag} {t : Value} {cl : Nat → Addr} {f : Nat → Bool} : ∀ (ns : List Nat), (∀ n ∈ ns, PySem.W.kitOne K t (.ref (cl n)) = some (f n)) → PySem.W.kitAny K t (ns.map fun n => .ref (cl n)) = some (ns.any f)
  | [], _ => kitAny_nil
  | n :: ns, h => by
    refine kitAny_cons (b := f n) (h n List.mem_cons_self) (fun z => ?_) (fun z => by rw [List.any_cons, z]; rfl)
    rw [List.any_cons, z, Bool.false_or]
    exact kitAny_any ns fun m hm => h m (List.mem_cons_of_mem _ hm)
theorem pairs_cl {cl : Nat → Addr} : ∀ ns : List Nat, Paired ClsV (ns.map fun n => V.ref (cl n)) (ns.map fun n => Value.ref (cl n))
  | [] => .nil
  | n :: ns => .cons (.own _) (pairs_cl ns)
theorem PE.imp {X : Cx} {e : Expr} {t t' : TE} (h : PE X e t) (i : ∀ σ H Q, t' σ H Q → t σ H Q) : PE X e t' := ⟨fun pins s σ H Q I q => h.run pins s σ H Q I (i σ H Q q)⟩
theorem PS.imp {X : Cx} {st : Stmt} {t t' : TS} (h : PS X st t) (i : ∀ Z σ H, t' Z σ H → t Z σ H) : PS X st t' := ⟨fun pins s σ H Z I q => h.run pins s σ H Z I (i Z σ H q)⟩
section
variable {G : Gx} {c : Cn} {sc : Scope} {Wx : WX} {X : Cx} {k m : Nat} {a : Addr} {dx : Option Addr} {oe : Obj} {rs : List Nat}
theorem pa_cs (hsc : X.env.scope = sc) (hmg : X.mg = G.mg) (cl : ClsF G k rs) : ∀ (ns : List Nat) (ys : List Expr), ckCs G.toGt sc ns ys = true → (∀ n ∈ ns, n ∈ G.cs) ∧ PA X ys (fun _ H Q => Q (ns.map fun n => V.ref (G.C.cl n)) H)
  | [], [], _ => ⟨fun _ z => (List.not_mem_nil z).elim, pa_nil⟩
  | n :: ns, .Name y py :: ys, h => by
    simp only [ckCs, Bool.and_eq_true, decide_eq_true_eq] at h
    obtain ⟨⟨⟨h1, rfl⟩, h3⟩, h4⟩ := h
    obtain ⟨i1, i2⟩ := pa_cs hsc hmg cl ns ys h4
    refine ⟨fun z hz => (List.mem_cons.mp hz).elim (fun q => by rw [q]; exact h1) (i1 z), ?_⟩
    exact ⟨fun p pins s σ H Q I q => (pa_cons (pe_glob (v := .ref (G.C.cl n)) (by show X.env.scope.names.lookup _ = _; rw [hsc]; exact (glB_ok h3).1) (by rw [hmg]; exact cl.mg n h1) rfl (glB_ok h3).2.1) i2).run p pins s σ H Q I q⟩
/-- isinstance of the exception at hand, its fields -/
theorem hot_isx (hg : HotG G k X m a dx oe) (cl : ClsF G k rs) (hK : X.K = G.C.K) (hmg : X.mg = G.mg) (hN : X.N = c.N) (hsc : X.env.scope = sc) (blt : ∀ x ∈ bltNames, G.mg x = none) {e : E} {x : Expr} (he : isxE e = true) (h : ckE G.toGt c sc e x = true) : PE X x (rd G.T G.C e Wx).E := by
  obtain ⟨hm, hz, hf⟩ := hg.ob
  have gl : ∀ {y : Str}, glB sc y = true → Gl X y := fun {y} z => by
    show X.env.scope.names.lookup y = _
    rw [hsc]
    exact (glB_ok z).1
  have mgN : ∀ {y : Str}, y ∈ bltNames → X.mg y = none := fun {y} z => by rw [hmg]; exact blt y z
  have pv : ∀ {i : Nat} {x : Str} {pos : Pos}, vName c sc i x = true → PE X (.Name x pos) (tVar i) := fun {i x pos} h => by
    simp only [vName, Bool.and_eq_true, decide_eq_true_eq] at h
    obtain ⟨⟨h1, h2⟩, h3⟩ := h
    obtain ⟨h4, h5⟩ := nmB_ok h3
    exact pe_var (i := i) (by rw [hN]; exact h1) (by rw [hsc]; exact visB_ok h2) h4 h5
  have ec : ExcC X.K (G.C.cl m) := by rw [hK]; exact cl.exc m hm
  have ci := call_isEH (X := X) (a := a) (D := G.C.cl m) (oe := oe) ec hz hf (fun I => (hg.at_ I).1)
  cases e <;> first | (cases he; done) | skip
  · rename_i i n
    cases x <;> first | (simp [ckE] at h; done) | skip
    rename_i fn xs kws pos
    match fn, xs, kws, h with
    | .Name nm p0, [.Name x p1, .Name y p2], [], h =>
      simp only [ckE, Bool.and_eq_true, decide_eq_true_eq] at h
      obtain ⟨⟨⟨⟨⟨⟨_, h1⟩, rfl⟩, rfl⟩, h5⟩, h6⟩, h7⟩ := h
      refine PE.imp (pe_callB ci (gl h5) (mgN (by simp [bltNames])) PyProof.Rows.boot_isinstance (pa_cons (pv h7) (pa_cons (pe_glob (v := .ref (G.C.cl n)) (gl h6) (by rw [hmg]; exact cl.mg n h1) rfl (glB_ok h6).2.1) pa_nil))) ?_
      rintro σ H Q ⟨m', a', dx', e1, e2, _, e4, e5⟩
      have e6 := hg.ex.symm.trans e1
      cases e6
      refine ⟨_, e2, .ref (G.C.cl n), _, rfl, .inl ⟨Value.ref (G.C.cl n), fun u r => by cases r; rfl, by rw [hK]; exact cl.kit m hm n h1⟩, e4, ?_⟩
      have q := e5 H (fun _ _ z => z)
      rw [show ([n].any (G.T.sub m)) = G.T.sub m n by simp] at q
      exact q
  · rename_i i ns
    cases x <;> first | (simp [ckE] at h; done) | skip
    rename_i fn xs kws pos
    match fn, xs, kws, h with
    | .Name nm p0, [.Name x p1, .Tuple ys tc p2], [], h =>
      simp only [ckE, Bool.and_eq_true, decide_eq_true_eq] at h
      obtain ⟨⟨⟨⟨_, rfl⟩, h4⟩, h5⟩, h7⟩ := h
      obtain ⟨hn, hy⟩ := pa_cs (X := X) hsc hmg cl ns ys h4
      refine PE.imp (pe_callB ci (gl h5) (mgN (by simp [bltNames])) PyProof.Rows.boot_isinstance (pa_cons (pv h7) (pa_cons (pe_tup hy) pa_nil))) ?_
      rintro σ H Q ⟨m', a', dx', e1, e2, e3, e4, e5⟩
      have e6 := hg.ex.symm.trans e1
      cases e6
      refine ⟨_, e2, by rw [List.length_map]; exact e3, fun p hp => ⟨.ref p, _, rfl, .inr ⟨p, _, _, rfl, upd_same, pairs_cl ns, kitAny_any (f := G.T.sub m) ns fun n hn' => by rw [hK]; exact cl.kit m hm n (hn n hn')⟩, fun d ed => ?_, e5 _ fun b o z => ?_⟩⟩
      · obtain ⟨fs, z⟩ := e4 d ed
        exact ⟨fs, by rw [upd_ne (ne_of_none z hp)]; exact z⟩
      · rw [upd_ne (ne_of_none z hp)]
        exact z
  · rename_i i
    cases x <;> first | (simp [ckE] at h; done) | skip
    rename_i fn xs kws pos
    match fn, xs, kws, h with
    | .Name nm p0, [.Name x p1, .Name y p2], [], h =>
      simp only [ckE, Bool.and_eq_true, decide_eq_true_eq] at h
      obtain ⟨⟨⟨⟨⟨_, rfl⟩, rfl⟩, h5⟩, h6⟩, h7⟩ := h
      refine PE.imp (pe_callB ci (gl h5) (mgN (by simp [bltNames])) PyProof.Rows.boot_isinstance (pa_cons (pv h7) (pa_cons (pe_bltn (v := .ty "ValueError") (gl h6) (mgN (by simp [bltNames])) boot_VE rfl (by decide) (by decide)) pa_nil))) ?_
      rintro σ H Q ⟨m', a', dx', e1, e2, e4, e5⟩
      have e6 := hg.ex.symm.trans e1
      cases e6
      exact ⟨_, e2, .ty "ValueError", _, rfl, .inl ⟨Value.type "ValueError", fun u r => by cases r; rfl, by rw [hK]; exact cl.ve m hm⟩, e4, e5⟩
  · rename_i i f
    cases x <;> first | (simp [ckE] at h; done) | skip
    rename_i o nm pos
    cases o <;> first | (simp [ckE] at h; done) | skip
    simp only [ckE, Bool.and_eq_true, decide_eq_true_eq] at h
    obtain ⟨⟨_, rfl⟩, h7⟩ := h
    refine PE.imp (pe_exf ec hz hf (fun I => (hg.at_ I).1) (pv h7) rfl) ?_
    rintro σ H Q ⟨m', a', d, fs, v, e1, e2, e3, e4, e5, q⟩
    have e6 := hg.ex.symm.trans e1
    cases e6
    exact ⟨_, e2, rfl, d, fs, v, rfl, e3, e4, by rw [hK]; exact e5, q⟩
end
/-- the world of an except suite -/
def Gx.hotX (G : Gx) (m : Nat) (a : Addr) (dx : Option Addr) : Gx := { G with C := { G.C with ex := some (m, a, dx) } }
theorem ClsF.hot {G : Gx} {k : Nat} {rs : List Nat} (h : ClsF G k rs) (m : Nat) (a : Addr) (dx : Option Addr) : ClsF (G.hotX m a dx) k [] where
  mg := h.mg
  sub := fun _ z => nomatch z
  kp := fun _ z => nomatch z
  bs := fun _ z => nomatch z
  ty := fun _ z => nomatch z
  exI := fun _ z => nomatch z
  exO := fun _ z => nomatch z
  vin := fun _ z => nomatch z
  exm := h.exm
  kit := h.kit
  exc := h.exc
  ve := h.ve
theorem suite_good {G : Gx} {c : Cn} {sc : Scope} {Wx : WX} {X : Cx} {k : Nat} {m : Nat} {a : Addr} {dx : Option Addr} {oe : Obj} {pn : List (Addr × Obj)} (g : GoodS G c k sc Wx X) (hh : c.hot = false) (hm : m ∈ G.cs) (hz : L2N.Zn (.ref (G.C.cl m)) dx oe) (hf : ∃ vs, oe.data = .fields vs) :
    GoodS (G.hotX m a dx) c.inS k sc noX (X.suite a ((a, oe) :: pn)) :=
  let hg : HotG (G.hotX m a dx) k (X.suite a ((a, oe) :: pn)) m a dx oe :=
    { ex := rfl
      ob := ⟨hm, hz, hf⟩
      at_ := fun I => by
        have P1 := I.pin (a, oe) (List.mem_append_left _ List.mem_cons_self)
        exact ⟨P1.1, P1.2.1, fun z => (List.mem_cons.mp (I.stkSub _ z)).elim P1.2.2.1 P1.2.2.2.1⟩
      hc := by
        obtain ⟨vs, hv⟩ := hf
        exact ⟨(a, oe), ⟨rfl, vs, hv, hz.2.2 vs hv⟩, List.mem_cons_self⟩
      room := ⟨(g.g.room hh).dp, (g.g.room hh).un⟩ }
  {
  g := { hP := g.g.hP, hw := g.g.hw, hK := g.g.hK, hmg := g.g.hmg, hb := g.g.hb, hN := g.g.hN, nd := g.g.nd, hsc := g.g.hsc
         calm := fun z => by cases z
         room := fun z => by cases z
         units := g.g.units
         tk := fun u s' ⟨_, _, _, _, _, _, _, _, _, _, _, _, _, _, _, _, z⟩ => z
         po := PassesOwn.never
         blt := g.g.blt
         glo := g.g.glo
         fns := fun i z => (List.not_mem_nil z).elim
         fnh := fun i hi => by
           obtain ⟨f, h, e⟩ := g.g.fnh i hi
           exact ⟨f, ⟨h.ex⟩, e⟩
         mts := fun i z => (List.not_mem_nil z).elim
         mks := fun i z => (List.not_mem_nil z).elim
         bis := fun i z => (List.not_mem_nil z).elim
         hotg := fun _ => ⟨m, a, dx, oe, hg⟩
         isx := fun _ e x he hx => hot_isx (c := c.inS) hg (g.cls.hot m a dx) g.g.hK g.g.hmg g.g.hN g.g.hsc g.g.blt he hx }
  fn := g.fn
  st := g.st
  fr := g.fr
  cls := g.cls.hot m a dx }
theorem GoodS.tr {G : Gx} {c : Cn} {sc : Scope} {Wx : WX} {X : Cx} {k : Nat} (g : GoodS G c k sc Wx X) (hh : c.hot = false) {W : WX} {pn : List (Addr × Obj)} {xe : Value → Shared → Prop} (tk : L2N.Takes (X.tr pn xe) W) (po : PassesOwn (model X.prog X.w) X.A X.env xe) : GoodS G c k sc W (X.tr pn xe) where
  g := { hP := g.g.hP, hw := g.g.hw, hK := g.g.hK, hmg := g.g.hmg, hb := g.g.hb, hN := g.g.hN, nd := g.g.nd, hsc := g.g.hsc, calm := g.g.calm, room := g.g.room, units := g.g.units, tk := tk, po := po, blt := g.g.blt, glo := g.g.glo, fns := g.g.fns, fnh := g.g.fnh, mts := g.g.mts, mks := g.g.mks, bis := g.g.bis, hotg := fun z => (by rw [hh] at z; cases z), isx := fun z => by rw [hh] at z; cases z }
  fn := g.fn
  st := g.st
  fr := g.fr
  cls := g.cls
theorem passN {X : Cx} : Passes (L2N.CX X.prog X.w) X (fun _ _ _ => False) := L2N.passes_call (W := fun _ _ _ _ => False) (fun u s' ⟨_, _, _, _, _, _, _, _, _, _, _, _, _, _, _, _, z⟩ => z.elim) (fun _ _ _ _ h => h)
theorem sndS_rse0 (n : Nat) : SndS (.rse0 n) := by
  refine sndS_one (fun {G c k sc Wx X st} g h => ?_) (fun G c sc sts => by cases sts <;> rfl)
  cases st <;> first | (simp [ck1] at h; done) | skip
  rename_i e cs pos
  match e, cs, h with
  | some (.Call (.Name x p) [.Constant (.str m) j p2] [] p3), none, h =>
    simp only [ck1, Bool.and_eq_true, Bool.not_eq_true', decide_eq_true_eq] at h
    obtain ⟨⟨⟨⟨hh, h1⟩, hi⟩, rfl⟩, h3⟩ := h
    have hc := g.cls.sub n h1
    exact L2N.ps_raise (g.g.calm hh) g.g.tk (L2N.pmk_own (C := G.C.cl n) (bmB := veT) PySem.F.excBase_ValueError (by rw [g.g.hK]; exact g.cls.exI n h1 hi) (by rw [g.g.hmg]; exact g.cls.mg n hc) (by rw [g.g.hK]; exact g.cls.kp n h1)
      (raises_own (by rw [g.g.hK]; exact g.cls.bs n h1) (by rw [g.g.hK]; exact g.cls.ty n h1)) (g.g.gl h3) (glB_ok h3).2.1)
theorem sndS_rse (n : Nat) (es : E) : SndS (.rse n es) := by
  refine sndS_one (fun {G c k sc Wx X st} g h => ?_) (fun G c sc sts => by cases sts <;> rfl)
  cases st <;> first | (simp [ck1] at h; done) | skip
  rename_i e cs pos
  match e, cs, h with
  | some (.Call (.Name x p) (y :: ys) [] p3), none, h =>
    simp only [ck1, Bool.and_eq_true, Bool.not_eq_true', decide_eq_true_eq] at h
    obtain ⟨⟨⟨⟨⟨hh, h1⟩, hi⟩, rfl⟩, h3⟩, h4⟩ := h
    have hc := g.cls.sub n h1
    obtain ⟨ho, f, k', hk, ⟨fd, ps, F, kp, hl, hd⟩, fI, tI⟩ := g.cls.exO n h1 hi
    obtain ⟨us, hbi, hv⟩ := hd (G.T.f (G.T.ini n)).dfl.length (Nat.le_refl _)
    rw [List.drop_length] at hv
    have q := L2N.ps_raise (pos := pos) (g.g.calm hh) g.g.tk (pmk_oexN (X := X) (CX := L2N.CX X.prog X.w) (k := k') (fd := fd) (ps := ps) (sp := (G.T.f (G.T.ini n)).sp G.C) (ds := us) (dvs := []) (C := G.C.cl n) (fI := f) (p := p) (pos := p3)
      (by rw [g.g.hK]; exact ho) (by rw [g.g.hK]; exact fI) (by rw [g.g.hK]; exact tI) (by rw [g.g.hP, g.g.hw, g.g.hK, g.g.hmg, g.g.hb]; exact F) ((g.g.room hh).mono hk) (by rw [g.g.hK]; exact hbi) hv passN (g.g.gl h3) (by rw [g.g.hmg]; exact g.cls.mg n hc) ((snd es).L g.g h4) (glB_ok h3).2.1 (ckL_noSt h4))
    refine PS.imp q fun Z σ H hq => ?_
    simp only [rs] at hq
    split at hq
    · exact hq
    · exact hq.elim
theorem sndS_vini (n : Nat) (es : E) : SndS (.vini n es) := by
  refine sndS_one (fun {G c k sc Wx X st} g h => ?_) (fun G c sc sts => by cases sts <;> rfl)
  cases st <;> first | (simp [ck1] at h; done) | skip
  rename_i e pos
  match e, h with
  | .Call (.Attribute (.Name x p1) m ap) (y :: ys) [] cp, h =>
    simp only [ck1, Bool.and_eq_true, Bool.not_eq_true', decide_eq_true_eq] at h
    obtain ⟨⟨⟨⟨⟨⟨⟨⟨hi, h1⟩, h2⟩, hh⟩, h4⟩, rfl⟩, rfl⟩, h6⟩, h7⟩ := h
    have hc := g.cls.sub n h4
    have q := ps_expr (pos := pos) (pe_vein (X := X) (p1 := p1) (p2 := ap) (pos := cp) (pl := _) (g.g.gl h6) (by rw [g.g.hmg]; exact g.cls.mg n hc) (glB_ok h6).2.1 (fun s Q E' hin q => by
        rw [g.g.hP, g.g.hw]
        exact g.cls.vin n h4 hi _ _ _ _ _ (by rw [← g.g.hK]; exact hin) q) ((snd es).L g.g h7) (ckL_noSt h7) (meth_ev (o := .Name (G.cn n) p1) rfl (ckL_noSt h7) h2 h1)) rfl
    rw [g.g.hK] at q
    exact q
theorem sndS_tryA {b h : S} (n i : Nat) (hb : SndS b) (hh : SndS h) : SndS (.tryA b n i h) := by
  refine sndS_one (fun {G c k sc Wx X st} g hc => ?_) (fun G c sc sts => by cases sts <;> rfl)
  cases st <;> first | (simp [ck1] at hc; done) | skip
  rename_i xs hs els fin pos
  match hs, els, fin, hc with
  | [.ExceptHandler (some (.Name x np)) (some nm) ys p2], [], [], hc =>
    simp only [ck1, Bool.and_eq_true, Bool.not_eq_true', decide_eq_true_eq] at hc
    obtain ⟨⟨⟨⟨⟨⟨⟨⟨hh0, h1⟩, rfl⟩, h3⟩, h4⟩, h5⟩, h6⟩, h7⟩, h8⟩ := hc
    match ys, h6, h8 with
    | y :: ys, _, h8 =>
      have ts : ∀ (a : Addr) (oe : Obj) (cls : Value) (d : Option Addr) (pn : List (Addr × Obj)), L2N.Zn cls d oe → (∃ vs, oe.data = .fields vs) → PSs (X.suite a ((a, oe) :: pn)) (y :: ys)
          (fun Z σ H => ∃ m ∈ G.cs, cls = .ref (G.C.cl m) ∧ rs G.T G.cs h { G.C with ex := some (m, a, d) } noX Z σ H) := fun a oe cls d pn hz hf =>
        ⟨fun pins s σ H Z I hq => by
          obtain ⟨m, hm, rfl, hq⟩ := hq
          exact (hh.all (suite_good g hh0 hm hz hf) h8).run pins s σ H Z I hq⟩
      have q := L2N.ps_try_as (pos := pos) (pos' := p2) (np := np) (c := .ref (G.C.cl n)) (i := i) (Wout := Wx) g.st g.fr g.nd (g.ni h4) (by show X.env.scope.names.lookup nm = _; rw [g.g.hsc]; exact h5) ⟨g.g.gl h3, (glB_ok h3).2.1, .inl (by rw [g.g.hmg]; exact g.cls.mg n h1)⟩ g.g.tk
        (tb := fun W => rs G.T G.cs b G.C W) (fun W pn xe tk po => hb.all (g.tr hh0 tk po) h7) ts
      rw [g.g.hK] at q
      exact q
theorem sndS_tryO {b h : S} (n : Nat) (hb : SndS b) (hh : SndS h) : SndS (.tryO b n h) := by
  refine sndS_one (fun {G c k sc Wx X st} g hc => ?_) (fun G c sc sts => by cases sts <;> rfl)
  cases st <;> first | (simp [ck1] at hc; done) | skip
  rename_i xs hs els fin pos
  match hs, els, fin, hc with
  | [.ExceptHandler (some (.Name x np)) none ys p2], [], [], hc =>
    simp only [ck1, Bool.and_eq_true, Bool.not_eq_true', decide_eq_true_eq] at hc
    obtain ⟨⟨⟨⟨⟨⟨hh0, h1⟩, rfl⟩, h3⟩, h6⟩, h7⟩, h8⟩ := hc
    match ys, h6, h8 with
    | y :: ys, _, h8 =>
      have ts : ∀ (a : Addr) (oe : Obj) (cls : Value) (d : Option Addr) (pn : List (Addr × Obj)), L2N.Zn cls d oe → (∃ vs, oe.data = .fields vs) → PSs (X.suite a ((a, oe) :: pn)) (y :: ys)
          (fun Z σ H => ∃ m ∈ G.cs, cls = .ref (G.C.cl m) ∧ rs G.T G.cs h { G.C with ex := some (m, a, d) } noX Z σ H) := fun a oe cls d pn hz hf =>
        ⟨fun pins s σ H Z I hq => by
          obtain ⟨m, hm, rfl, hq⟩ := hq
          exact (hh.all (suite_good g hh0 hm hz hf) h8).run pins s σ H Z I hq⟩
      have q := L2N.ps_try_many (pos := pos) (Wout := Wx) g.st g.fr g.g.tk
        (tb := fun W => rs G.T G.cs b G.C W) (fun W pn xe tk po => hb.all (g.tr hh0 tk po) h7) (.cons (pos' := p2) (np := np) (c := .ref (G.C.cl n)) ⟨g.g.gl h3, (glB_ok h3).2.1, .inl (by rw [g.g.hmg]; exact g.cls.mg n h1)⟩ ts .nil)
      rw [g.g.hK] at q
      exact q
theorem sndS (s : S) : SndS s := by
  induction s with
  | nop => exact sndS_nop
  | stuck => exact sndS_stuck
  | seq a b ha hb => exact sndS_seq ha hb
  | pas => exact sndS_pas
  | exp e => exact sndS_exp e
  | asg i e => exact sndS_asg i e
  | asgT is e => exact sndS_asgT is e
  | aug i o e => exact sndS_aug i o e
  | ret e => exact sndS_ret e
  | retN => exact sndS_retN
  | ife t a b ha hb => exact sndS_ife ha hb
  | «for» js it b hb => exact sndS_for hb
  | forD js it b hb => exact sndS_forD hb
  | forH i e b hb => exact sndS_forH hb
  | whl t b hb => exact sndS_whl hb
  | brk => exact sndS_brk
  | cnt => exact sndS_cnt
  | setf a f e => exact sndS_setf a f e
  | setk d k e => exact sndS_setk d k e
  | setl l i e => exact sndS_setl l i e
  | rse0 c => exact sndS_rse0 c
  | rse c es => exact sndS_rse c es
  | tryA b c i h hb hh => exact sndS_tryA c i hb hh
  | tryO b c h hb hh => exact sndS_tryO c hb hh
  | vini c es => exact sndS_vini c es
  | ost a f e => exact sndS_ost a f e
end Q
/-! Q9: a def is worth its body; the law's end. -/
namespace Q
open PySem L2 PySem.Spec
/-- the promise of a def with this body: n parameters, N names -/
def spB (T : Tb) (cs : List Nat) (n N : Nat) (s : S) (C : Kc) : Sp := fun vs H Q E => vs.length = n ∧
  rs T cs s C (fun cls d _ H' => E cls d H') { nx := fun _ H' => Q .non H', rt := Q } (vs.map some ++ List.replicate (N - vs.length) none) H
structure DefT (G : Gt) (c : Cn) (ps : List Str) (sc : Scope) (body : List Stmt) (s : S) (hot : Bool) : Prop where
  sco : FnScope c.N ps sc
  ck : ckS G c sc s body = true
  hot : c.hot = hot
structure WorldT (G : Gx) (k : Nat) (rs : List Nat) : Prop where
  cls : ClsF G k rs
  ex : G.C.ex = none
  blt : ∀ x ∈ bltNames, G.mg x = none
  glo : ∀ n ∈ G.gs, GlF G n
/-- what the callees are -/
structure CallsT (G : Gx) (c : Cn) (k : Nat) : Prop where
  fns : ∀ i ∈ c.fs, FnI G k i := by exact fun _ z => nomatch z
  fnh : ∀ i ∈ c.hs, FnIH G k i := by exact fun _ z => nomatch z
  mts : ∀ p ∈ c.ms, MtI G k p.1 p.2 := by exact fun _ z => nomatch z
  mks : ∀ n ∈ c.mks, MkI G k n := by exact fun _ z => nomatch z
  bis : ∀ n ∈ c.bi, BiI G k n := by exact fun _ z => nomatch z
/-- THE RULE for a def -/
theorem def_ok {G : Gx} {c : Cn} {k : Nat} {x qual : Str} {params : Arguments} {body : List Stmt} {sc : Scope} {dvs : List V} {f : Addr} {fd : FuncData} {ps : List Str} {s : S}
    (hF : FunD G.C.K x qual params body sc dvs [] f fd) (t : DefT G c ps sc body s false) (w : WorldT G k c.rs) (cl : CallsT G c k) :
    FnOk G.P G.w G.C.K G.mg G.base (L2N.CX G.P G.w) (k + 1) f fd ps (spB G.T G.cs ps.length c.N.length s G.C) := by
  refine hF.ok t.sco (fun vs H Q E h => h.1) fun cdv A outer s0 H vs Q E hr h => ?_
  have hu := hr.un
  have g : GoodS G c k sc (fun cls d _ H => E cls d H) (cxOf (L2N.CX G.P G.w) G.P G.w G.C.K G.mg G.base c.N qual sc f cdv A outer s0 H E) :=
    { g := { hP := rfl, hw := rfl, hK := rfl, hmg := rfl, hb := rfl, hN := rfl, nd := t.sco.nd, hsc := rfl
             calm := fun _ => rfl
             room := fun _ => hr
             units := Nat.lt_of_le_of_lt (Nat.le_trans (Nat.add_le_add_left (show 65 ≤ 200 by decide) _) (Nat.add_le_add_right (Nat.le_add_right _ _) _)) hu
             tk := L2N.takes_of rfl rfl rfl rfl
             po := passes_of rfl
             blt := w.blt
             glo := w.glo
             fns := cl.fns
             fnh := cl.fnh
             mts := cl.mts
             mks := cl.mks
             bis := cl.bis
             hotg := fun z => by rw [t.hot] at z; cases z
             isx := fun z => by rw [t.hot] at z; cases z }
      fn := fun _ => rfl
      st := rfl
      fr := rfl
      cls := w.cls }
  exact ⟨_, (sndS s).all g t.ck, h.2⟩
theorem ClsF.hotB {G : Gx} {k : Nat} {rs : List Nat} (h : ClsF G k rs) (m : Nat) (a : Addr) (dx : Option Addr) (base : Heap) : ClsF { G with C := { G.C with ex := some (m, a, dx) }, base := base } k [] where
  mg := h.mg
  sub := fun _ z => nomatch z
  kp := fun _ z => nomatch z
  bs := fun _ z => nomatch z
  ty := fun _ z => nomatch z
  exI := fun _ z => nomatch z
  exO := fun _ z => nomatch z
  vin := fun _ z => nomatch z
  exm := h.exm
  kit := h.kit
  exc := h.exc
  ve := h.ve
/-- THE RULE for a def that is called within an except suite -/
theorem defH_ok {G : Gx} {c : Cn} {k : Nat} {x qual : Str} {params : Arguments} {body : List Stmt} {sc : Scope} {dvs : List V} {f : Addr} {fd : FuncData} {ps : List Str} {s : S} {R : Row} {rs0 : List Nat}
    (hF : FunD G.C.K x qual params body sc dvs [] f fd) (t : DefT G c ps sc body s true) (w : WorldT G k rs0) (cl : CallsT G c k) (nf : c.fs = [] ∧ c.ms = [] ∧ c.mks = [] ∧ c.bi = [] ∧ c.rs = [])
    (hR : R.sp = spB G.T G.cs ps.length c.N.length s) (ar : R.ar = ps.length) (hb : ∀ n, n ≤ R.dfl.length → ∃ us, Binds G.C.K fd ps us ∧ Vals (R.dfl.drop n) us) : FnCH G (k + 1) R f := by
  refine ⟨fd, ps, fun m a dx oe base ob kb ha => ?_, hF.kp, ar.symm, hb⟩
  obtain ⟨oc, od, dV, kV, doc, pm, an, cdv, ct, osl, e, l, cd, _, _⟩ := hF.ex
  subst e
  rw [hR]
  refine L2H.fn_ofH l cd t.sco (fun vs H Q E h => h.1) fun A outer s0 H vs Q E p hot hr h => ?_
  let G' : Gx := { G with C := { G.C with ex := some (m, a, dx) }, base := base }
  have cls : ClsF G' k [] := w.cls.hotB m a dx base
  have hg : HotG G' k (L2H.cxH (L2N.CX G.P G.w) G.P G.w G.C.K G.mg base c.N qual sc f cdv A outer s0 H E p) m a dx oe :=
    { ex := rfl
      ob := ob
      at_ := fun {pins σ H1 s1} I => by
        have q := I.bs a oe ha
        refine ⟨q.1, q.2, fun z => ?_⟩
        have y := (I.env0.funs.mem z).1
        rw [show (L2H.cxH (L2N.CX G.P G.w) G.P G.w G.C.K G.mg base c.N qual sc f cdv A outer s0 H E p).base = base from rfl, ha] at y
        cases y
      hc := ⟨p, hot, List.mem_singleton.mpr rfl⟩
      room := hr }
  obtain ⟨n1, n2, n3, n4, n5⟩ := nf
  have g : GoodS G' c k sc (fun cls d _ H => E cls d H) (L2H.cxH (L2N.CX G.P G.w) G.P G.w G.C.K G.mg base c.N qual sc f cdv A outer s0 H E p) :=
    { g := { hP := rfl, hw := rfl, hK := rfl, hmg := rfl, hb := rfl, hN := rfl, nd := t.sco.nd, hsc := rfl
             calm := fun z => by rw [t.hot] at z; cases z
             room := fun z => by rw [t.hot] at z; cases z
             units := Nat.lt_of_le_of_lt (Nat.le_trans (Nat.add_le_add_left (show 65 ≤ 200 by decide) _) (Nat.add_le_add_right (Nat.le_add_right _ _) _)) hr.un
             tk := L2N.takes_of rfl rfl rfl rfl
             po := passes_of rfl
             blt := w.blt
             glo := w.glo
             fns := fun i z => by rw [n1] at z; exact (List.not_mem_nil z).elim
             fnh := fun i hi => by
               obtain ⟨f', ⟨fd', ps', q1, q2⟩, q3⟩ := cl.fnh i hi
               exact ⟨f', ⟨fd', ps', fun m' a' dx' oe' base' ob' kb' ha' => q1 m' a' dx' oe' base' ob' (fun b o z => kb' b o (kb b o z)) ha', q2⟩, q3⟩
             mts := fun i z => by rw [n2] at z; exact (List.not_mem_nil z).elim
             mks := fun i z => by rw [n3] at z; exact (List.not_mem_nil z).elim
             bis := fun i z => by rw [n4] at z; exact (List.not_mem_nil z).elim
             hotg := fun _ => ⟨m, a, dx, oe, hg⟩
             isx := fun _ e x he hx => hot_isx hg cls rfl rfl rfl rfl w.blt he hx }
      fn := fun _ => rfl
      st := rfl
      fr := rfl
      cls := by rw [n5]; exact cls }
  exact ⟨_, (sndS s).all g t.ck, h.2⟩
theorem FnC.up {G : Gx} {j k : Nat} {R : Row} {f : Addr} (h : FnC G j R f) (hk : j ≤ k) : FnC G k R f := by
  obtain ⟨fd, ps, h1, h2⟩ := h.ex
  exact ⟨fd, ps, h1.mono hk, h2⟩
theorem FnCH.up {G : Gx} {j k : Nat} {R : Row} {f : Addr} (h : FnCH G j R f) (hk : j ≤ k) : FnCH G k R f := by
  obtain ⟨fd, ps, h1, h2⟩ := h.ex
  exact ⟨fd, ps, fun m a dx oe base q1 q2 q3 => ⟨(h1 m a dx oe base q1 q2 q3).len, fun A outer s H args us vs Q E p hr => (h1 m a dx oe base q1 q2 q3).run A outer s H args us vs Q E p (hr.mono hk)⟩, h2⟩
/-- the law's promise -/
def spLawB (K : Frag) : Sp := fun vs H Q _ => ∃ (a : Addr) (ns : List Int), vs = [.ref a] ∧ SqL K H a (ns.map V.int) ∧ ns.length ≤ 63 ∧ (∀ z ∈ ns, Builtin.Int.intBits z ≤ 1048576) ∧ ∀ H', Q (.bl true) H'
theorem walk_k {l : PySem.W.OpenLaw} {k : Nat} {q : Program} {loose : List Str} {XP : (Str → Option Value) → Heap → Prop} {YP : World → Heap → Prop} {d : DefRec} {K : Params → Frag} (x : Str) (hn : l.most = some 63) (hdf : d.params.defaults = []) (hr : Room k callerA)
    (hY : ∀ (w : World) (h : Heap), YP w h → (K w.params).In h)
    (F : ∀ (w : World) (mg : Str → Option Value) (fa : Addr) (h : Heap), (K w.params).In h → h.Ns mainGlobals mg → mg d.name = some (.ref fa) →
      ∃ fd : FuncData, (∀ (s : Shared) (u : Value), BindsTo s fd ⟨[u], []⟩ [(x, u)]) ∧ ∀ base : Heap, (K w.params).In base → base.Ns mainGlobals mg → FnOk l.prog w (K w.params) mg base (L2N.CX l.prog w) k fa fd [x] (spLawB (K w.params))) :
    PySem.W.WalkO q loose XP YP l.row.toRowW d [] (fun f vs => PySem.call f vs) :=
  L2.walk_ofB (n := 63) (k := k) (x := x) (CX := fun w => L2N.CX l.prog w) (sp := fun w => spLawB (K w.params)) hn (by decide) hdf hr hY F (fun _ _ a ns hl hb _ hS => ⟨a, ns, rfl, hS, hl, hb, fun _ => rfl⟩) fun _ _ _ _ _ z => by
    obtain ⟨_, _, _, _, _, _, _, _, _, _, _, _, z⟩ := z
    exact z
end Q
/-! Q10: what a value is worth: views (read), own things (read and changed). -/
namespace Q
open PySem L2 PySem.Spec
theorem sm_refl (H : Hp) : Same H H := fun _ _ e => e
theorem sm_trans {H H' H'' : Hp} (a : Same H H') (b : Same H' H'') : Same H H'' := fun x o e => b x o (a x o e)
theorem sm_rd {H H' : Hp} (e : Same H H') {a : Addr} {u : HO} (h : L2.Rd H a u) : L2.Rd H' a u := by
  rcases h with h | ⟨o, h⟩
  · exact .inl (e a _ h)
  · exact .inr ⟨o, e a _ h⟩
theorem sm_sqT {K : Frag} {H H' : Hp} (e : Same H H') {a : Addr} {xs : List V} (h : SqT K H a xs) : SqT K H' a xs := by
  rcases h with h | h
  · exact .inl (sm_rd e h)
  · exact .inr h
theorem sm_sqL {K : Frag} {H H' : Hp} (e : Same H H') {a : Addr} {xs : List V} (h : SqL K H a xs) : SqL K H' a xs := by
  rcases h with h | h
  · exact .inl (sm_rd e h)
  · exact .inr h
theorem sm_new {H : Hp} {p : Addr} {o : HO} (h : H p = none) : Same H (upd H p o) := fun a u e => by
  rw [upd_ne (fun z => by rw [z, h] at e; cases e)]
  exact e
/-- a tuple (it never changes) -/
def tupB : HO → Bool
  | .tup _ => true
  | .frz _ (.tup _) => true
  | _ => false
/-- no tuple stands there -/
def nTup (H : Hp) (a : Addr) : Prop := ∀ u, H a = some u → tupB u = false
def dicB : HO → Bool
  | .dK _ => true
  | .dT _ => true
  | _ => false
/-- the same, but that dicts may be locked -/
def Lk (B B' : Hp) : Prop := ∀ a, B a = B' a ∨ ∃ u, dicB u = true ∧ ((B a = some u ∧ ∃ o, B' a = some (.frz o u)) ∨ (B' a = some u ∧ ∃ o, B a = some (.frz o u)))
theorem Lk.symm {B B' : Hp} (h : Lk B B') : Lk B' B := fun a => (h a).imp Eq.symm fun ⟨u, hu, z⟩ => ⟨u, hu, z.symm⟩
theorem Lk.eq {B B' : Hp} (h : Lk B B') {a : Addr} {u : HO} (e : B a = some u) (hu : dicB u = false) (hf : ∀ o w, u ≠ .frz o w) : B' a = some u := by
  rcases h a with z | ⟨w, hw, ⟨z, _⟩ | ⟨_, o, z⟩⟩
  · rw [← z]; exact e
  · rw [e] at z
    cases z
    rw [hu] at hw; cases hw
  · rw [e] at z
    cases z
    exact absurd rfl (hf o w)
theorem lk_rd {B B' : Hp} (h : Lk B B') {a : Addr} {u : HO} (hf : ∀ o w, u ≠ .frz o w) (r : L2.Rd B a u) : L2.Rd B' a u := by
  rcases h a with z | ⟨w, hw, ⟨z, o, z'⟩ | ⟨z', o, z⟩⟩
  · rcases r with r | ⟨o, r⟩
    · exact .inl (by rw [← z]; exact r)
    · exact .inr ⟨o, by rw [← z]; exact r⟩
  · rcases r with r | ⟨o', r⟩
    · rw [z] at r
      cases r
      exact .inr ⟨o, z'⟩
    · rw [z] at r
      cases r
      cases hw
  · rcases r with r | ⟨o', r⟩
    · rw [z] at r
      cases r
      exact absurd rfl (hf _ _)
    · rw [z] at r
      cases r
      exact .inl z'
theorem lk_sqT {K : Frag} {B B' : Hp} (e : Lk B B') {a : Addr} {xs : List V} (h : SqT K B a xs) : SqT K B' a xs := h.imp_left (lk_rd e fun _ _ z => nomatch z)
theorem lk_sqL {K : Frag} {B B' : Hp} (e : Lk B B') {a : Addr} {xs : List V} (h : SqL K B a xs) : SqL K B' a xs := h.imp_left (lk_rd e fun _ _ z => nomatch z)
/-- what may be read -/
structure Vw where
  rel : Hp → V → Prop
  mono : ∀ {B B' : Hp} {v : V}, Same B B' → rel B v → rel B' v
  lk : ∀ {B B' : Hp} {v : V}, Lk B B' → rel B v → rel B' v
/-- what one has: B is frozen for ever; the last: the own addresses -/
structure Ow where
  rel : Hp → Hp → V → List Addr → Prop
  mono : ∀ {B B' H H' : Hp} {v : V} {fp : List Addr}, Same B B' → (∀ a ∈ fp, H' a = H a) → rel B H v fp → rel B' H' v fp
  al : ∀ {B H : Hp} {v : V} {fp : List Addr}, rel B H v fp → ∀ a ∈ fp, (H a).isSome = true
  nt : ∀ {B H : Hp} {v : V} {fp : List Addr}, rel B H v fp → ∀ a ∈ fp, nTup H a
  lk : ∀ {B B' H H' : Hp} {v : V} {fp : List Addr}, Lk B B' → (∀ a ∈ fp, H' a = H a) → rel B H v fp → rel B' H' v fp
  vw : Vw
  sub : ∀ {B B' H : Hp} {v : V} {fp : List Addr}, Same B B' → (∀ a ∈ fp, B' a = H a) → rel B H v fp → vw.rel B' v
abbrev VwL (B : Hp) : List V → List Vw → Prop := Paired fun v w => w.rel B v
theorem VwL.mono {B B' : Hp} (e : Same B B') : ∀ {vs : List V} {ws : List Vw}, VwL B vs ws → VwL B' vs ws
  | _, _, .nil => .nil
  | _, _, .cons (b := w) h l => .cons (w.mono e h) (VwL.mono e l)
theorem VwL.lk {B B' : Hp} (e : Lk B B') : ∀ {vs : List V} {ws : List Vw}, VwL B vs ws → VwL B' vs ws
  | _, _, .nil => .nil
  | _, _, .cons (b := w) h l => .cons (w.lk e h) (VwL.lk e l)
abbrev VwF {κ : Type} (B : Hp) : List (κ × V) → List (κ × Vw) → Prop := Paired fun v w => v.1 = w.1 ∧ w.2.rel B v.2
theorem VwF.mono {κ : Type} {B B' : Hp} (e : Same B B') : ∀ {vs : List (κ × V)} {ws : List (κ × Vw)}, VwF B vs ws → VwF B' vs ws
  | _, _, .nil => .nil
  | _, _, .cons (b := w) h l => .cons ⟨h.1, w.2.mono e h.2⟩ (VwF.mono e l)
theorem VwF.lk {κ : Type} {B B' : Hp} (e : Lk B B') : ∀ {vs : List (κ × V)} {ws : List (κ × Vw)}, VwF B vs ws → VwF B' vs ws
  | _, _, .nil => .nil
  | _, _, .cons (b := w) h l => .cons ⟨h.1, w.2.lk e h.2⟩ (VwF.lk e l)
def vC (v : V) : Vw := ⟨fun _ u => u = v, fun _ h => h, fun _ h => h⟩
abbrev vNon : Unit → Vw := fun _ => vC .non
abbrev vBl (b : Bool) : Vw := vC (.bl b)
abbrev vInt (i : Int) : Vw := vC (.int i)
abbrev vStr (s : Str) : Vw := vC (.str s)
def vOpt {α : Type} (τ : α → Vw) : Option α → Vw
  | none => vC .non
  | some x => τ x
section
variable (C : Kc)
def vTup (ws : List Vw) : Vw := ⟨fun B v => ∃ p vs, v = .ref p ∧ SqT C.K B p vs ∧ VwL B vs ws, fun e ⟨p, vs, h1, h2, h3⟩ => ⟨p, vs, h1, sm_sqT e h2, h3.mono e⟩, fun e ⟨p, vs, h1, h2, h3⟩ => ⟨p, vs, h1, lk_sqT e h2, h3.lk e⟩⟩
def vLs (ws : List Vw) : Vw := ⟨fun B v => ∃ p vs, v = .ref p ∧ SqL C.K B p vs ∧ VwL B vs ws, fun e ⟨p, vs, h1, h2, h3⟩ => ⟨p, vs, h1, sm_sqL e h2, h3.mono e⟩, fun e ⟨p, vs, h1, h2, h3⟩ => ⟨p, vs, h1, lk_sqL e h2, h3.lk e⟩⟩
def vDc (ws : List (Key × Vw)) : Vw := ⟨fun B v => ∃ p vs, v = .ref p ∧ L2.Rd B p (.dK vs) ∧ VwF B vs ws, fun e ⟨p, vs, h1, h2, h3⟩ => ⟨p, vs, h1, sm_rd e h2, h3.mono e⟩, fun e ⟨p, vs, h1, h2, h3⟩ => ⟨p, vs, h1, lk_rd e (fun _ _ z => nomatch z) h2, h3.lk e⟩⟩
def vDt (ws : List (List Key × Vw)) : Vw := ⟨fun B v => ∃ p vs, v = .ref p ∧ L2.Rd B p (.dT vs) ∧ VwF B vs ws, fun e ⟨p, vs, h1, h2, h3⟩ => ⟨p, vs, h1, sm_rd e h2, h3.mono e⟩, fun e ⟨p, vs, h1, h2, h3⟩ => ⟨p, vs, h1, lk_rd e (fun _ _ z => nomatch z) h2, h3.lk e⟩⟩
def vIn (c : Nat) (ws : List (Str × Vw)) : Vw := ⟨fun B v => ∃ p dx vs, v = .ref p ∧ B p = some (.ins (C.cl c) dx vs) ∧ VwF B vs ws, fun e ⟨p, dx, vs, h1, h2, h3⟩ => ⟨p, dx, vs, h1, e _ _ h2, h3.mono e⟩, fun e ⟨p, dx, vs, h1, h2, h3⟩ => ⟨p, dx, vs, h1, e.eq h2 rfl (fun _ _ z => nomatch z), h3.lk e⟩⟩
abbrev vL {α : Type} (τ : α → Vw) (xs : List α) : Vw := vLs C (xs.map τ)
end
/-! own things -/
def oV (w : Vw) : Ow where
  rel := fun B _ v fp => w.rel B v ∧ fp = []
  mono := fun e _ h => ⟨w.mono e h.1, h.2⟩
  al := fun h a ha => by rw [h.2] at ha; cases ha
  nt := fun h a ha => by rw [h.2] at ha; cases ha
  lk := fun e _ h => ⟨w.lk e h.1, h.2⟩
  vw := w
  sub := fun e _ h => w.mono e h.1
def OwL (B H : Hp) : List V → List Ow → List Addr → Prop
  | [], [], fp => fp = []
  | v :: vs, o :: os, fp => ∃ f g, fp = f ++ g ∧ o.rel B H v f ∧ OwL B H vs os g
  | _, _, _ => False
theorem OwL.mono {B B' H H' : Hp} (e : Same B B') : ∀ {vs : List V} {os : List Ow} {fp : List Addr}, (∀ a ∈ fp, H' a = H a) → OwL B H vs os fp → OwL B' H' vs os fp
  | [], [], _, _, h => h
  | v :: vs, o :: os, fp, n, ⟨f, g, h1, h2, h3⟩ => by
    subst h1
    exact ⟨f, g, rfl, o.mono e (fun a ha => n a (List.mem_append_left _ ha)) h2, OwL.mono e (fun a ha => n a (List.mem_append_right _ ha)) h3⟩
theorem OwL.lk {B B' H H' : Hp} (e : Lk B B') : ∀ {vs : List V} {os : List Ow} {fp : List Addr}, (∀ a ∈ fp, H' a = H a) → OwL B H vs os fp → OwL B' H' vs os fp
  | [], [], _, _, h => h
  | v :: vs, o :: os, fp, n, ⟨f, g, h1, h2, h3⟩ => by
    subst h1
    exact ⟨f, g, rfl, o.lk e (fun a ha => n a (List.mem_append_left _ ha)) h2, OwL.lk e (fun a ha => n a (List.mem_append_right _ ha)) h3⟩
theorem OwL.al {B H : Hp} : ∀ {vs : List V} {os : List Ow} {fp : List Addr}, OwL B H vs os fp → ∀ a ∈ fp, (H a).isSome = true
  | [], [], _, h, a, ha => by rw [show _ = [] from h] at ha; cases ha
  | v :: vs, o :: os, fp, ⟨f, g, h1, h2, h3⟩, a, ha => by
    subst h1
    exact (List.mem_append.mp ha).elim (o.al h2 a) (OwL.al h3 a)
theorem OwL.nt {B H : Hp} : ∀ {vs : List V} {os : List Ow} {fp : List Addr}, OwL B H vs os fp → ∀ a ∈ fp, nTup H a
  | [], [], _, h, a, ha => by rw [show _ = [] from h] at ha; cases ha
  | v :: vs, o :: os, fp, ⟨f, g, h1, h2, h3⟩, a, ha => by
    subst h1
    exact (List.mem_append.mp ha).elim (o.nt h2 a) (OwL.nt h3 a)
theorem OwL.sub {B B' H : Hp} (e : Same B B') : ∀ {vs : List V} {os : List Ow} {fp : List Addr}, (∀ a ∈ fp, B' a = H a) → OwL B H vs os fp → VwL B' vs (os.map Ow.vw)
  | [], [], _, _, _ => .nil
  | v :: vs, o :: os, fp, n, ⟨f, g, h1, h2, h3⟩ => by
    subst h1
    exact .cons (o.sub e (fun a ha => n a (List.mem_append_left _ ha)) h2) (OwL.sub e (fun a ha => n a (List.mem_append_right _ ha)) h3)
theorem OwL.len {B H : Hp} : ∀ {vs : List V} {os : List Ow} {fp : List Addr}, OwL B H vs os fp → vs.length = os.length
  | [], [], _, _ => rfl
  | v :: vs, o :: os, fp, ⟨f, g, h1, h2, h3⟩ => by rw [List.length_cons, List.length_cons, OwL.len h3]
theorem OwL.append {B H : Hp} : ∀ {vs ws : List V} {os ps : List Ow} {fp fq : List Addr}, OwL B H vs os fp → OwL B H ws ps fq → OwL B H (vs ++ ws) (os ++ ps) (fp ++ fq)
  | [], ws, [], ps, fp, fq, h, h' => by rw [show fp = [] from h]; exact h'
  | v :: vs, ws, o :: os, ps, fp, fq, ⟨f, g, h1, h2, h3⟩, h' => by
    subst h1
    exact ⟨f, g ++ fq, by rw [List.append_assoc], h2, OwL.append h3 h'⟩
theorem owl_oV {B H : Hp} : ∀ {vs : List V} {ws : List Vw}, VwL B vs ws → OwL B H vs (ws.map oV) []
  | _, _, .nil => rfl
  | _, _, .cons h l => ⟨[], [], rfl, ⟨h, rfl⟩, owl_oV l⟩
abbrev OwF {κ : Type} (B H : Hp) (vs : List (κ × V)) (os : List (κ × Ow)) (fp : List Addr) : Prop := vs.map (·.1) = os.map (·.1) ∧ OwL B H (vs.map (·.2)) (os.map (·.2)) fp
theorem vwF_of {κ : Type} {B : Hp} : ∀ {vs : List (κ × V)} {ws : List (κ × Vw)}, vs.map (·.1) = ws.map (·.1) → VwL B (vs.map (·.2)) (ws.map (·.2)) → VwF B vs ws
  | [], [], _, _ => .nil
  | [], _ :: _, h, _ => by simp at h
  | _ :: _, [], h, _ => by simp at h
  | (k, v) :: vs, (j, w) :: ws, h, .cons a b => by
    simp only [List.map_cons, List.cons.injEq] at h
    exact .cons ⟨h.1, a⟩ (vwF_of h.2 b)
section
variable (C : Kc)
def oLs (os : List Ow) : Ow where
  rel := fun B H v fp => ∃ p vs f, v = .ref p ∧ H p = some (.lst vs) ∧ OwL B H vs os f ∧ fp = p :: f
  mono := fun e n ⟨p, vs, f, h1, h2, h3, h4⟩ => by
    subst h4
    exact ⟨p, vs, f, h1, by rw [n p List.mem_cons_self]; exact h2, OwL.mono e (fun a ha => n a (List.mem_cons_of_mem _ ha)) h3, rfl⟩
  al := fun ⟨p, vs, f, h1, h2, h3, h4⟩ a ha => by
    subst h4
    rcases List.mem_cons.mp ha with rfl | ha
    · rw [h2]; rfl
    · exact OwL.al h3 a ha
  nt := fun ⟨p, vs, f, h1, h2, h3, h4⟩ a ha us z => by
    subst h4
    rcases List.mem_cons.mp ha with rfl | ha
    · rw [h2] at z; cases z; rfl
    · exact OwL.nt h3 a ha us z
  lk := fun e n ⟨p, vs, f, h1, h2, h3, h4⟩ => by
    subst h4
    exact ⟨p, vs, f, h1, by rw [n p List.mem_cons_self]; exact h2, OwL.lk e (fun a ha => n a (List.mem_cons_of_mem _ ha)) h3, rfl⟩
  vw := vLs C (os.map Ow.vw)
  sub := fun e n ⟨p, vs, f, h1, h2, h3, h4⟩ => by
    subst h4
    exact ⟨p, vs, h1, .inl (.inl (by rw [n p List.mem_cons_self]; exact h2)), OwL.sub e (fun a ha => n a (List.mem_cons_of_mem _ ha)) h3⟩
/-- a tuple: the thing itself never changes, so it is frozen at once; its items may be own -/
def oTup (os : List Ow) : Ow where
  rel := fun B H v fp => ∃ p vs, v = .ref p ∧ SqT C.K B p vs ∧ OwL B H vs os fp
  mono := fun e n ⟨p, vs, h1, h2, h3⟩ => ⟨p, vs, h1, sm_sqT e h2, OwL.mono e n h3⟩
  al := fun ⟨p, vs, h1, h2, h3⟩ a ha => OwL.al h3 a ha
  nt := fun ⟨p, vs, h1, h2, h3⟩ a ha => OwL.nt h3 a ha
  lk := fun e n ⟨p, vs, h1, h2, h3⟩ => ⟨p, vs, h1, lk_sqT e h2, OwL.lk e n h3⟩
  vw := vTup C (os.map Ow.vw)
  sub := fun e n ⟨p, vs, h1, h2, h3⟩ => ⟨p, vs, h1, sm_sqT e h2, OwL.sub e n h3⟩
def oDc (os : List (Key × Ow)) : Ow where
  rel := fun B H v fp => ∃ p vs f, v = .ref p ∧ H p = some (.dK vs) ∧ OwF B H vs os f ∧ fp = p :: f
  mono := fun e n ⟨p, vs, f, h1, h2, h3, h4⟩ => by
    subst h4
    exact ⟨p, vs, f, h1, by rw [n p List.mem_cons_self]; exact h2, ⟨h3.1, OwL.mono e (fun a ha => n a (List.mem_cons_of_mem _ ha)) h3.2⟩, rfl⟩
  al := fun ⟨p, vs, f, h1, h2, h3, h4⟩ a ha => by
    subst h4
    rcases List.mem_cons.mp ha with rfl | ha
    · rw [h2]; rfl
    · exact OwL.al h3.2 a ha
  nt := fun ⟨p, vs, f, h1, h2, h3, h4⟩ a ha us z => by
    subst h4
    rcases List.mem_cons.mp ha with rfl | ha
    · rw [h2] at z; cases z; rfl
    · exact OwL.nt h3.2 a ha us z
  lk := fun e n ⟨p, vs, f, h1, h2, h3, h4⟩ => by
    subst h4
    exact ⟨p, vs, f, h1, by rw [n p List.mem_cons_self]; exact h2, ⟨h3.1, OwL.lk e (fun a ha => n a (List.mem_cons_of_mem _ ha)) h3.2⟩, rfl⟩
  vw := vDc (os.map fun q => (q.1, q.2.vw))
  sub := fun e n ⟨p, vs, f, h1, h2, h3, h4⟩ => by
    subst h4
    refine ⟨p, vs, h1, .inl (by rw [n p List.mem_cons_self]; exact h2), vwF_of (by rw [h3.1, List.map_map]; rfl) ?_⟩
    have := OwL.sub e (fun a ha => n a (List.mem_cons_of_mem _ ha)) h3.2
    rw [List.map_map] at this ⊢
    exact this
def oDt (os : List (List Key × Ow)) : Ow where
  rel := fun B H v fp => ∃ p vs f, v = .ref p ∧ H p = some (.dT vs) ∧ OwF B H vs os f ∧ fp = p :: f
  mono := fun e n ⟨p, vs, f, h1, h2, h3, h4⟩ => by
    subst h4
    exact ⟨p, vs, f, h1, by rw [n p List.mem_cons_self]; exact h2, ⟨h3.1, OwL.mono e (fun a ha => n a (List.mem_cons_of_mem _ ha)) h3.2⟩, rfl⟩
  al := fun ⟨p, vs, f, h1, h2, h3, h4⟩ a ha => by
    subst h4
    rcases List.mem_cons.mp ha with rfl | ha
    · rw [h2]; rfl
    · exact OwL.al h3.2 a ha
  nt := fun ⟨p, vs, f, h1, h2, h3, h4⟩ a ha us z => by
    subst h4
    rcases List.mem_cons.mp ha with rfl | ha
    · rw [h2] at z; cases z; rfl
    · exact OwL.nt h3.2 a ha us z
  lk := fun e n ⟨p, vs, f, h1, h2, h3, h4⟩ => by
    subst h4
    exact ⟨p, vs, f, h1, by rw [n p List.mem_cons_self]; exact h2, ⟨h3.1, OwL.lk e (fun a ha => n a (List.mem_cons_of_mem _ ha)) h3.2⟩, rfl⟩
  vw := vDt (os.map fun q => (q.1, q.2.vw))
  sub := fun e n ⟨p, vs, f, h1, h2, h3, h4⟩ => by
    subst h4
    refine ⟨p, vs, h1, .inl (by rw [n p List.mem_cons_self]; exact h2), vwF_of (by rw [h3.1, List.map_map]; rfl) ?_⟩
    have := OwL.sub e (fun a ha => n a (List.mem_cons_of_mem _ ha)) h3.2
    rw [List.map_map] at this ⊢
    exact this
def oIn (c : Nat) (os : List (Str × Ow)) : Ow where
  rel := fun B H v fp => ∃ p dx vs f, v = .ref p ∧ H p = some (.ins (C.cl c) dx vs) ∧ OwF B H vs os f ∧ fp = p :: f
  mono := fun e n ⟨p, dx, vs, f, h1, h2, h3, h4⟩ => by
    subst h4
    exact ⟨p, dx, vs, f, h1, by rw [n p List.mem_cons_self]; exact h2, ⟨h3.1, OwL.mono e (fun a ha => n a (List.mem_cons_of_mem _ ha)) h3.2⟩, rfl⟩
  al := fun ⟨p, dx, vs, f, h1, h2, h3, h4⟩ a ha => by
    subst h4
    rcases List.mem_cons.mp ha with rfl | ha
    · rw [h2]; rfl
    · exact OwL.al h3.2 a ha
  nt := fun ⟨p, dx, vs, f, h1, h2, h3, h4⟩ a ha us z => by
    subst h4
    rcases List.mem_cons.mp ha with rfl | ha
    · rw [h2] at z; cases z; rfl
    · exact OwL.nt h3.2 a ha us z
  lk := fun e n ⟨p, dx, vs, f, h1, h2, h3, h4⟩ => by
    subst h4
    exact ⟨p, dx, vs, f, h1, by rw [n p List.mem_cons_self]; exact h2, ⟨h3.1, OwL.lk e (fun a ha => n a (List.mem_cons_of_mem _ ha)) h3.2⟩, rfl⟩
  vw := vIn C c (os.map fun q => (q.1, q.2.vw))
  sub := fun e n ⟨p, dx, vs, f, h1, h2, h3, h4⟩ => by
    subst h4
    refine ⟨p, dx, vs, h1, by rw [n p List.mem_cons_self]; exact h2, vwF_of (by rw [h3.1, List.map_map]; rfl) ?_⟩
    have := OwL.sub e (fun a ha => n a (List.mem_cons_of_mem _ ha)) h3.2
    rw [List.map_map] at this ⊢
    exact this
abbrev oL {α : Type} (τ : α → Ow) (xs : List α) : Ow := oLs C (xs.map τ)
end
/-! the names -/
def EnvO (B H : Hp) : List (Option V) → List (Option Ow) → List Addr → Prop
  | [], [], fp => fp = []
  | _ :: σ, none :: Γ, fp => EnvO B H σ Γ fp
  | v :: σ, some o :: Γ, fp => ∃ u f g, v = some u ∧ fp = f ++ g ∧ o.rel B H u f ∧ EnvO B H σ Γ g
  | _, _, _ => False
theorem EnvO.mono {B B' H H' : Hp} (e : Same B B') : ∀ {σ : List (Option V)} {Γ : List (Option Ow)} {fp : List Addr}, (∀ a ∈ fp, H' a = H a) → EnvO B H σ Γ fp → EnvO B' H' σ Γ fp
  | [], [], _, _, h => h
  | _ :: σ, none :: Γ, fp, n, h => EnvO.mono (σ := σ) (Γ := Γ) e n h
  | v :: σ, some o :: Γ, fp, n, ⟨u, f, g, h0, h1, h2, h3⟩ => by
    subst h1
    exact ⟨u, f, g, h0, rfl, o.mono e (fun a ha => n a (List.mem_append_left _ ha)) h2, EnvO.mono e (fun a ha => n a (List.mem_append_right _ ha)) h3⟩
  | [], _ :: _, _, _, h => by cases h
  | _ :: _, [], _, _, h => by cases h
theorem EnvO.lk {B B' H H' : Hp} (e : Lk B B') : ∀ {σ : List (Option V)} {Γ : List (Option Ow)} {fp : List Addr}, (∀ a ∈ fp, H' a = H a) → EnvO B H σ Γ fp → EnvO B' H' σ Γ fp
  | [], [], _, _, h => h
  | _ :: σ, none :: Γ, fp, n, h => EnvO.lk (σ := σ) (Γ := Γ) e n h
  | v :: σ, some o :: Γ, fp, n, ⟨u, f, g, h0, h1, h2, h3⟩ => by
    subst h1
    exact ⟨u, f, g, h0, rfl, o.lk e (fun a ha => n a (List.mem_append_left _ ha)) h2, EnvO.lk e (fun a ha => n a (List.mem_append_right _ ha)) h3⟩
  | [], _ :: _, _, _, h => by cases h
  | _ :: _, [], _, _, h => by cases h
theorem EnvO.al {B H : Hp} : ∀ {σ : List (Option V)} {Γ : List (Option Ow)} {fp : List Addr}, EnvO B H σ Γ fp → ∀ a ∈ fp, (H a).isSome = true
  | [], [], _, h, a, ha => by rw [show _ = [] from h] at ha; cases ha
  | _ :: σ, none :: Γ, fp, h, a, ha => EnvO.al (σ := σ) (Γ := Γ) h a ha
  | v :: σ, some o :: Γ, fp, ⟨u, f, g, h0, h1, h2, h3⟩, a, ha => by
    subst h1
    exact (List.mem_append.mp ha).elim (o.al h2 a) (EnvO.al h3 a)
  | [], _ :: _, _, h, _, _ => by cases h
  | _ :: _, [], _, h, _, _ => by cases h
theorem EnvO.nt {B H : Hp} : ∀ {σ : List (Option V)} {Γ : List (Option Ow)} {fp : List Addr}, EnvO B H σ Γ fp → ∀ a ∈ fp, nTup H a
  | [], [], _, h, a, ha => by rw [show _ = [] from h] at ha; cases ha
  | _ :: σ, none :: Γ, fp, h, a, ha => EnvO.nt (σ := σ) (Γ := Γ) h a ha
  | v :: σ, some o :: Γ, fp, ⟨u, f, g, h0, h1, h2, h3⟩, a, ha => by
    subst h1
    exact (List.mem_append.mp ha).elim (o.nt h2 a) (EnvO.nt h3 a)
  | [], _ :: _, _, h, _, _ => by cases h
  | _ :: _, [], _, h, _, _ => by cases h
theorem EnvO.len {B H : Hp} : ∀ {σ : List (Option V)} {Γ : List (Option Ow)} {fp : List Addr}, EnvO B H σ Γ fp → σ.length = Γ.length
  | [], [], _, h => rfl
  | _ :: σ, none :: Γ, fp, h => by rw [List.length_cons, List.length_cons, EnvO.len (σ := σ) (Γ := Γ) h]
  | v :: σ, some o :: Γ, fp, ⟨u, f, g, h0, h1, h2, h3⟩ => by rw [List.length_cons, List.length_cons, EnvO.len h3]
  | [], _ :: _, _, h => by cases h
  | _ :: _, [], _, h => by cases h
theorem EnvO.get {B H : Hp} : ∀ {σ : List (Option V)} {Γ : List (Option Ow)} {fp : List Addr} {i : Nat} {o : Ow}, EnvO B H σ Γ fp → Γ[i]? = some (some o) → ∃ v f, σ[i]? = some (some v) ∧ o.rel B H v f ∧ ∀ a ∈ f, a ∈ fp
  | [], [], _, _, _, _, e => by simp at e
  | _ :: σ, none :: Γ, fp, 0, o, h, e => by simp at e
  | _ :: σ, none :: Γ, fp, i + 1, o, h, e => by
    simp only [List.getElem?_cons_succ] at e ⊢
    exact EnvO.get (σ := σ) (Γ := Γ) h e
  | v :: σ, some p :: Γ, fp, 0, o, ⟨u, f, g, h0, h1, h2, h3⟩, e => by
    simp only [List.getElem?_cons_zero, Option.some.injEq] at e ⊢
    subst e h0 h1
    exact ⟨u, f, rfl, h2, fun a ha => List.mem_append_left _ ha⟩
  | v :: σ, some p :: Γ, fp, i + 1, o, ⟨u, f, g, h0, h1, h2, h3⟩, e => by
    simp only [List.getElem?_cons_succ] at e ⊢
    subst h1
    obtain ⟨v', f', q1, q2, q3⟩ := EnvO.get h3 e
    exact ⟨v', f', q1, q2, fun a ha => List.mem_append_right _ (q3 a ha)⟩
  | [], _ :: _, _, _, _, h, _ => by cases h
  | _ :: _, [], _, _, _, h, _ => by cases h
end Q
/-! Q11: what an expression is worth, typed. -/
namespace Q
open PySem L2 PySem.Spec
/-- an error: its class, its fields -/
structure Ex where
  c : Nat
  fs : List (Str × V) := []
inductive Res (α : Type) where
  | ok (x : α) | exc (e : Ex) | bad
namespace Res
def bind {α β : Type} (m : Res α) (k : α → Res β) : Res β := match m with
  | .ok x => k x
  | .exc e => .exc e
  | .bad => .bad
instance : Monad Res where
  pure := .ok
  bind := bind
@[simp] theorem ok_bind {α β : Type} (x : α) (k : α → Res β) : (Res.ok x >>= k) = k x := rfl
@[simp] theorem exc_bind {α β : Type} (e : Ex) (k : α → Res β) : (Res.exc e >>= k) = .exc e := rfl
@[simp] theorem bad_bind {α β : Type} (k : α → Res β) : (Res.bad >>= k) = .bad := rfl
@[simp] theorem pure_eq {α : Type} (x : α) : (pure x : Res α) = .ok x := rfl
end Res
/-- a limit of the machine -/
def gd {α : Type} (b : Bool) (m : Res α) : Res α := match b with
  | true => m
  | false => .bad
@[simp] theorem gd_true {α : Type} (m : Res α) : gd true m = m := rfl
def Rz {α : Type} (m : Res α) (P : α → Prop) (E : Ex → Prop) : Prop := match m with
  | .ok x => P x
  | .exc e => E e
  | .bad => False
theorem rz_bind {α β : Type} {m : Res α} {k : α → Res β} {P : β → Prop} {E : Ex → Prop} : Rz (m >>= k) P E ↔ Rz m (fun x => Rz (k x) P E) E := by
  cases m <;> exact Iff.rfl
theorem rz_imp {α : Type} {m : Res α} {P P' : α → Prop} {E E' : Ex → Prop} (h : Rz m P E) (i : ∀ x, P x → P' x) (j : ∀ e, E e → E' e) : Rz m P' E' := by
  cases m with
  | ok x => exact i x h
  | exc e => exact j e h
  | bad => exact h
/-- the error as it stands in H', its fields new since H -/
def ExR (C : Kc) (x : Ex) (cls : Value) (dx : Option Addr) (H H' : Hp) : Prop := cls = .ref (C.cl x.c) ∧ ((x.fs = [] ∧ dx = none) ∨ ∃ d, dx = some d ∧ H' d = some (.xd x.fs) ∧ H d = none)
theorem none_back {H H1 : Hp} (s : Same H H1) {a : Addr} (e : H1 a = none) : H a = none := by
  cases q : H a with
  | none => rfl
  | some u => rw [s a u q] at e; cases e
theorem ExR.back {C : Kc} {x : Ex} {cls : Value} {dx : Option Addr} {H H1 H' : Hp} (s : Same H H1) (r : ExR C x cls dx H1 H') : ExR C x cls dx H H' := ⟨r.1, r.2.imp_right fun ⟨d, h1, h2, h3⟩ => ⟨d, h1, h2, none_back s h3⟩⟩
abbrev Cx0 := List (Option Ow)
/-- frozen things that came: they were frozen, or are new, or are tuples -/
def NewB (B H B' : Hp) : Prop := ∀ a o, B' a = some o → B a = some o ∨ H a = none ∨ (H a = some o ∧ tupB o = true)
theorem newB_refl (B H : Hp) : NewB B H B := fun _ _ e => .inl e
theorem newB_trans {B H B1 H1 B2 : Hp} (s : Same H H1) (a : NewB B H B1) (b : NewB B1 H1 B2) : NewB B H B2 := fun x o e => by
  rcases b x o e with h | h | ⟨h, t⟩
  · exact a x o h
  · right; left
    cases q : H x with
    | none => rfl
    | some u => rw [s x u q] at h; cases h
  · right
    cases q : H x with
    | none => exact .inl rfl
    | some u =>
      rw [s x u q] at h
      cases h
      exact .inr ⟨rfl, t⟩
/-- the names, as they are read -/
structure EnvC (Γ : Cx0) (σ : L2.St) (B H : Hp) : Prop where
  get : ∀ (i : Nat) (o : Ow), Γ[i]? = some (some o) → ∃ v f, σ[i]? = some (some v) ∧ o.rel B H v f
  sub : Same B H
  len : σ.length = Γ.length
theorem EnvC.up {Γ : Cx0} {σ : L2.St} {B H B' H' : Hp} (h : EnvC Γ σ B H) (b : Same B B') (g : Same H H') (s : Same B' H') : EnvC Γ σ B' H' where
  get := fun i o e => by
    obtain ⟨v, f, h1, h2⟩ := h.get i o e
    refine ⟨v, f, h1, o.mono b (fun a ha => ?_) h2⟩
    obtain ⟨u, hu⟩ := Option.isSome_iff_exists.mp (o.al h2 a ha)
    rw [hu, g a u hu]
  sub := s
  len := h.len

/-- where an expression goes on: the frozen heap B, then the heap H -/
structure Gon (B H B' H' : Hp) : Prop where
  b : Same B B'
  h : Same H H'
  s : Same B' H'
  n : NewB B H B'
theorem Gon.refl {B H : Hp} (s : Same B H) : Gon B H B H := ⟨sm_refl _, sm_refl _, s, newB_refl _ _⟩
theorem Gon.trans {B H B1 H1 B2 H2 : Hp} (a : Gon B H B1 H1) (b : Gon B1 H1 B2 H2) : Gon B H B2 H2 := ⟨sm_trans a.b b.b, sm_trans a.h b.h, b.s, newB_trans a.h a.n b.n⟩
theorem Gon.up {B H H' : Hp} (s : Same B H) (g : Same H H') : Gon B H B H' := ⟨sm_refl _, g, sm_trans s g, newB_refl _ _⟩
/-- what a worth says of the value: x, B, H ahead, B', H' behind, v -/
abbrev PR (α : Type) := α → Hp → Hp → Hp → Hp → V → Prop
abbrev pB {α : Type} (τ : α → Vw) : PR α := fun x _ _ _ H' v => (τ x).rel H' v
abbrev pO {α : Type} (τ : α → Ow) : PR α := fun x _ H B' H' v => ∃ fp, (τ x).rel B' H' v fp ∧ fp.Nodup ∧ ∀ a ∈ fp, H a = none ∧ B' a = none
abbrev pP {α : Type} (τ : α → Ow) : PR α := fun x _ _ B' H' v => ∃ fp, (τ x).rel B' H' v fp
/-- exceptions that leave -/
def ExK (C : Kc) (W : WX) (σ : L2.St) (H : Hp) (e : Ex) : Prop := ∀ cls d H', Same H H' → ExR C e cls d H H' → W cls d σ H'
theorem ExK.up {C : Kc} {W : WX} {σ : L2.St} {H H' : Hp} {e : Ex} (h : ExK C W σ H e) (g : Same H H') : ExK C W σ H' e := fun cls d H2 s r => h cls d H2 (sm_trans g s) (r.back g)
def Ev {α : Type} (T : Tb) (C : Kc) (P : PR α) (Γ : Cx0) (e : E) (m : Res α) : Prop :=
  ∀ (W : WX) (σ : L2.St) (B H : Hp) (Q : VK), EnvC Γ σ B H → Rz m (fun x => ∀ v B' H', Gon B H B' H' → P x B H B' H' v → Q v H') (ExK C W σ H) → (rd T C e W).E σ H Q
abbrev EvB {α : Type} (T : Tb) (C : Kc) (Γ : Cx0) (e : E) (τ : α → Vw) (m : Res α) : Prop := Ev T C (pB τ) Γ e m
abbrev EvO {α : Type} (T : Tb) (C : Kc) (Γ : Cx0) (e : E) (τ : α → Ow) (m : Res α) : Prop := Ev T C (pO τ) Γ e m
abbrev EvP {α : Type} (T : Tb) (C : Kc) (Γ : Cx0) (e : E) (τ : α → Ow) (m : Res α) : Prop := Ev T C (pP τ) Γ e m
def EvT (T : Tb) (C : Kc) (Γ : Cx0) (e : E) (m : Res Bool) : Prop :=
  ∀ (W : WX) (σ : L2.St) (B H : Hp) (Q : Bool → Hp → Prop), EnvC Γ σ B H → Rz m (fun x => ∀ B' H', Gon B H B' H' → Q x H') (ExK C W σ H) → (rd T C e W).T σ H Q
section
variable {T : Tb} {C : Kc} {Γ : Cx0} {α β γ δ : Type}
theorem Ev.imp {P P' : PR α} {e : E} {m : Res α} (h : Ev T C P Γ e m) (i : ∀ x B H B' H' v, Same B' H' → P x B H B' H' v → P' x B H B' H' v) : Ev T C P' Γ e m :=
  fun W σ B H Q g z => h W σ B H Q g (rz_imp z (fun x q v B' H' o p => q v B' H' o (i x B H B' H' v o.s p)) fun _ z => z)
/-- seen: what one has may be read -/
theorem ev_seen {τ : α → Ow} {e : E} {m : Res α} (h : EvP T C Γ e τ m) : EvB T C Γ e (fun x => (τ x).vw) m := h.imp fun x B H B' H' v s ⟨fp, r⟩ => (τ x).sub s (fun a ha => rfl) r
theorem ev_peek {τ : α → Ow} {e : E} {m : Res α} (h : EvO T C Γ e τ m) : EvP T C Γ e τ m := h.imp fun x B H B' H' v s ⟨fp, r, _⟩ => ⟨fp, r⟩
/-- a frozen thing that is found -/
theorem ev_take {τ : α → Vw} {e : E} {m : Res α} (h : EvP T C Γ e (fun x => oV (τ x)) m) : EvO T C Γ e (fun x => oV (τ x)) m := h.imp fun x B H B' H' v s ⟨fp, r⟩ => ⟨fp, r, by rw [r.2]; exact List.nodup_nil, by rw [r.2]; exact fun _ z => nomatch z⟩
/-- no heap is in it -/
class Flat (τ : α → Vw) : Prop where
  fl : ∀ x B B' v, (τ x).rel B v → (τ x).rel B' v
instance : Flat vInt := ⟨fun _ _ _ _ h => h⟩
instance : Flat vBl := ⟨fun _ _ _ _ h => h⟩
instance : Flat vStr := ⟨fun _ _ _ _ h => h⟩
instance : Flat vNon := ⟨fun _ _ _ _ h => h⟩
instance {τ : α → Vw} [i : Flat τ] : Flat (vOpt τ) := ⟨fun x B B' v h => match x, h with
  | none, h => h
  | some x, h => i.fl x B B' v h⟩
theorem ev_flat {τ : α → Vw} [i : Flat τ] {e : E} {m : Res α} (h : EvB T C Γ e τ m) : EvO T C Γ e (fun x => oV (τ x)) m := h.imp fun x B H B' H' v s r => ⟨[], ⟨i.fl x _ _ v r, rfl⟩, List.nodup_nil, fun _ z => nomatch z⟩
theorem ev_eq {P : PR α} {e : E} {m m' : Res α} (h : Ev T C P Γ e m) (q : m = m') : Ev T C P Γ e m' := q ▸ h
/-! names, constants -/
theorem evP_var {i : Nat} {o : Ow} (h : Γ[i]? = some (some o)) : EvP T C Γ (.var i) (fun _ : Unit => o) (.ok ()) := fun W σ B H Q g z => by
  obtain ⟨v, f, h1, h2⟩ := g.get i o h
  exact ⟨v, h1, z v B H (.refl g.sub) ⟨f, h2⟩⟩
theorem evP_v {τ : α → Ow} {x : α} {i : Nat} (h : Γ[i]? = some (some (τ x))) : EvP T C Γ (.var i) τ (.ok x) := fun W σ B H Q g z => by
  obtain ⟨v, f, h1, h2⟩ := g.get i _ h
  exact ⟨v, h1, z v B H (.refl g.sub) ⟨f, h2⟩⟩
theorem evO_v {τ : α → Vw} {x : α} {i : Nat} (h : Γ[i]? = some (some (oV (τ x)))) : EvO T C Γ (.var i) (fun x => oV (τ x)) (.ok x) := ev_take (evP_v (τ := fun x => oV (τ x)) h)
theorem evB_v {τ : α → Ow} {x : α} {i : Nat} (h : Γ[i]? = some (some (τ x))) : EvB T C Γ (.var i) (fun x => (τ x).vw) (.ok x) := ev_seen (evP_v h)
theorem evB_vV {τ : α → Vw} {x : α} {i : Nat} (h : Γ[i]? = some (some (oV (τ x)))) : EvB T C Γ (.var i) τ (.ok x) := evB_v (τ := fun x => oV (τ x)) h
theorem ev_int (n : Int) : EvB T C Γ (.int n) vInt (.ok n) := fun W σ B H Q g z => z _ B H (.refl g.sub) rfl
theorem ev_str (n : Str) : EvB T C Γ (.str n) vStr (.ok n) := fun W σ B H Q g z => z _ B H (.refl g.sub) rfl
theorem ev_bl (n : Bool) : EvB T C Γ (.bl n) vBl (.ok n) := fun W σ B H Q g z => z _ B H (.refl g.sub) rfl
theorem ev_non : EvB T C Γ .non vNon (.ok ()) := fun W σ B H Q g z => z _ B H (.refl g.sub) rfl
theorem ev_none {τ : α → Vw} : EvB T C Γ .non (vOpt τ) (.ok none) := fun W σ B H Q g z => z _ B H (.refl g.sub) rfl
theorem ev_some {τ : α → Vw} {e : E} {m : Res α} (h : EvB T C Γ e τ m) : EvB T C Γ e (vOpt τ) (m >>= fun x => .ok (some x)) := fun W σ B H Q g z => h W σ B H Q g (rz_bind.mp z)
theorem ev_glo {n : Nat} {v : V} (h : C.gl n = v) {τ : α → Vw} {x : α} (r : ∀ H, (τ x).rel H v) : EvB T C Γ (.glo n) τ (.ok x) := fun W σ B H Q g z => by
  show Q (C.gl n) H
  rw [h]
  exact z _ B H (.refl g.sub) (r H)
/-! operations of two values -/
def NoX (m : Res α) : Prop := ∀ e, m ≠ .exc e
theorem nox_ok {x : α} : NoX (Res.ok x) := fun _ z => by cases z
theorem nox_gd {b : Bool} {m : Res α} (h : NoX m) : NoX (gd b m) := by
  cases b with
  | true => exact h
  | false => exact fun _ z => by cases z
/-- an operation's worth z, said of Q -/
def Say {γ : Type} (P : PR γ) (B H : Hp) (m : Res γ) (Q : VK) : Prop := Rz m (fun z => ∀ u B' H', Gon B H B' H' → P z B H B' H' u → Q u H') fun _ => False
theorem say_gd {P : PR γ} {B H : Hp} {b : Bool} {m : Res γ} {Q : VK} (h : Say P B H (gd b m) Q) : b = true ∧ Say P B H m Q := by
  cases b with
  | true => exact ⟨rfl, h⟩
  | false => exact h.elim
/-- what an operation says of two read values -/
structure Op2 (r : R2) (τ : α → Vw) (τ' : β → Vw) (P : PR γ) (op : α → β → Res γ) : Prop where
  no : ∀ x y, NoX (op x y)
  run : ∀ x y (B H : Hp) v w Q, Same B H → (τ x).rel H v → (τ' y).rel H w → Say P B H (op x y) Q → r v w H Q
structure Op1 (r : V → Hp → VK → Prop) (τ : α → Vw) (P : PR γ) (op : α → Res γ) : Prop where
  no : ∀ x, NoX (op x)
  run : ∀ x (B H : Hp) v Q, Same B H → (τ x).rel H v → Say P B H (op x) Q → r v H Q
/-- a worth's claim stays, seen from further back -/
class Back (P : PR α) : Prop where
  bk : ∀ x B H B1 H1 B2 H2 v, Gon B H B1 H1 → P x B1 H1 B2 H2 v → P x B H B2 H2 v
instance {τ : α → Vw} : Back (pB τ) := ⟨fun _ _ _ _ _ _ _ _ _ p => p⟩
instance {τ : α → Ow} : Back (pP τ) := ⟨fun _ _ _ _ _ _ _ _ _ p => p⟩
instance {τ : α → Ow} : Back (pO τ) := ⟨fun _ _ _ _ _ _ _ _ g ⟨fp, r, n, f⟩ => ⟨fp, r, n, fun a ha => ⟨none_back g.h (f a ha).1, (f a ha).2⟩⟩⟩
theorem say_back {P : PR γ} [Back P] {B H B1 H1 : Hp} {m : Res γ} {Q : VK} {E : Ex → Prop} (no : NoX m) (g : Gon B H B1 H1) (z : Rz m (fun x => ∀ v B' H', Gon B H B' H' → P x B H B' H' v → Q v H') E) : Say P B1 H1 m Q := by
  cases m with
  | ok c => exact fun u B3 H3 g3 p3 => z u B3 H3 (g.trans g3) (Back.bk c B H B1 H1 B3 H3 u g p3)
  | exc e => exact absurd rfl (no e)
  | bad => exact z
theorem ev_op2 {a b : E} {e : E} {τ : α → Vw} {τ' : β → Vw} {P : PR γ} [Back P] {op : α → β → Res γ} {ma : Res α} {mb : Res β} {r : R2} (he : ∀ W, (rd T C e W).E = tOp r (rd T C a W).E (rd T C b W).E) (ha : EvB T C Γ a τ ma) (hb : EvB T C Γ b τ' mb) (ho : Op2 r τ τ' P op) :
    Ev T C P Γ e (ma >>= fun x => mb >>= fun y => op x y) := fun W σ B H Q g z => by
  rw [he]
  refine ha W σ B H _ g (rz_imp (rz_bind.mp z) (fun x z v B1 H1 g1 p1 => ?_) fun _ z => z)
  refine hb W σ B1 H1 _ (g.up g1.b g1.h g1.s) (rz_imp (rz_bind.mp z) (fun y z w B2 H2 g2 p2 => ?_) fun _ z => z.up g1.h)
  refine ho.run x y B2 H2 v w Q g2.s ((τ x).mono g2.h p1) p2 (say_back (ho.no x y) (g1.trans g2) z)
theorem ev_op1 {a : E} {e : E} {τ : α → Vw} {P : PR γ} [Back P] {op : α → Res γ} {ma : Res α} {r : V → Hp → VK → Prop} (he : ∀ W, (rd T C e W).E = tUn r (rd T C a W).E) (ha : EvB T C Γ a τ ma) (ho : Op1 r τ P op) :
    Ev T C P Γ e (ma >>= fun x => op x) := fun W σ B H Q g z => by
  rw [he]
  refine ha W σ B H _ g (rz_imp (rz_bind.mp z) (fun x z v B1 H1 g1 p1 => ?_) fun _ z => z)
  exact ho.run x B1 H1 v Q g1.s p1 (say_back (ho.no x) g1 z)
/-! built-in functions of one thing, of two -/
theorem ev_blt1 {a : E} {f : Blt} {τ : α → Vw} {P : PR γ} [Back P] {op : α → Res γ} {ma : Res α} (ha : EvB T C Γ a τ ma) (ho : Op1 (fun v H Q => rBlt C.K f [v] H Q) τ P op) : Ev T C P Γ (.blt f (.cons a .nil)) (ma >>= fun x => op x) := fun W σ B H Q g z => by
  show (rd T C a W).E σ H _
  refine ha W σ B H _ g (rz_imp (rz_bind.mp z) (fun x z v B1 H1 g1 p1 => ?_) fun _ z => z)
  exact ho.run x B1 H1 v Q g1.s p1 (say_back (ho.no x) g1 z)
theorem ev_blt2 {a b : E} {f : Blt} {τ : α → Vw} {τ' : β → Vw} {P : PR γ} [Back P] {op : α → β → Res γ} {ma : Res α} {mb : Res β} (ha : EvB T C Γ a τ ma) (hb : EvB T C Γ b τ' mb) (ho : Op2 (fun v w H Q => rBlt C.K f [v, w] H Q) τ τ' P op) :
    Ev T C P Γ (.blt f (.cons a (.cons b .nil))) (ma >>= fun x => mb >>= fun y => op x y) := fun W σ B H Q g z => by
  show (rd T C a W).E σ H _
  refine ha W σ B H _ g (rz_imp (rz_bind.mp z) (fun x z v B1 H1 g1 p1 => ?_) fun _ z => z)
  show (rd T C b W).E σ H1 _
  refine hb W σ B1 H1 _ (g.up g1.b g1.h g1.s) (rz_imp (rz_bind.mp z) (fun y z w B2 H2 g2 p2 => ?_) fun _ z => z.up g1.h)
  exact ho.run x y B2 H2 v w Q g2.s ((τ x).mono g2.h p1) p2 (say_back (ho.no x y) (g1.trans g2) z)
/-! methods of built-in things -/
theorem ev_bm0 {a : E} {f : Bm} {τ : α → Vw} {P : PR γ} [Back P] {op : α → Res γ} {ma : Res α} (ha : EvB T C Γ a τ ma) (hty : ∀ x H v, (τ x).rel H v → tyV C.K (bmT f) v H) (ho : Op1 (fun v H Q => rBm C.K f v [] H Q) τ P op) : Ev T C P Γ (.bm f a .nil) (ma >>= fun x => op x) := fun W σ B H Q g z => by
  show (rd T C a W).E σ H _
  refine ha W σ B H _ g (rz_imp (rz_bind.mp z) (fun x z v B1 H1 g1 p1 => ?_) fun _ z => z)
  exact ⟨hty x H1 v p1, ho.run x B1 H1 v Q g1.s p1 (say_back (ho.no x) g1 z)⟩
theorem ev_bm1 {a b : E} {f : Bm} {τ : α → Vw} {τ' : β → Vw} {P : PR γ} [Back P] {op : α → β → Res γ} {ma : Res α} {mb : Res β} (ha : EvB T C Γ a τ ma) (hb : EvB T C Γ b τ' mb) (hty : ∀ x H v, (τ x).rel H v → tyV C.K (bmT f) v H) (ho : Op2 (fun v w H Q => rBm C.K f v [w] H Q) τ τ' P op) :
    Ev T C P Γ (.bm f a (.cons b .nil)) (ma >>= fun x => mb >>= fun y => op x y) := fun W σ B H Q g z => by
  show (rd T C a W).E σ H _
  refine ha W σ B H _ g (rz_imp (rz_bind.mp z) (fun x z v B1 H1 g1 p1 => ?_) fun _ z => z)
  refine ⟨hty x H1 v p1, ?_⟩
  show (rd T C b W).E σ H1 _
  refine hb W σ B1 H1 _ (g.up g1.b g1.h g1.s) (rz_imp (rz_bind.mp z) (fun y z w B2 H2 g2 p2 => ?_) fun _ z => z.up g1.h)
  exact ho.run x y B2 H2 v w Q g2.s ((τ x).mono g2.h p1) p2 (say_back (ho.no x y) (g1.trans g2) z)
/-! tests -/
theorem ev_test {e : E} {m : Res Bool} (h : EvB T C Γ e vBl m) (ht : ∀ W, (rd T C e W).T = tB (rd T C e W).E := by intro W; rfl) : EvT T C Γ e m := fun W σ B H Q g z => by
  rw [ht]
  exact h W σ B H _ g (rz_imp z (fun x q v B' H' g1 p => ⟨x, p, q B' H' g1⟩) fun _ z => z)
theorem ev_notT {a : E} {m : Res Bool} (h : EvT T C Γ a m) : EvT T C Γ (.nt a) (m >>= fun b => .ok (!b)) := fun W σ B H Q g z => h W σ B H _ g (rz_bind.mp z)
theorem ev_notB {a : E} {m : Res Bool} (h : EvB T C Γ a vBl m) : EvB T C Γ (.nt a) vBl (m >>= fun b => .ok (!b)) := fun W σ B H Q g z =>
  h W σ B H _ g (rz_imp (rz_bind.mp z) (fun x q v B' H' g1 p => ⟨x, p, q _ B' H' g1 rfl⟩) fun _ z => z)
/-- the operands of an and, an or: as a test, as a value -/
def EvAT (T : Tb) (C : Kc) (Γ : Cx0) (e : E) (m : Res Bool) : Prop := ∀ (W : WX) (σ : L2.St) (B H : Hp) (Q : Bool → Hp → Prop), EnvC Γ σ B H → Rz m (fun x => ∀ B' H', Gon B H B' H' → Q x H') (ExK C W σ H) → (rd T C e W).A σ H Q
def EvRT (T : Tb) (C : Kc) (Γ : Cx0) (e : E) (m : Res Bool) : Prop := ∀ (W : WX) (σ : L2.St) (B H : Hp) (Q : Bool → Hp → Prop), EnvC Γ σ B H → Rz m (fun x => ∀ B' H', Gon B H B' H' → Q x H') (ExK C W σ H) → (rd T C e W).R σ H Q
theorem ev_andT {es : E} {m : Res Bool} (h : EvAT T C Γ es m) : EvT T C Γ (.and es) m := h
theorem ev_orT {es : E} {m : Res Bool} (h : EvRT T C Γ es m) : EvT T C Γ (.or es) m := h
theorem ev_a1 {a : E} {m : Res Bool} (h : EvT T C Γ a m) : EvAT T C Γ (.cons a .nil) m := h
theorem ev_r1 {a : E} {m : Res Bool} (h : EvT T C Γ a m) : EvRT T C Γ (.cons a .nil) m := h
def andR (m n : Res Bool) : Res Bool := m >>= fun b => cond b n (.ok false)
def orR (m n : Res Bool) : Res Bool := m >>= fun b => cond b (.ok true) n
@[simp] theorem andR_t (n : Res Bool) : andR (.ok true) n = n := rfl
@[simp] theorem andR_f (n : Res Bool) : andR (.ok false) n = .ok false := rfl
@[simp] theorem orR_t (n : Res Bool) : orR (.ok true) n = .ok true := rfl
@[simp] theorem orR_f (n : Res Bool) : orR (.ok false) n = n := rfl
theorem ev_a2 {a b es : E} {m n : Res Bool} (h : EvT T C Γ a m) (h2 : EvAT T C Γ (.cons b es) n) : EvAT T C Γ (.cons a (.cons b es)) (andR m n) := fun W σ B H Q g z => by
  show (tAnd (rd T C a W).T (rd T C (.cons b es) W).A) σ H Q
  refine h W σ B H _ g (rz_imp (rz_bind.mp z) (fun x q B1 H1 g1 => ?_) fun _ z => z)
  cases x with
  | true => exact h2 W σ B1 H1 Q (g.up g1.b g1.h g1.s) (rz_imp q (fun x q B2 H2 g2 => q B2 H2 (g1.trans g2)) fun _ z => z.up g1.h)
  | false => exact q B1 H1 g1
theorem ev_r2 {a b es : E} {m n : Res Bool} (h : EvT T C Γ a m) (h2 : EvRT T C Γ (.cons b es) n) : EvRT T C Γ (.cons a (.cons b es)) (orR m n) := fun W σ B H Q g z => by
  show (tOr (rd T C a W).T (rd T C (.cons b es) W).R) σ H Q
  refine h W σ B H _ g (rz_imp (rz_bind.mp z) (fun x q B1 H1 g1 => ?_) fun _ z => z)
  cases x with
  | false => exact h2 W σ B1 H1 Q (g.up g1.b g1.h g1.s) (rz_imp q (fun x q B2 H2 g2 => q B2 H2 (g1.trans g2)) fun _ z => z.up g1.h)
  | true => exact q B1 H1 g1
def EvAV (T : Tb) (C : Kc) (Γ : Cx0) (e : E) (m : Res Bool) : Prop := ∀ (W : WX) (σ : L2.St) (B H : Hp) (Q : VK), EnvC Γ σ B H → Rz m (fun x => ∀ B' H', Gon B H B' H' → Q (.bl x) H') (ExK C W σ H) → (rd T C e W).AV σ H Q
def EvRV (T : Tb) (C : Kc) (Γ : Cx0) (e : E) (m : Res Bool) : Prop := ∀ (W : WX) (σ : L2.St) (B H : Hp) (Q : VK), EnvC Γ σ B H → Rz m (fun x => ∀ B' H', Gon B H B' H' → Q (.bl x) H') (ExK C W σ H) → (rd T C e W).RV σ H Q
theorem ev_andV {es : E} {m : Res Bool} (h : EvAV T C Γ es m) : EvB T C Γ (.and es) vBl m := fun W σ B H Q g z => h W σ B H Q g (rz_imp z (fun x q B' H' g1 => q _ B' H' g1 rfl) fun _ z => z)
theorem ev_orV {es : E} {m : Res Bool} (h : EvRV T C Γ es m) : EvB T C Γ (.or es) vBl m := fun W σ B H Q g z => h W σ B H Q g (rz_imp z (fun x q B' H' g1 => q _ B' H' g1 rfl) fun _ z => z)
theorem ev_av1 {a : E} {m : Res Bool} (h : EvB T C Γ a vBl m) : EvAV T C Γ (.cons a .nil) m := fun W σ B H Q g z => h W σ B H Q g (rz_imp z (fun x q v B' H' g1 p => by cases p; exact q B' H' g1) fun _ z => z)
theorem ev_rv1 {a : E} {m : Res Bool} (h : EvB T C Γ a vBl m) : EvRV T C Γ (.cons a .nil) m := fun W σ B H Q g z => h W σ B H Q g (rz_imp z (fun x q v B' H' g1 p => by cases p; exact q B' H' g1) fun _ z => z)
theorem ev_av2 {a b es : E} {m n : Res Bool} (h : EvB T C Γ a vBl m) (h2 : EvAV T C Γ (.cons b es) n) : EvAV T C Γ (.cons a (.cons b es)) (andR m n) := fun W σ B H Q g z => by
  show (tAndV (rd T C a W).E (rd T C (.cons b es) W).AV) σ H Q
  refine h W σ B H _ g (rz_imp (rz_bind.mp z) (fun x q v B1 H1 g1 p => ⟨x, p, ?_⟩) fun _ z => z)
  cases x with
  | true => exact h2 W σ B1 H1 Q (g.up g1.b g1.h g1.s) (rz_imp q (fun x q B2 H2 g2 => q B2 H2 (g1.trans g2)) fun _ z => z.up g1.h)
  | false => exact q B1 H1 g1
theorem ev_rv2 {a b es : E} {m n : Res Bool} (h : EvB T C Γ a vBl m) (h2 : EvRV T C Γ (.cons b es) n) : EvRV T C Γ (.cons a (.cons b es)) (orR m n) := fun W σ B H Q g z => by
  show (tOrV (rd T C a W).E (rd T C (.cons b es) W).RV) σ H Q
  refine h W σ B H _ g (rz_imp (rz_bind.mp z) (fun x q v B1 H1 g1 p => ⟨x, p, ?_⟩) fun _ z => z)
  cases x with
  | false => exact h2 W σ B1 H1 Q (g.up g1.b g1.h g1.s) (rz_imp q (fun x q B2 H2 g2 => q B2 H2 (g1.trans g2)) fun _ z => z.up g1.h)
  | true => exact q B1 H1 g1
/-- a if t else b -/
def iteR {δ : Type} (m : Res Bool) (a b : Res δ) : Res δ := m >>= fun c => cond c a b
@[simp] theorem iteR_t {δ : Type} (a b : Res δ) : iteR (.ok true) a b = a := rfl
@[simp] theorem iteR_f {δ : Type} (a b : Res δ) : iteR (.ok false) a b = b := rfl
theorem ev_ife {P : PR γ} [Back P] {t a b : E} {m : Res Bool} {ma mb : Res γ} (h : EvT T C Γ t m) (ha : Ev T C P Γ a ma) (hb : Ev T C P Γ b mb) : Ev T C P Γ (.ife t a b) (iteR m ma mb) := fun W σ B H Q g z => by
  refine h W σ B H _ g (rz_imp (rz_bind.mp z) (fun x q B1 H1 g1 => ?_) fun _ z => z)
  cases x with
  | true => exact ha W σ B1 H1 Q (g.up g1.b g1.h g1.s) (rz_imp q (fun x q v B2 H2 g2 p => q v B2 H2 (g1.trans g2) (Back.bk x B H B1 H1 B2 H2 v g1 p)) fun _ z => z.up g1.h)
  | false => exact hb W σ B1 H1 Q (g.up g1.b g1.h g1.s) (rz_imp q (fun x q v B2 H2 g2 p => q v B2 H2 (g1.trans g2) (Back.bk x B H B1 H1 B2 H2 v g1 p)) fun _ z => z.up g1.h)
/-- a < b < c -/
theorem ev_chn {a b d : E} {o p : CmpOp} {τ : α → Vw} {τ' : β → Vw} {τ'' : γ → Vw} {f : α → β → Res Bool} {f' : β → γ → Res Bool} {ma : Res α} {mb : Res β} {md : Res γ} (ha : EvB T C Γ a τ ma) (hb : EvB T C Γ b τ' mb) (hd : EvB T C Γ d τ'' md)
    (ho : Op2 (rCmp C.K o) τ τ' (pB vBl) f) (ho' : Op2 (rCmp C.K p) τ' τ'' (pB vBl) f') : EvB T C Γ (.chn o p a b d) vBl (ma >>= fun x => mb >>= fun y => andR (f x y) (md >>= fun z => f' y z)) := fun W σ B H Q g z => by
  show (tChain _ _ _ _ _) σ H Q
  refine ha W σ B H _ g (rz_imp (rz_bind.mp z) (fun x z v B1 H1 g1 p1 => ?_) fun _ z => z)
  refine hb W σ B1 H1 _ (g.up g1.b g1.h g1.s) (rz_imp (rz_bind.mp z) (fun y z w B2 H2 g2 p2 => ?_) fun _ z => z.up g1.h)
  have z3 := rz_bind.mp z
  refine ho.run x y B2 H2 v w _ g2.s ((τ x).mono g2.h p1) p2 ?_
  have no := ho.no x y
  cases q : f x y with
  | exc e => exact absurd q (no e)
  | bad => rw [q] at z3; exact z3
  | ok c =>
    rw [q] at z3
    rintro u B3 H3 g3 rfl
    refine ⟨c, rfl, ?_⟩
    cases c with
    | false => exact z3 _ B3 H3 ((g1.trans g2).trans g3) rfl
    | true =>
      refine hd W σ B3 H3 _ (g.up ((g1.trans g2).trans g3).b ((g1.trans g2).trans g3).h g3.s) (rz_imp (rz_bind.mp z3) (fun z z4 u B4 H4 g4 p4 => ?_) fun _ z => z.up ((g1.trans g2).trans g3).h)
      exact ho'.run y z B4 H4 w u Q g4.s ((τ' y).mono g4.h ((τ' y).mono g3.h p2)) p4 (say_back (ho'.no y z) (((g1.trans g2).trans g3).trans g4) z4)
end
end Q
/-! Q12: the operations, typed. -/
namespace Q
open PySem L2 PySem.Spec
section
variable {T : Tb} {C : Kc} {Γ : Cx0} {α β γ δ : Type}
theorem say_ok {P : PR γ} {B H : Hp} {x : γ} {Q : VK} (s : Same B H) (h : Say P B H (.ok x) Q) {u : V} (p : P x B H B H u) : Q u H := h u B H (.refl s) p
theorem op2_i0 {r : R2} {g : Int → Int → V} {τ : γ → Vw} {f : Int → Int → γ} (hr : ∀ x y H Q, rI0 g x y H Q → r x y H Q) (hg : ∀ i j H, (τ (f i j)).rel H (g i j)) : Op2 r vInt vInt (pB τ) fun i j => .ok (f i j) where
  no := fun _ _ => nox_ok
  run := fun i j B H v w Q s h1 h2 q => hr _ _ _ _ ⟨i, j, h1, h2, say_ok s q (hg i j H)⟩
theorem op2_i {r : R2} {c : Int → Int → Bool} {g : Int → Int → V} {P : Int → Int → Prop} {τ : γ → Vw} {f : Int → Int → γ} (hr : ∀ x y H Q, rI P g x y H Q → r x y H Q) (hc : ∀ i j, c i j = true → P i j) (hg : ∀ i j H, (τ (f i j)).rel H (g i j)) : Op2 r vInt vInt (pB τ) fun i j => gd (c i j) (.ok (f i j)) where
  no := fun _ _ => nox_gd nox_ok
  run := fun i j B H v w Q s h1 h2 q => hr _ _ _ _ ⟨i, j, h1, h2, hc i j (say_gd q).1, say_ok s (say_gd q).2 (hg i j H)⟩
theorem op_addI : Op2 (rBin C.K .Add) vInt vInt (pB vInt) fun i j => .ok (i + j) := op2_i0 (g := fun i j => .int (i + j)) (fun _ _ _ _ h => .inl h) fun _ _ _ => rfl
theorem op_subI : Op2 (rBin C.K .Sub) vInt vInt (pB vInt) fun i j => .ok (i - j) := op2_i0 (g := fun i j => .int (i - j)) (fun _ _ _ _ h => h) fun _ _ _ => rfl
def mulB (i j : Int) : Bool := decide ((Builtin.Int.intBits i : Int) + (Builtin.Int.intBits j : Int) ≤ 134217728)
theorem op_mulI : Op2 (rBin C.K .Mult) vInt vInt (pB vInt) fun i j => gd (mulB i j) (.ok (i * j)) := op2_i (g := fun i j => .int (i * j)) (fun _ _ _ _ h => h) (fun i j h => by unfold CMulX; exact of_decide_eq_true h) fun _ _ _ => rfl
theorem op_divI : Op2 (rBin C.K .FloorDiv) vInt vInt (pB vInt) fun i j => gd (divOk j) (.ok (i.fdiv j)) := op2_i (g := fun i j => .int (i.fdiv j)) (fun _ _ _ _ h => h) (fun _ _ h => h) fun _ _ _ => rfl
theorem op_modI : Op2 (rBin C.K .Mod) vInt vInt (pB vInt) fun i j => gd (!decide (j = 0)) (.ok (i.fmod j)) := op2_i (g := fun i j => .int (i.fmod j)) (fun _ _ _ _ h => h) (fun _ _ h => by simpa using h) fun _ _ _ => rfl
def powB (i j : Int) : Bool := decide (0 ≤ j) && decide (j ≤ 1000000) && decide (i.natAbs < 2 ^ 64)
theorem op_powI : Op2 (rBin C.K .Pow) vInt vInt (pB vInt) fun i j => gd (powB i j) (.ok (i ^ j.toNat)) := op2_i (g := fun i j => .int (i ^ j.toNat)) (fun _ _ _ _ h => h) (fun i j h => by
  unfold powB at h
  simp only [Bool.and_eq_true, decide_eq_true_eq] at h
  exact ⟨h.1.1, h.1.2, h.2⟩) fun _ _ _ => rfl
theorem op_neg : Op1 (rU fun i => .int (-i)) vInt (pB vInt) fun i => .ok (-i) where
  no := fun _ => nox_ok
  run := fun i B H v Q s h1 q => ⟨i, h1, say_ok s q rfl⟩
theorem op_addS : Op2 (rBin C.K .Add) vStr vStr (pB vStr) fun i j => gd (decide (i.length + j.length ≤ sizeLine)) (.ok (i ++ j)) where
  no := fun _ _ => nox_gd nox_ok
  run := fun i j B H v w Q s h1 h2 q => .inr (.inl ⟨i, j, h1, h2, of_decide_eq_true (say_gd q).1, say_ok s (say_gd q).2 rfl⟩)
theorem op_lt : Op2 (rCmp C.K .Lt) vInt vInt (pB vBl) fun i j => .ok (decide (i < j)) := op2_i0 (g := fun i j => .bl (decide (i < j))) (fun _ _ _ _ h => h) fun _ _ _ => rfl
theorem op_le : Op2 (rCmp C.K .LtE) vInt vInt (pB vBl) fun i j => .ok (decide (i ≤ j)) := op2_i0 (g := fun i j => .bl (decide (i ≤ j))) (fun _ _ _ _ h => h) fun _ _ _ => rfl
theorem op_gt : Op2 (rCmp C.K .Gt) vInt vInt (pB vBl) fun i j => .ok (decide (j < i)) := op2_i0 (g := fun i j => .bl (decide (j < i))) (fun _ _ _ _ h => h) fun _ _ _ => rfl
theorem op_ge : Op2 (rCmp C.K .GtE) vInt vInt (pB vBl) fun i j => .ok (decide (j ≤ i)) := op2_i0 (g := fun i j => .bl (decide (j ≤ i))) (fun _ _ _ _ h => h) fun _ _ _ => rfl
/-! == -/
/-- a view as plain data -/
class Pd (C : Kc) (τ : α → Vw) (pd : outParam (α → PyData)) : Prop where
  dp : ∀ x H v, (τ x).rel H v → Dp C.K H v (pd x)
instance : Pd C vInt PyData.int := ⟨fun x H v h => by cases h; exact .int x⟩
instance : Pd C vBl PyData.bool := ⟨fun x H v h => by cases h; exact .bl x⟩
instance : Pd C vStr PyData.str := ⟨fun x H v h => by cases h; exact .str x⟩
instance : Pd C vNon (fun _ => PyData.none) := ⟨fun x H v h => by cases h; exact .non⟩
def pdOpt (pd : α → PyData) : Option α → PyData
  | none => .none
  | some x => pd x
instance {τ : α → Vw} {pd : α → PyData} [i : Pd C τ pd] : Pd C (vOpt τ) (pdOpt pd) := ⟨fun x H v h => match x, h with
  | none, h => by cases h; exact .non
  | some x, h => i.dp x H v h⟩
theorem dp_all {H : Hp} {τ : α → Vw} {pd : α → PyData} [i : Pd C τ pd] : ∀ {xs : List α} {vs : List V}, VwL H vs (xs.map τ) → DpAll C.K H vs (xs.map pd)
  | [], _, .nil => .nil
  | x :: xs, _, .cons h l => .cons (i.dp x H _ h) (dp_all l)
instance {τ : α → Vw} {pd : α → PyData} [i : Pd C τ pd] : Pd C (vL C τ) (fun xs => .list (xs.map pd)) := ⟨fun x H v ⟨p, vs, h1, h2, h3⟩ => by subst h1; exact .lst h2 (dp_all h3)⟩
/-- plain data side by side -/
def PdL (C : Kc) (ws : List Vw) (ds : List PyData) : Prop := ∀ H vs, VwL H vs ws → DpAll C.K H vs ds
theorem pdl_nil : PdL C [] [] := fun _ _ h => by cases h; exact .nil
theorem pdl_cons {τ : α → Vw} {pd : α → PyData} [i : Pd C τ pd] {x : α} {ws : List Vw} {ds : List PyData} (h : PdL C ws ds) : PdL C (τ x :: ws) (pd x :: ds) := fun H vs q => by
  cases q with
  | cons a b => exact .cons (i.dp x H _ a) (h H _ b)
theorem pd_tup {ws : α → List Vw} {ds : α → List PyData} (h : ∀ x, PdL C (ws x) (ds x)) : Pd C (fun x => vTup C (ws x)) (fun x => .tuple (ds x)) := ⟨fun x H v ⟨p, vs, h1, h2, h3⟩ => by subst h1; exact .tup h2 (h x H vs h3)⟩
theorem pd_ls {ws : α → List Vw} {ds : α → List PyData} (h : ∀ x, PdL C (ws x) (ds x)) : Pd C (fun x => vLs C (ws x)) (fun x => .list (ds x)) := ⟨fun x H v ⟨p, vs, h1, h2, h3⟩ => by subst h1; exact .lst h2 (h x H vs h3)⟩
def eqR (d e : PyData) : Res Bool := gd (SeqAt.shaped d && SeqAt.shaped e) (.ok (PyData.eqv d e))
def neR (d e : PyData) : Res Bool := gd (SeqAt.shaped d && SeqAt.shaped e) (.ok (!PyData.eqv d e))
theorem op_eq {τ : α → Vw} {τ' : β → Vw} {pd : α → PyData} {pd' : β → PyData} [i : Pd C τ pd] [j : Pd C τ' pd'] : Op2 (rCmp C.K .Eq) τ τ' (pB vBl) fun x y => eqR (pd x) (pd' y) where
  no := fun _ _ => nox_gd nox_ok
  run := fun x y B H v w Q s h1 h2 q => by
    obtain ⟨q1, q2⟩ := say_gd q
    simp only [Bool.and_eq_true] at q1
    exact .inl ⟨_, _, i.dp x H v h1, j.dp y H w h2, q1.1, q1.2, say_ok s q2 rfl⟩
theorem op_ne {τ : α → Vw} {τ' : β → Vw} {pd : α → PyData} {pd' : β → PyData} [i : Pd C τ pd] [j : Pd C τ' pd'] : Op2 (rCmp C.K .NotEq) τ τ' (pB vBl) fun x y => neR (pd x) (pd' y) where
  no := fun _ _ => nox_gd nox_ok
  run := fun x y B H v w Q s h1 h2 q => by
    obtain ⟨q1, q2⟩ := say_gd q
    simp only [Bool.and_eq_true] at q1
    exact .inl ⟨_, _, i.dp x H v h1, j.dp y H w h2, q1.1, q1.2, say_ok s q2 rfl⟩
theorem eqR_int (i j : Int) : eqR (.int i) (.int j) = .ok (decide (i = j)) := by
  show gd true _ = _
  rw [gd_true]
  show Res.ok (i == j) = _
  by_cases h : i = j <;> simp [h]
theorem neR_int (i j : Int) : neR (.int i) (.int j) = .ok (!decide (i = j)) := by
  show gd true _ = _
  rw [gd_true]
  show Res.ok (!(i == j)) = _
  by_cases h : i = j <;> simp [h]
/-- == of ints -/
theorem op_eqI : Op2 (rCmp C.K .Eq) vInt vInt (pB vBl) fun x y => .ok (decide (x = y)) := by
  have := op_eq (C := C) (τ := vInt) (τ' := vInt)
  simp only [eqR_int] at this
  exact this
theorem op_neI : Op2 (rCmp C.K .NotEq) vInt vInt (pB vBl) fun x y => .ok (!decide (x = y)) := by
  have := op_ne (C := C) (τ := vInt) (τ' := vInt)
  simp only [neR_int] at this
  exact this
/-! is None -/
class NN (τ : α → Vw) : Prop where
  nn : ∀ x H v, (τ x).rel H v → v ≠ .non
instance : NN vInt := ⟨fun x H v h z => by cases h; cases z⟩
instance : NN vBl := ⟨fun x H v h z => by cases h; cases z⟩
instance : NN vStr := ⟨fun x H v h z => by cases h; cases z⟩
instance {ws : α → List Vw} : NN (fun x => vTup C (ws x)) := ⟨fun x H v ⟨p, vs, h1, _⟩ z => by rw [h1] at z; cases z⟩
instance {ws : α → List Vw} : NN (fun x => vLs C (ws x)) := ⟨fun x H v ⟨p, vs, h1, _⟩ z => by rw [h1] at z; cases z⟩
instance {c : Nat} {ws : α → List (Str × Vw)} : NN (fun x => vIn C c (ws x)) := ⟨fun x H v ⟨p, dx, vs, h1, _⟩ z => by rw [h1] at z; cases z⟩
theorem opt_non {τ : α → Vw} [i : NN τ] {x : Option α} {H : Hp} {v : V} (h : (vOpt τ x).rel H v) : decide (v = .non) = x.isNone := by
  cases x with
  | none => cases h; rfl
  | some x => exact decide_eq_false (i.nn x H v h)
theorem op_is {τ : α → Vw} [i : NN τ] : Op2 (rCmp C.K .Is) (vOpt τ) vNon (pB vBl) fun x _ => .ok x.isNone where
  no := fun _ _ => nox_ok
  run := fun x y B H v w Q s h1 h2 q => ⟨h2, say_ok s q (by rw [opt_non h1]; rfl)⟩
theorem op_isN {τ : α → Vw} [i : NN τ] : Op2 (rCmp C.K .IsNot) (vOpt τ) vNon (pB vBl) fun x _ => .ok x.isSome where
  no := fun _ _ => nox_ok
  run := fun x y B H v w Q s h1 h2 q => ⟨h2, say_ok s q (by rw [opt_non h1]; cases x <;> rfl)⟩
/-- an optional thing that is there -/
def getR (x : Option α) : Res α := match x with
  | some x => .ok x
  | none => .bad
@[simp] theorem getR_some (x : α) : getR (some x) = .ok x := rfl
theorem ev_get {τ : α → Vw} {e : E} {m : Res (Option α)} (h : EvB T C Γ e (vOpt τ) m) : EvB T C Γ e τ (m >>= getR) := fun W σ B H Q g z => h W σ B H Q g (rz_imp (rz_bind.mp z) (fun x q v B' H' g1 p => by
  cases x with
  | none => exact q.elim
  | some x => exact q v B' H' g1 p) fun _ z => z)
/-! in -/
theorem vl_ints {H : Hp} : ∀ {xs : List Int} {vs : List V}, VwL H vs (xs.map vInt) → vs = xs.map V.int
  | [], _, .nil => rfl
  | x :: xs, _, .cons h l => by rw [List.map_cons, ← vl_ints l, show _ = V.int x from h]
theorem vl_strs {H : Hp} : ∀ {xs : List Str} {vs : List V}, VwL H vs (xs.map vStr) → vs = xs.map V.str
  | [], _, .nil => rfl
  | x :: xs, _, .cons h l => by rw [List.map_cons, ← vl_strs l, show _ = V.str x from h]
theorem vl_bls {H : Hp} : ∀ {xs : List Bool} {vs : List V}, VwL H vs (xs.map vBl) → vs = xs.map V.bl
  | [], _, .nil => rfl
  | x :: xs, _, .cons h l => by rw [List.map_cons, ← vl_bls l, show _ = V.bl x from h]
theorem inV_ints (i : Int) : ∀ xs : List Int, inV (.int i) (xs.map V.int) = decide (i ∈ xs)
  | [] => rfl
  | x :: xs => by
    show ((x == i) || inV (.int i) (xs.map V.int)) = _
    rw [inV_ints i xs]
    by_cases h : x = i
    · subst h; simp
    · have : (i = x) = False := by simp [Ne.symm h, eq_comm, h]
      simp [h, this]
theorem inV_strs (i : Str) : ∀ xs : List Str, inV (.str i) (xs.map V.str) = decide (i ∈ xs)
  | [] => rfl
  | x :: xs => by
    show ((x == i) || inV (.str i) (xs.map V.str)) = _
    rw [inV_strs i xs]
    by_cases h : x = i
    · subst h; simp
    · simp [h, Ne.symm h]
theorem op_inI : Op2 (rCmp C.K .In) vInt (vL C vInt) (pB vBl) fun x xs => .ok (decide (x ∈ xs)) where
  no := fun _ _ => nox_ok
  run := fun x y B H v w Q s h1 h2 q => by
    obtain ⟨p, vs, rfl, h3, h4⟩ := h2
    cases h1
    rw [vl_ints h4] at h3
    refine .inl ⟨p, _, rfl, .inl h3, rfl, by simp [flatV], ?_⟩
    show Q (.bl (inV (.int x) (y.map V.int))) H
    rw [inV_ints]
    exact say_ok s q rfl
theorem op_ninI : Op2 (rCmp C.K .NotIn) vInt (vL C vInt) (pB vBl) fun x xs => .ok (!decide (x ∈ xs)) where
  no := fun _ _ => nox_ok
  run := fun x y B H v w Q s h1 h2 q => by
    obtain ⟨p, vs, rfl, h3, h4⟩ := h2
    cases h1
    rw [vl_ints h4] at h3
    refine .inl ⟨p, _, rfl, .inl h3, rfl, by simp [flatV], ?_⟩
    show Q (.bl (!inV (.int x) (y.map V.int))) H
    rw [inV_ints]
    exact say_ok s q rfl
theorem op_inS : Op2 (rCmp C.K .In) vStr (vL C vStr) (pB vBl) fun x xs => .ok (decide (x ∈ xs)) where
  no := fun _ _ => nox_ok
  run := fun x y B H v w Q s h1 h2 q => by
    obtain ⟨p, vs, rfl, h3, h4⟩ := h2
    cases h1
    rw [vl_strs h4] at h3
    refine .inl ⟨p, _, rfl, .inl h3, rfl, by simp [flatV], ?_⟩
    show Q (.bl (inV (.str x) (y.map V.str))) H
    rw [inV_strs]
    exact say_ok s q rfl
theorem op_ninS : Op2 (rCmp C.K .NotIn) vStr (vL C vStr) (pB vBl) fun x xs => .ok (!decide (x ∈ xs)) where
  no := fun _ _ => nox_ok
  run := fun x y B H v w Q s h1 h2 q => by
    obtain ⟨p, vs, rfl, h3, h4⟩ := h2
    cases h1
    rw [vl_strs h4] at h3
    refine .inl ⟨p, _, rfl, .inl h3, rfl, by simp [flatV], ?_⟩
    show Q (.bl (!inV (.str x) (y.map V.str))) H
    rw [inV_strs]
    exact say_ok s q rfl
/-! xs[i] -/
theorem VwL.len {H : Hp} {vs : List V} {ws : List Vw} (h : VwL H vs ws) : vs.length = ws.length := Paired.length h
theorem VwL.nth {H : Hp} : ∀ {vs : List V} {ws : List Vw} {j : Nat} {w : Vw}, VwL H vs ws → ws[j]? = some w → ∃ v, vs[j]? = some v ∧ w.rel H v
  | _, _, _, _, .nil, e => by simp at e
  | _, _, 0, _, .cons h l, e => by
    simp only [List.getElem?_cons_zero, Option.some.injEq] at e
    subst e
    exact ⟨_, rfl, h⟩
  | _, _, j + 1, _, .cons h l, e => by
    simp only [List.getElem?_cons_succ] at e ⊢
    exact VwL.nth l e
theorem VwL.at {H : Hp} {vs : List V} {xs : List α} {τ : α → Vw} {i : Int} {x : α} (h : VwL H vs (xs.map τ)) (e : atI xs i = some x) : ∃ v, atI vs i = some v ∧ (τ x).rel H v := by
  unfold atI at e ⊢
  rw [show vs.length = xs.length by rw [h.len, List.length_map]]
  cases q : ixN xs.length i with
  | none => rw [q] at e; cases e
  | some j =>
    rw [q] at e
    replace e : xs[j]? = some x := e
    show ∃ v, vs[j]? = some v ∧ _
    exact h.nth (by rw [List.getElem?_map, e]; rfl)
def ixR (xs : List α) (i : Int) : Res α := getR (atI xs i)
theorem say_get {P : PR γ} {B H : Hp} {x : Option γ} {Q : VK} (h : Say P B H (getR x) Q) : ∃ y, x = some y ∧ Say P B H (.ok y) Q := by
  cases x with
  | none => exact h.elim
  | some y => exact ⟨y, rfl, h⟩
theorem nox_get {x : Option α} : NoX (getR x) := by
  cases x with
  | none => exact fun _ z => by cases z
  | some y => exact nox_ok
theorem op_ixL {τ : α → Vw} : Op2 (rIxA C.K) (vL C τ) vInt (pB τ) ixR where
  no := fun _ _ => nox_get
  run := fun x y B H v w Q s h1 h2 q => by
    obtain ⟨z, e, q⟩ := say_get q
    obtain ⟨p, vs, rfl, h3, h4⟩ := h1
    cases h2
    obtain ⟨u, e2, r⟩ := h4.at e
    exact .inl (.inl ⟨p, vs, y, u, rfl, rfl, h3, e2, say_ok s q r⟩)
/-- one of the items by its place: a pair's, a record's -/
theorem ev_pick {ws : α → List Vw} {τ : γ → Vw} {f : α → γ} {n : Nat} {a : E} {m : Res α} (h : EvB T C Γ a (fun x => vTup C (ws x)) m) (hn : ∀ x, (ws x)[n]? = some (τ (f x))) : EvB T C Γ (.ix a (.int n)) τ (m >>= fun x => .ok (f x)) := fun W σ B H Q g z => by
  refine h W σ B H _ g (rz_imp (rz_bind.mp z) (fun x z v B1 H1 g1 p1 => ?_) fun _ z => z)
  obtain ⟨p, vs, rfl, h3, h4⟩ := p1
  obtain ⟨u, e2, r⟩ := h4.nth (hn x)
  refine .inl (.inr (.inl ⟨p, vs, n, u, rfl, rfl, h3, ?_, z u B1 H1 g1 r⟩))
  unfold atI ixN
  have hl : n < vs.length := by
    rcases Nat.lt_or_ge n vs.length with q | q
    · exact q
    · rw [List.getElem?_eq_none q] at e2; cases e2
  rw [if_pos (by omega), if_pos (by omega)]
  exact e2
theorem ev_pickL {ws : α → List Vw} {τ : γ → Vw} {f : α → γ} {n : Nat} {a : E} {m : Res α} (h : EvB T C Γ a (fun x => vLs C (ws x)) m) (hn : ∀ x, (ws x)[n]? = some (τ (f x))) : EvB T C Γ (.ix a (.int n)) τ (m >>= fun x => .ok (f x)) := fun W σ B H Q g z => by
  refine h W σ B H _ g (rz_imp (rz_bind.mp z) (fun x z v B1 H1 g1 p1 => ?_) fun _ z => z)
  obtain ⟨p, vs, rfl, h3, h4⟩ := p1
  obtain ⟨u, e2, r⟩ := h4.nth (hn x)
  refine .inl (.inl ⟨p, vs, n, u, rfl, rfl, h3, ?_, z u B1 H1 g1 r⟩)
  unfold atI ixN
  have hl : n < vs.length := by
    rcases Nat.lt_or_ge n vs.length with q | q
    · exact q
    · rw [List.getElem?_eq_none q] at e2; cases e2
  rw [if_pos (by omega), if_pos (by omega)]
  exact e2
end
end Q
/-! Q13: lists of expressions, displays, calls, built-in functions. -/
namespace Q
open PySem L2 PySem.Spec
section
variable {T : Tb} {C : Kc} {Γ : Cx0} {α β γ δ κ κ' : Type}
/-- expressions one behind another, then f: m in all. Views -/
def EvLV (T : Tb) (C : Kc) (Γ : Cx0) (es : E) (ws : κ → List Vw) (f : κ → Res γ) (m : Res γ) : Prop :=
  ∀ (W : WX) (σ : L2.St) (B H : Hp) (P : γ → Prop) (Q : List V → Hp → Prop), EnvC Γ σ B H → Rz m P (ExK C W σ H) →
    (∀ k vs B' H', Gon B H B' H' → VwL H' vs (ws k) → Rz (f k) P (ExK C W σ H') → Q vs H') → (rd T C es W).L σ H Q
/-- own things -/
def EvLO (T : Tb) (C : Kc) (Γ : Cx0) (es : E) (os : κ → List Ow) (f : κ → Res γ) (m : Res γ) : Prop :=
  ∀ (W : WX) (σ : L2.St) (B H : Hp) (P : γ → Prop) (Q : List V → Hp → Prop), EnvC Γ σ B H → Rz m P (ExK C W σ H) →
    (∀ k vs B' H' fp, Gon B H B' H' → OwL B' H' vs (os k) fp → fp.Nodup → (∀ a ∈ fp, H a = none ∧ B' a = none) → Rz (f k) P (ExK C W σ H') → Q vs H') → (rd T C es W).L σ H Q
theorem elv_nil {f : Unit → Res γ} : EvLV T C Γ .nil (fun _ => []) f (f ()) := fun W σ B H P Q g z q => q () [] B H (.refl g.sub) .nil z
theorem elv_cons {e es : E} {τ : α → Vw} {ws : κ → List Vw} {f : α × κ → Res γ} {m : Res α} {n : α → Res γ} (h : EvB T C Γ e τ m) (r : ∀ x, EvLV T C Γ es ws (fun k => f (x, k)) (n x)) : EvLV T C Γ (.cons e es) (fun k => τ k.1 :: ws k.2) f (m >>= n) := fun W σ B H P Q g z q => by
  show (rd T C e W).E σ H _
  refine h W σ B H _ g (rz_imp (rz_bind.mp z) (fun x z v B1 H1 g1 p1 => ?_) fun _ z => z)
  refine r x W σ B1 H1 P _ (g.up g1.b g1.h g1.s) (rz_imp z (fun _ z => z) fun _ z => z.up g1.h) fun k vs B2 H2 g2 p2 z2 => ?_
  exact q (x, k) (v :: vs) B2 H2 (g1.trans g2) (.cons ((τ x).mono g2.h p1) p2) z2
theorem elo_nil {f : Unit → Res γ} : EvLO T C Γ .nil (fun _ => []) f (f ()) := fun W σ B H P Q g z q => q () [] B H [] (.refl g.sub) rfl List.nodup_nil (fun _ z => nomatch z) z
theorem ow_up {o : Ow} {B H B' H' : Hp} {v : V} {fp : List Addr} (h : o.rel B H v fp) (b : Same B B') (s : Same H H') : o.rel B' H' v fp := o.mono b (fun a ha => by
  obtain ⟨u, hu⟩ := Option.isSome_iff_exists.mp (o.al h a ha)
  rw [hu, s a u hu]) h
theorem owl_up {os : List Ow} {B H B' H' : Hp} {vs : List V} {fp : List Addr} (h : OwL B H vs os fp) (b : Same B B') (s : Same H H') : OwL B' H' vs os fp := OwL.mono b (fun a ha => by
  obtain ⟨u, hu⟩ := Option.isSome_iff_exists.mp (OwL.al h a ha)
  rw [hu, s a u hu]) h
/-- new frozen things are not those at hand -/
theorem newB_none {B1 H1 B2 : Hp} (n : NewB B1 H1 B2) {a : Addr} (b : B1 a = none) (h : (H1 a).isSome = true) (t : nTup H1 a) : B2 a = none := by
  cases q : B2 a with
  | none => rfl
  | some u =>
    rcases n a u q with z | z | ⟨z, e⟩
    · rw [b] at z; cases z
    · rw [z] at h; cases h
    · rw [t u z] at e; cases e
theorem elo_cons {e es : E} {τ : α → Ow} {os : κ → List Ow} {f : α × κ → Res γ} {m : Res α} {n : α → Res γ} (h : EvO T C Γ e τ m) (r : ∀ x, EvLO T C Γ es os (fun k => f (x, k)) (n x)) : EvLO T C Γ (.cons e es) (fun k => τ k.1 :: os k.2) f (m >>= n) := fun W σ B H P Q g z q => by
  show (rd T C e W).E σ H _
  refine h W σ B H _ g (rz_imp (rz_bind.mp z) (fun x z v B1 H1 g1 ⟨fp, p1, n1, f1⟩ => ?_) fun _ z => z)
  refine r x W σ B1 H1 P _ (g.up g1.b g1.h g1.s) (rz_imp z (fun _ z => z) fun _ z => z.up g1.h) fun k vs B2 H2 fq g2 p2 n2 f2 z2 => ?_
  have al := (τ x).al p1
  refine q (x, k) (v :: vs) B2 H2 (fp ++ fq) (g1.trans g2) ⟨fp, fq, rfl, ow_up p1 g2.b g2.h, p2⟩ (List.nodup_append.mpr ⟨n1, n2, fun a ha b hb e => ?_⟩) (fun a ha => ?_) z2
  · subst e
    have := al a ha
    rw [(f2 a hb).1] at this; cases this
  · rcases List.mem_append.mp ha with ha | ha
    · exact ⟨(f1 a ha).1, newB_none g2.n (f1 a ha).2 (al a ha) ((τ x).nt p1 a ha)⟩
    · exact ⟨none_back g1.h (f2 a ha).1, (f2 a ha).2⟩
/-! displays -/
theorem rz_ok {P : γ → Prop} {E : Ex → Prop} {x : γ} (h : Rz (.ok x) P E) : P x := h
theorem owl_new {os : List Ow} {B H : Hp} {vs : List V} {fp : List Addr} {p : Addr} {o : HO} (h : OwL B H vs os fp) (hp : H p = none) : OwL B (upd H p o) vs os fp := owl_up h (sm_refl _) (sm_new hp)
theorem ev_lst {es : E} {os : κ → List Ow} {τ : β → Ow} {g : κ → β} {m : Res β} (h : EvLO T C Γ es os (fun k => .ok (g k)) m) (hl : ∀ k, (os k).length ≤ sizeLine) (hτ : ∀ k, τ (g k) = oLs C (os k)) : EvO T C Γ (.lst es) τ m := fun W σ B H Q c z => by
  show (rd T C es W).L σ H _
  refine h W σ B H _ _ c z fun k vs B1 H1 fp g1 p1 n1 f1 z1 => ?_
  refine ⟨by rw [OwL.len p1]; exact hl k, fun p hp => ?_⟩
  have hpB := none_back g1.s hp
  refine rz_ok z1 (.ref p) B1 _ ⟨g1.b, sm_trans g1.h (sm_new hp), sm_trans g1.s (sm_new hp), g1.n⟩ ⟨p :: fp, ?_, List.nodup_cons.mpr ⟨fun z => ?_, n1⟩, fun a ha => ?_⟩
  · rw [hτ]
    exact ⟨p, vs, fp, rfl, upd_same, owl_new p1 hp, rfl⟩
  · have := OwL.al p1 p z
    rw [hp] at this; cases this
  · rcases List.mem_cons.mp ha with rfl | ha
    · exact ⟨none_back g1.h hp, hpB⟩
    · exact f1 a ha
theorem gon_tup {B H B1 H1 : Hp} {p : Addr} {vs : List V} (g : Gon B H B1 H1) (hp : H1 p = none) : Gon B H (upd B1 p (.tup vs)) (upd H1 p (.tup vs)) := by
  have hB := none_back g.s hp
  refine ⟨sm_trans g.b (sm_new hB), sm_trans g.h (sm_new hp), fun a u e => ?_, fun a u e => ?_⟩
  · by_cases q : a = p
    · subst q
      rw [upd_same] at e ⊢
      exact e
    · rw [upd_ne q] at e ⊢
      exact g.s a u e
  · by_cases q : a = p
    · subst q
      exact .inr (.inl (none_back g.h hp))
    · rw [upd_ne q] at e
      exact g.n a u e
theorem ev_tup {es : E} {os : κ → List Ow} {τ : β → Ow} {g : κ → β} {m : Res β} (h : EvLO T C Γ es os (fun k => .ok (g k)) m) (hl : ∀ k, (os k).length ≤ sizeLine) (hτ : ∀ k, τ (g k) = oTup C (os k)) : EvO T C Γ (.tup es) τ m := fun W σ B H Q c z => by
  show (rd T C es W).L σ H _
  refine h W σ B H _ _ c z fun k vs B1 H1 fp g1 p1 n1 f1 z1 => ?_
  refine ⟨by rw [OwL.len p1]; exact hl k, fun p hp => ?_⟩
  have hpB := none_back g1.s hp
  have nf : ∀ a ∈ fp, a ≠ p := fun a ha e => by
    subst e
    have := OwL.al p1 a ha
    rw [hp] at this; cases this
  refine rz_ok z1 (.ref p) _ _ (gon_tup g1 hp) ⟨fp, ?_, n1, fun a ha => ⟨(f1 a ha).1, by rw [upd_ne (nf a ha)]; exact (f1 a ha).2⟩⟩
  rw [hτ]
  exact ⟨p, vs, rfl, .inl (.inl upd_same), OwL.mono (sm_new hpB) (fun a ha => upd_ne (nf a ha)) p1⟩
theorem ev_dct {τ : β → Ow} {x : β} (hτ : τ x = oDc []) : EvO T C Γ .dct τ (.ok x) := fun W σ B H Q c z => fun p hp => by
  have hpB := none_back c.sub hp
  refine z (.ref p) B _ ⟨sm_refl _, sm_new hp, sm_trans c.sub (sm_new hp), newB_refl _ _⟩ ⟨[p], ?_, by simp, fun a ha => ?_⟩
  · rw [hτ]
    exact ⟨p, [], [], rfl, upd_same, ⟨rfl, rfl⟩, rfl⟩
  · rw [List.mem_singleton.mp ha]; exact ⟨hp, hpB⟩
theorem ev_dtt {τ : β → Ow} {x : β} (hτ : τ x = oDt []) : EvO T C Γ .dtt τ (.ok x) := fun W σ B H Q c z => fun p hp => by
  have hpB := none_back c.sub hp
  refine z (.ref p) B _ ⟨sm_refl _, sm_new hp, sm_trans c.sub (sm_new hp), newB_refl _ _⟩ ⟨[p], ?_, by simp, fun a ha => ?_⟩
  · rw [hτ]
    exact ⟨p, [], [], rfl, upd_same, ⟨rfl, rfl⟩, rfl⟩
  · rw [List.mem_singleton.mp ha]; exact ⟨hp, hpB⟩
/-- frozen from now on -/
def frzB (B H : Hp) (fp : List Addr) : Hp := fun a => if a ∈ fp then H a else B a
theorem frzB_in {B H : Hp} {fp : List Addr} {a : Addr} (h : a ∈ fp) : frzB B H fp a = H a := if_pos h
theorem frzB_out {B H : Hp} {fp : List Addr} {a : Addr} (h : a ∉ fp) : frzB B H fp a = B a := if_neg h
theorem frz_b {B H : Hp} {fp : List Addr} (h : ∀ a ∈ fp, B a = none) : Same B (frzB B H fp) := fun a u e => by
  rw [frzB_out fun z => by rw [h a z] at e; cases e]
  exact e
theorem frz_h {B H : Hp} {fp : List Addr} (s : Same B H) : Same (frzB B H fp) H := fun a u e => by
  by_cases h : a ∈ fp
  · rw [frzB_in h] at e; exact e
  · rw [frzB_out h] at e; exact s a u e
theorem ev_frz {e : E} {τ : α → Ow} {m : Res α} (h : EvO T C Γ e τ m) : EvO T C Γ e (fun x => oV (τ x).vw) m := fun W σ B H Q c z => h W σ B H Q c (rz_imp z (fun x q v B' H' g ⟨fp, r, n, f⟩ => by
  refine q v (frzB B' H' fp) H' ⟨sm_trans g.b (frz_b fun a ha => (f a ha).2), g.h, frz_h g.s, fun a u e => ?_⟩ ⟨[], ⟨(τ x).sub (frz_b fun a ha => (f a ha).2) (fun a ha => frzB_in ha) r, rfl⟩, List.nodup_nil, fun _ z => nomatch z⟩
  by_cases ha : a ∈ fp
  · exact .inr (.inl (f a ha).1)
  · rw [frzB_out ha] at e
    exact g.n a u e) fun _ z => z)
/-! defs -/
/-- the def R, of things ws k: f k, kept as τ -/
def FnT (C : Kc) (R : Row) (ws : κ → List Vw) (τ : β → Ow) (f : κ → Res β) : Prop := ∀ k vs (B H : Hp) Q E, Same B H → VwL B vs (ws k) →
  Rz (f k) (fun y => ∀ v B' H', Gon B H B' H' → pO τ y B H B' H' v → Q v H') (fun e => ∀ cls d H', Same H H' → ExR C e cls d H H' → E cls d H') → R.sp C vs H Q E
/-- all of it is its own -/
class Clo (τ : α → Ow) : Prop where
  cl : ∀ x B B' H v fp, (τ x).rel B H v fp → (τ x).rel B' H v fp
instance {τ : α → Vw} [i : Flat τ] : Clo (fun x => oV (τ x)) := ⟨fun x B B' H v fp h => ⟨i.fl x B B' v h.1, h.2⟩⟩
theorem clo_owl {τ : α → Ow} [i : Clo τ] {B B' H : Hp} : ∀ {xs : List α} {vs : List V} {fp : List Addr}, OwL B H vs (xs.map τ) fp → OwL B' H vs (xs.map τ) fp
  | [], [], _, h => h
  | x :: xs, v :: vs, fp, ⟨f, g, h1, h2, h3⟩ => ⟨f, g, h1, i.cl x B B' H v f h2, clo_owl h3⟩
instance {τ : α → Ow} [i : Clo τ] : Clo (oL C τ) := ⟨fun x B B' H v fp ⟨p, vs, f, h1, h2, h3, h4⟩ => ⟨p, vs, f, h1, h2, clo_owl h3, h4⟩⟩
def CloL (os : List Ow) : Prop := ∀ B B' H vs fp, OwL B H vs os fp → OwL B' H vs os fp
theorem clol_nil : CloL [] := fun _ _ _ vs _ h => by cases vs <;> exact h
theorem clol_cons {τ : α → Ow} [i : Clo τ] {x : α} {os : List Ow} (h : CloL os) : CloL (τ x :: os) := fun B B' H vs fp q => match vs, q with
  | v :: vs, ⟨f, g, h1, h2, h3⟩ => ⟨f, g, h1, i.cl x B B' H v f h2, h B B' H vs g h3⟩
theorem clo_ls {os : α → List Ow} (h : ∀ x, CloL (os x)) : Clo (fun x => oLs C (os x)) := ⟨fun x B B' H v fp ⟨p, vs, f, h1, h2, h3, h4⟩ => ⟨p, vs, f, h1, h2, h x B B' H vs f h3, h4⟩⟩
theorem vwl_append {H : Hp} : ∀ {vs : List V} {ws : List Vw} {us : List V} {zs : List Vw}, VwL H vs ws → VwL H us zs → VwL H (vs ++ us) (ws ++ zs)
  | _, _, _, _, .nil, h => h
  | _, _, _, _, .cons a l, h => .cons a (vwl_append l h)
/-- a call; what is given is read -/
theorem ev_callB {i : Nat} {es : E} {os : κ → List Vw} {ws : κ' → List Vw} {τ : β → Ow} [Clo τ] {f : κ' → Res β} {g : κ → κ'} {dv : List V} {wd : List Vw} {m : Res β} (hf : FnT C (T.f i) ws τ f)
    (har : elen es ≤ (T.f i).ar ∧ (T.f i).ar ≤ elen es + (T.f i).dfl.length) (hdv : (T.f i).dfl.drop (elen es + (T.f i).dfl.length - (T.f i).ar) = dv) (hwd : ∀ H, VwL H dv wd) (hg : ∀ k, ws (g k) = os k ++ wd)
    (h : EvLV T C Γ es os (fun k => f (g k)) m) : EvO T C Γ (.call i es) τ m := fun W σ B H Q c z => by
  show rCall (T.f i) C (elen es) (WE W) (rd T C es W).L σ H Q
  unfold rCall
  rw [if_pos har, hdv]
  refine h W σ B H _ _ c z fun k vs B1 H1 g1 p1 z1 => ?_
  refine hf (g k) (vs ++ dv) H1 H1 Q (WE W σ) (sm_refl _) (by rw [hg]; exact vwl_append p1 (hwd H1)) (rz_imp z1 (fun y q v B2 H2 g2 ⟨fp, r, n, fr⟩ => ?_) fun e z cls d H' s r => z cls d H' s r)
  refine q v B1 H2 ⟨g1.b, sm_trans g1.h g2.h, sm_trans g1.s g2.h, g1.n⟩ ⟨fp, Clo.cl y B2 B1 H2 v fp r, n, fun a ha => ⟨none_back g1.h (fr a ha).1, none_back g1.s (fr a ha).1⟩⟩
/-- a call; what is given is frozen -/
theorem ev_callF {i : Nat} {es : E} {os : κ → List Vw} {ws : κ' → List Vw} {τ : β → Ow} {f : κ' → Res β} {g : κ → κ'} {dv : List V} {wd : List Vw} {m : Res β} (hf : FnT C (T.f i) ws τ f)
    (har : elen es ≤ (T.f i).ar ∧ (T.f i).ar ≤ elen es + (T.f i).dfl.length) (hdv : (T.f i).dfl.drop (elen es + (T.f i).dfl.length - (T.f i).ar) = dv) (hwd : ∀ H, VwL H dv wd) (hg : ∀ k, ws (g k) = os k ++ wd)
    (h : EvLO T C Γ es (fun k => (os k).map oV) (fun k => f (g k)) m) : EvO T C Γ (.call i es) τ m := fun W σ B H Q c z => by
  show rCall (T.f i) C (elen es) (WE W) (rd T C es W).L σ H Q
  unfold rCall
  rw [if_pos har, hdv]
  refine h W σ B H _ _ c z fun k vs B1 H1 fq g1 p1 _ _ z1 => ?_
  have p2 : VwL B1 vs (os k) := by
    have : ∀ {vs : List V} {ws : List Vw} {fq : List Addr}, OwL B1 H1 vs (ws.map oV) fq → VwL B1 vs ws := fun {vs} => by
      induction vs with
      | nil =>
        intro ws fq h
        cases ws with
        | nil => exact .nil
        | cons w ws => exact h.elim
      | cons v vs ih =>
        intro ws fq h
        cases ws with
        | nil => exact h.elim
        | cons w ws =>
          obtain ⟨f, g, h1, h2, h3⟩ := h
          exact .cons h2.1 (ih h3)
    exact this p1
  refine hf (g k) (vs ++ dv) B1 H1 Q (WE W σ) g1.s (by rw [hg]; exact vwl_append p2 (hwd B1)) (rz_imp z1 (fun y q v B2 H2 g2 p => ?_) fun e z cls d H' s r => z cls d H' s r)
  exact q v B2 H2 (g1.trans g2) (Back.bk (P := pO τ) y B H B1 H1 B2 H2 v g1 p)
end
end Q
/-! Q14: statements, typed: the core. -/
namespace Q
open PySem L2 PySem.Spec
/-- where a block ends -/
inductive Out (ν β ρ ξ : Type) where
  | nx (x : ν) | bk (x : β) | ct (x : β) | rt (x : ρ) | exc (e : Ex) (x : ξ) | bad
section
variable {ν ν' β ρ ξ : Type}
def Out.then (m : Out ν β ρ ξ) (k : ν → Out ν' β ρ ξ) : Out ν' β ρ ξ := match m with
  | .nx x => k x
  | .bk x => .bk x
  | .ct x => .ct x
  | .rt x => .rt x
  | .exc e x => .exc e x
  | .bad => .bad
@[simp] theorem Out.nx_then (x : ν) (k : ν → Out ν' β ρ ξ) : (Out.nx x).then k = k x := rfl
@[simp] theorem Out.bk_then (x : β) (k : ν → Out ν' β ρ ξ) : (Out.bk x).then k = .bk x := rfl
@[simp] theorem Out.ct_then (x : β) (k : ν → Out ν' β ρ ξ) : (Out.ct x).then k = .ct x := rfl
@[simp] theorem Out.rt_then (x : ρ) (k : ν → Out ν' β ρ ξ) : (Out.rt x).then k = .rt x := rfl
@[simp] theorem Out.exc_then (e : Ex) (x : ξ) (k : ν → Out ν' β ρ ξ) : (Out.exc e x).then k = .exc e x := rfl
@[simp] theorem Out.bad_then (k : ν → Out ν' β ρ ξ) : (Out.bad).then k = .bad := rfl
/-- an expression's worth, then k; errors leave with x -/
def Res.to {α : Type} (m : Res α) (x : ξ) (k : α → Out ν β ρ ξ) : Out ν β ρ ξ := match m with
  | .ok a => k a
  | .exc e => .exc e x
  | .bad => .bad
@[simp] theorem Res.ok_to {α : Type} (a : α) (x : ξ) (k : α → Out ν β ρ ξ) : (Res.ok a).to x k = k a := rfl
@[simp] theorem Res.exc_to {α : Type} (e : Ex) (x : ξ) (k : α → Out ν β ρ ξ) : (Res.exc e).to x k = .exc e x := rfl
@[simp] theorem Res.bad_to {α : Type} (x : ξ) (k : α → Out ν β ρ ξ) : (Res.bad : Res α).to x k = .bad := rfl
end
/-- an own thing at a known place -/
def oQ (p : V → Prop) (o : Ow) : Ow where
  rel := fun B H v fp => p v ∧ o.rel B H v fp
  mono := fun e n h => ⟨h.1, o.mono e n h.2⟩
  al := fun h => o.al h.2
  nt := fun h => o.nt h.2
  lk := fun e n h => ⟨h.1, o.lk e n h.2⟩
  vw := o.vw
  sub := fun e n h => o.sub e n h.2
/-- frozen things that came, Z being what stands still -/
structure Gz (B Z B' : Hp) : Prop where
  b : Same B B'
  n : ∀ a o, B' a = some o → B a = some o ∨ Z a = none ∨ (Z a = some o ∧ tupB o = true)
theorem Gz.refl (B Z : Hp) : Gz B Z B := ⟨sm_refl _, fun _ _ e => .inl e⟩
theorem Gz.trans {B Z B1 B2 : Hp} (a : Gz B Z B1) (b : Gz B1 Z B2) : Gz B Z B2 := ⟨sm_trans a.b b.b, fun x o e => (b.n x o e).elim (fun q => a.n x o q) .inr⟩
structure Oks (Γ : Cx0) (σ : L2.St) (B Z H : Hp) (fp : List Addr) : Prop where
  env : EnvO B H σ Γ fp
  nd : fp.Nodup
  fr : ∀ a ∈ fp, Z a = none ∧ B a = none
  b : Same B H
  z : Same Z H
theorem Gon.gz {B Z H B' H' : Hp} (z : Same Z H) (g : Gon B H B' H') : Gz B Z B' := ⟨g.b, fun a o e => (newB_trans z (newB_refl B Z) g.n a o e)⟩
/-- what holds of names -/
structure Le (a b : Ow) : Prop where
  le : ∀ B H v fp, a.rel B H v fp → b.rel B H v fp
theorem Le.refl (a : Ow) : Le a a := ⟨fun _ _ _ _ h => h⟩
theorem Le.unq {p : V → Prop} {o : Ow} : Le (oQ p o) o := ⟨fun _ _ _ _ h => h.2⟩
theorem Le.q {o : Ow} : Le o (oQ (fun _ => True) o) := ⟨fun _ _ _ _ h => ⟨trivial, h⟩⟩
/-- fewer names are known -/
inductive Wk : Cx0 → Cx0 → Prop
  | nil : Wk [] []
  | drop {o : Option Ow} {Γ Γ' : Cx0} : Wk Γ Γ' → Wk (o :: Γ) (none :: Γ')
  | keep {a : Ow} {Γ Γ' : Cx0} : Wk Γ Γ' → Wk (some a :: Γ) (some a :: Γ')
  | imp {a b : Ow} {Γ Γ' : Cx0} : Le a b → Wk Γ Γ' → Wk (some a :: Γ) (some b :: Γ')
theorem Wk.refl : ∀ Γ : Cx0, Wk Γ Γ
  | [] => .nil
  | none :: Γ => .drop (Wk.refl Γ)
  | some a :: Γ => .keep (Wk.refl Γ)
theorem Wk.forget : ∀ Γ : Cx0, Wk Γ (List.replicate Γ.length none)
  | [] => .nil
  | _ :: Γ => .drop (Wk.forget Γ)
theorem Wk.env {B H : Hp} : ∀ {Γ Γ' : Cx0} {σ : List (Option V)} {fp : List Addr}, Wk Γ Γ' → EnvO B H σ Γ fp → ∃ fq, EnvO B H σ Γ' fq ∧ fq.Sublist fp
  | _, _, σ, fp, .nil, h => ⟨fp, h, .refl _⟩
  | _, _, [], _, .drop (o := o) w, h => by cases o <;> cases h
  | _, _, v :: σ, fp, .drop (o := none) w, h => Wk.env (σ := σ) w h
  | _, _, v :: σ, fp, .drop (o := some o) w, ⟨u, f, g, h0, h1, h2, h3⟩ => by
    obtain ⟨fq, q1, q2⟩ := Wk.env (σ := σ) w h3
    subst h1
    exact ⟨fq, q1, q2.trans (List.sublist_append_right f g)⟩
  | _, _, [], _, .keep w, h => by cases h
  | _, _, v :: σ, fp, .keep w, ⟨u, f, g, h0, h1, h2, h3⟩ => by
    obtain ⟨fq, q1, q2⟩ := Wk.env (σ := σ) w h3
    subst h1
    exact ⟨f ++ fq, ⟨u, f, fq, h0, rfl, h2, q1⟩, List.Sublist.append (.refl _) q2⟩
  | _, _, [], _, .imp l w, h => by cases h
  | _, _, v :: σ, fp, .imp l w, ⟨u, f, g, h0, h1, h2, h3⟩ => by
    obtain ⟨fq, q1, q2⟩ := Wk.env (σ := σ) w h3
    subst h1
    exact ⟨f ++ fq, ⟨u, f, fq, h0, rfl, l.le _ _ _ _ h2, q1⟩, List.Sublist.append (.refl _) q2⟩
theorem Oks.wk {Γ Γ' : Cx0} {σ : L2.St} {B Z H : Hp} {fp : List Addr} (h : Oks Γ σ B Z H fp) (w : Wk Γ Γ') : ∃ fq, Oks Γ' σ B Z H fq := by
  obtain ⟨fq, h1, h2⟩ := w.env h.env
  exact ⟨fq, h1, h.nd.sublist h2, fun a ha => h.fr a (h2.subset ha), h.b, h.z⟩
theorem Oks.envC {Γ : Cx0} {σ : L2.St} {B Z H : Hp} {fp : List Addr} (h : Oks Γ σ B Z H fp) : EnvC Γ σ B H := ⟨fun i o e => by
  obtain ⟨v, f, h1, h2, _⟩ := h.env.get e
  exact ⟨v, f, h1, h2⟩, h.b, h.env.len⟩
/-- an expression came by: the names stay, a new thing is there -/
theorem Oks.put {Γ : Cx0} {σ : L2.St} {B Z H B' H' : Hp} {fp fq : List Addr} {o : Ow} {v : V} (h : Oks Γ σ B Z H fp) (g : Gon B H B' H') (r : o.rel B' H' v fq) (n : fq.Nodup) (f : ∀ a ∈ fq, H a = none ∧ B' a = none) : Oks (some o :: Γ) (some v :: σ) B' Z H' (fq ++ fp) := by
  have al := h.env.al
  refine ⟨⟨v, fq, fp, rfl, rfl, r, h.env.mono g.b fun a ha => ?_⟩, List.nodup_append.mpr ⟨n, h.nd, fun a ha b hb e => ?_⟩, fun a ha => ?_, g.s, sm_trans h.z g.h⟩
  · obtain ⟨u, hu⟩ := Option.isSome_iff_exists.mp (al a ha)
    rw [hu, g.h a u hu]
  · subst e
    have := al a hb
    rw [(f a ha).1] at this; cases this
  · rcases List.mem_append.mp ha with ha | ha
    · exact ⟨none_back h.z (f a ha).1, (f a ha).2⟩
    · exact ⟨(h.fr a ha).1, newB_none g.n (h.fr a ha).2 (al a ha) (h.env.nt a ha)⟩
theorem Oks.gon {Γ : Cx0} {σ : L2.St} {B Z H B' H' : Hp} {fp : List Addr} (h : Oks Γ σ B Z H fp) (g : Gon B H B' H') : Oks Γ σ B' Z H' fp := by
  have al := h.env.al
  refine ⟨h.env.mono g.b fun a ha => ?_, h.nd, fun a ha => ⟨(h.fr a ha).1, newB_none g.n (h.fr a ha).2 (al a ha) (h.env.nt a ha)⟩, g.s, sm_trans h.z g.h⟩
  obtain ⟨u, hu⟩ := Option.isSome_iff_exists.mp (al a ha)
  rw [hu, g.h a u hu]
/-- a name is set -/
theorem EnvO.set {B H : Hp} {o : Ow} {v : V} {fq : List Addr} (r : o.rel B H v fq) : ∀ {Γ : Cx0} {σ : List (Option V)} {fp : List Addr} {i : Nat}, EnvO B H σ Γ fp → i < Γ.length → ∃ f g fp', fp' = f ++ fq ++ g ∧ (f ++ g).Sublist fp ∧ EnvO B H (σ.set i (some v)) (Γ.set i (some o)) fp'
  | [], _, _, _, _, l => by simp at l
  | none :: Γ, [], _, _, h, _ => by cases h
  | some _ :: Γ, [], _, _, h, _ => by cases h
  | none :: Γ, u :: σ, fp, 0, h, _ => ⟨[], fp, fq ++ fp, rfl, .refl _, ⟨v, fq, fp, rfl, rfl, r, h⟩⟩
  | some p :: Γ, u :: σ, fp, 0, ⟨u', f, g, h0, h1, h2, h3⟩, _ => ⟨[], g, fq ++ g, rfl, by subst h1; exact List.sublist_append_right f g, ⟨v, fq, g, rfl, rfl, r, h3⟩⟩
  | none :: Γ, u :: σ, fp, i + 1, h, l => by
    obtain ⟨f, g, fp', q1, q2, q3⟩ := EnvO.set r (Γ := Γ) (σ := σ) (i := i) h (by simpa using l)
    exact ⟨f, g, fp', q1, q2, q3⟩
  | some p :: Γ, u :: σ, fp, i + 1, ⟨u', f0, g0, h0, h1, h2, h3⟩, l => by
    obtain ⟨f, g, fp', q1, q2, q3⟩ := EnvO.set r (Γ := Γ) (σ := σ) (i := i) h3 (by simpa using l)
    subst h1
    exact ⟨f0 ++ f, g, f0 ++ fp', by rw [q1]; simp, by rw [List.append_assoc]; exact List.Sublist.append (.refl _) q2, ⟨u', f0, fp', h0, rfl, h2, q3⟩⟩
theorem Oks.set {Γ : Cx0} {σ : L2.St} {B Z H : Hp} {fp : List Addr} {o : Ow} {v : V} {i : Nat} (h : Oks (some o :: Γ) (some v :: σ) B Z H fp) (l : i < Γ.length) : ∃ fp', Oks (Γ.set i (some o)) (σ.set i (some v)) B Z H fp' := by
  obtain ⟨⟨u, f0, g0, h0, h1, h2, h3⟩, nd, fr, b, z⟩ := h
  cases h0
  subst h1
  obtain ⟨f, g, fp', q1, q2, q3⟩ := EnvO.set h2 h3 l
  obtain ⟨n1, n2, n3⟩ := List.nodup_append.mp nd
  refine ⟨fp', q3, ?_, fun a ha => fr a ?_, b, z⟩
  · subst q1
    have n4 := n2.sublist q2
    obtain ⟨m1, m2, m3⟩ := List.nodup_append.mp n4
    refine List.nodup_append.mpr ⟨List.nodup_append.mpr ⟨m1, n1, fun a ha b hb e => ?_⟩, m2, fun a ha b hb e => ?_⟩
    · exact n3 b hb a (q2.subset (List.mem_append_left _ ha)) e.symm
    · rcases List.mem_append.mp ha with ha | ha
      · exact m3 a ha b hb e
      · exact n3 a ha b (q2.subset (List.mem_append_right _ hb)) e
  · subst q1
    rcases List.mem_append.mp ha with ha | ha
    · rcases List.mem_append.mp ha with ha | ha
      · exact List.mem_append_right _ (q2.subset (List.mem_append_left _ ha))
      · exact List.mem_append_left _ ha
    · exact List.mem_append_right _ (q2.subset (List.mem_append_right _ ha))
/-- what is known at the ends of a block -/
structure Ds (ν β ρ ξ : Type) where
  n : ν → Cx0
  b : β → Cx0
  t : ρ → Ow
  r : ρ → Cx0
  x : ξ → Cx0
section
variable {T : Tb} {cs : List Nat} {C : Kc} {Γ : Cx0} {α ν ν' β ρ ξ : Type}
def Post (C : Kc) (D : Ds ν β ρ ξ) (m : Out ν β ρ ξ) (W : WX) (E : Ends) (B Z : Hp) : Prop := match m with
  | .nx x => ∀ σ B' H fp, Gz B Z B' → Oks (D.n x) σ B' Z H fp → E.nx σ H
  | .bk x => ∀ σ B' H fp, Gz B Z B' → Oks (D.b x) σ B' Z H fp → E.bk σ H
  | .ct x => ∀ σ B' H fp, Gz B Z B' → Oks (D.b x) σ B' Z H fp → E.ct σ H
  | .rt x => ∀ v σ B' H fp, Gz B Z B' → Oks (some (D.t x) :: D.r x) (some v :: σ) B' Z H fp → E.rt v H
  | .exc e x => ∀ cls d σ B' H fp, Gz B Z B' → Oks (D.x x) σ B' Z H fp → ExR C e cls d Z B' → W cls d σ H
  | .bad => False
theorem Post.up {D : Ds ν β ρ ξ} {m : Out ν β ρ ξ} {W : WX} {E : Ends} {B Z B' : Hp} (h : Post C D m W E B Z) (g : Gz B Z B') : Post C D m W E B' Z := by
  cases m with
  | nx x => exact fun σ B2 H fp g2 o => h σ B2 H fp (g.trans g2) o
  | bk x => exact fun σ B2 H fp g2 o => h σ B2 H fp (g.trans g2) o
  | ct x => exact fun σ B2 H fp g2 o => h σ B2 H fp (g.trans g2) o
  | rt x => exact fun v σ B2 H fp g2 o => h v σ B2 H fp (g.trans g2) o
  | exc e x => exact fun cls d σ B2 H fp g2 o => h cls d σ B2 H fp (g.trans g2) o
  | bad => exact h
def Blk (T : Tb) (cs : List Nat) (C : Kc) (D : Ds ν β ρ ξ) (Γ : Cx0) (s : S) (m : Out ν β ρ ξ) : Prop :=
  ∀ (W : WX) (E : Ends) (σ : L2.St) (B Z H : Hp) (fp : List Addr), Oks Γ σ B Z H fp → Post C D m W E B Z → rs T cs s C W E σ H
/-- an expression that may change things: its worth, then k -/
def EvX (T : Tb) (C : Kc) (D : Ds ν β ρ ξ) (Γ : Cx0) (e : E) (τ : α → Ow) (Γ' : α → Cx0) (k : α → Out ν β ρ ξ) (m : Out ν β ρ ξ) : Prop :=
  ∀ (W : WX) (E : Ends) (σ : L2.St) (B Z H : Hp) (fp : List Addr) (Q : VK), Oks Γ σ B Z H fp → Post C D m W E B Z →
    (∀ x v B' H' fp', Gz B Z B' → Oks (some (τ x) :: Γ' x) (some v :: σ) B' Z H' fp' → Post C D (k x) W E B' Z → Q v H') → (rd T C e W).E σ H Q
theorem Blk.wk {D : Ds ν β ρ ξ} {Γ' : Cx0} {s : S} {m : Out ν β ρ ξ} (h : Blk T cs C D Γ' s m) (w : Wk Γ Γ') : Blk T cs C D Γ s m := fun W E σ B Z H fp o p => by
  obtain ⟨fq, o'⟩ := o.wk w
  exact h W E σ B Z H fq o' p
/-- an expression's error leaves -/
theorem exc_post {D : Ds ν β ρ ξ} {e : Ex} {x0 : ξ} {W : WX} {E : Ends} {σ : L2.St} {B Z H H' : Hp} {fp : List Addr} {cls : Value} {d : Option Addr} (o : Oks Γ σ B Z H fp) (w : Wk Γ (D.x x0)) (p : Post C D (.exc e x0) W E B Z) (s : Same H H') (r : ExR C e cls d H H') : W cls d σ H' := by
  have o1 := o.gon (Gon.up o.b s)
  obtain ⟨r1, ⟨r2, r3⟩ | ⟨a, r2, r3, r4⟩⟩ := r
  · obtain ⟨fq, o2⟩ := o1.wk w
    exact p cls d σ B H' fq (Gz.refl _ _) o2 ⟨r1, .inl ⟨r2, r3⟩⟩
  · have hB := none_back o.b r4
    have hZ := none_back o.z r4
    have ne : ∀ b ∈ fp, b ≠ a := fun b hb q => by
      have := o.env.al b hb
      rw [q, r4] at this; cases this
    have hb : Same B (upd B a (.xd e.fs)) := sm_new hB
    have o3 : Oks Γ σ (upd B a (.xd e.fs)) Z H' fp := ⟨o1.env.mono hb (fun _ _ => rfl), o1.nd, fun b hb => ⟨(o1.fr b hb).1, by rw [upd_ne (ne b hb)]; exact (o1.fr b hb).2⟩, fun b u q => by
      by_cases h : b = a
      · subst h
        rw [upd_same] at q
        cases q
        exact r3
      · rw [upd_ne h] at q
        exact o1.b b u q, o1.z⟩
    obtain ⟨fq, o2⟩ := o3.wk w
    refine p cls d σ _ H' fq ⟨hb, fun b u q => ?_⟩ o2 ⟨r1, .inr ⟨a, r2, upd_same, hZ⟩⟩
    by_cases h : b = a
    · subst h; exact .inr (.inl hZ)
    · rw [upd_ne h] at q; exact .inl q
/-- a pure expression -/
theorem evx {D : Ds ν β ρ ξ} {e : E} {τ : α → Ow} {m : Res α} {x0 : ξ} {k : α → Out ν β ρ ξ} (h : EvO T C Γ e τ m) (w : Wk Γ (D.x x0)) : EvX T C D Γ e τ (fun _ => Γ) k (m.to x0 k) := fun W E σ B Z H fp Q o p q => by
  refine h W σ B H Q o.envC ?_
  cases m with
  | ok x => exact fun v B' H' g ⟨fq, r, n, f⟩ => q x v B' H' _ (g.gz o.z) (o.put g r n f) (p.up (g.gz o.z))
  | exc e =>
    intro cls d H' s r
    exact exc_post o w p s r
  | bad => exact p
/-- a name's thing is handed on -/
theorem evx_mv {D : Ds ν β ρ ξ} {i : Nat} {o : Ow} {k : Unit → Out ν β ρ ξ} (h : Γ[i]? = some (some o)) : EvX T C D Γ (.var i) (fun _ => o) (fun _ => Γ.set i none) k (k ()) := fun W E σ B Z H fp Q ok p q => by
  have : ∀ {Γ : Cx0} {σ : List (Option V)} {fp : List Addr} {i : Nat}, EnvO B H σ Γ fp → Γ[i]? = some (some o) → ∃ v f g, σ[i]? = some (some v) ∧ o.rel B H v f ∧ EnvO B H σ (Γ.set i none) g ∧ (f ++ g).Perm fp := fun {Γ} => by
    induction Γ with
    | nil => intro σ fp i _ e; simp at e
    | cons a Γ ih =>
      intro σ fp i h e
      cases σ with
      | nil => cases a <;> cases h
      | cons u σ =>
        cases i with
        | zero =>
          simp only [List.getElem?_cons_zero, Option.some.injEq] at e
          subst e
          obtain ⟨v, f, g, h0, h1, h2, h3⟩ := h
          subst h0 h1
          exact ⟨v, f, g, rfl, h2, h3, .refl _⟩
        | succ i =>
          simp only [List.getElem?_cons_succ] at e
          cases a with
          | none =>
            obtain ⟨v, f, g, q1, q2, q3, q4⟩ := ih (σ := σ) h e
            exact ⟨v, f, g, q1, q2, q3, q4⟩
          | some b =>
            obtain ⟨w, f0, g0, h0, h1, h2, h3⟩ := h
            obtain ⟨v, f, g, q1, q2, q3, q4⟩ := ih h3 e
            subst h1
            refine ⟨v, f, f0 ++ g, q1, q2, ⟨w, f0, g, h0, rfl, h2, q3⟩, ?_⟩
            exact (List.perm_append_comm_assoc f f0 g).trans (q4.append_left f0)
  obtain ⟨v, f, g, q1, q2, q3, q4⟩ := this ok.env h
  refine ⟨v, q1, q () v B H (f ++ g) (Gz.refl _ _) ⟨⟨v, f, g, rfl, rfl, q2, q3⟩, q4.nodup_iff.mpr ok.nd, fun a ha => ok.fr a (q4.mem_iff.mp ha), ok.b, ok.z⟩ p⟩
end
end Q
/-! Q15: statements, typed: the rules. -/
namespace Q
open PySem L2 PySem.Spec
def gdO {ν β ρ ξ : Type} (b : Bool) (m : Out ν β ρ ξ) : Out ν β ρ ξ := match b with
  | true => m
  | false => .bad
@[simp] theorem gdO_true {ν β ρ ξ : Type} (m : Out ν β ρ ξ) : gdO true m = m := rfl
/-- it never falls through -/
def S.trm : S → Bool
  | .ret _ => true
  | .retN => true
  | .rse0 _ => true
  | .rse _ _ => true
  | .brk => true
  | .cnt => true
  | .seq a b => a.trm || b.trm
  | .ife _ a b => a.trm && b.trm
  | _ => false
section
variable {T : Tb} {cs : List Nat} {C : Kc} {Γ : Cx0} {α ν ν' β ρ ξ γ : Type}
theorem trm_nx (f : L2.St → Hp → Prop) (W : WX) : ∀ (s : S), s.trm = true → ∀ (E : Ends) (σ : L2.St) (H : Hp), rs T cs s C W { E with nx := f } σ H = rs T cs s C W E σ H
  | .ret _, _, _, _, _ => rfl
  | .retN, _, _, _, _ => rfl
  | .rse0 _, _, _, _, _ => rfl
  | .rse _ _, _, _, _, _ => rfl
  | .brk, _, _, _, _ => rfl
  | .cnt, _, _, _, _ => rfl
  | .seq a b, h, E, σ, H => by
    simp only [S.trm, Bool.or_eq_true] at h
    show rs T cs a C W { E with nx := rs T cs b C W { E with nx := f } } σ H = rs T cs a C W { E with nx := rs T cs b C W E } σ H
    rcases h with h | h
    · rw [trm_nx (rs T cs b C W { E with nx := f }) W a h E, trm_nx (rs T cs b C W E) W a h E]
    · rw [show rs T cs b C W { E with nx := f } = rs T cs b C W E from funext fun σ => funext fun H => trm_nx f W b h E σ H]
  | .ife t a b, h, E, σ, H => by
    simp only [S.trm, Bool.and_eq_true] at h
    show (rd T C t W).T σ H _ = (rd T C t W).T σ H _
    congr 1
    funext c H1
    cases c with
    | true => exact trm_nx f W a h.1 E σ H1
    | false => exact trm_nx f W b h.2 E σ H1
theorem Oks.tail {o : Ow} {v : Option V} {σ : L2.St} {B Z H : Hp} {fp : List Addr} (h : Oks (some o :: Γ) (v :: σ) B Z H fp) : ∃ fq, Oks Γ σ B Z H fq := by
  obtain ⟨⟨u, f, g, h0, h1, h2, h3⟩, nd, fr, b, z⟩ := h
  subst h1
  exact ⟨g, h3, (List.nodup_append.mp nd).2.1, fun a ha => fr a (List.mem_append_right _ ha), b, z⟩
theorem Oks.le {a b : Ow} {v : Option V} {σ : L2.St} {Γ' : Cx0} {B Z H : Hp} {fp : List Addr} (h : Oks (some a :: Γ) (v :: σ) B Z H fp) (l : Le a b) (w : Wk Γ Γ') : ∃ fq, Oks (some b :: Γ') (v :: σ) B Z H fq := h.wk (.imp l w)
/-! blocks -/
theorem b_nop {D : Ds ν β ρ ξ} {x : ν} (w : Wk Γ (D.n x)) : Blk T cs C D Γ .nop (.nx x) := fun W E σ B Z H fp o p => by
  obtain ⟨fq, o2⟩ := o.wk w
  exact p σ B H fq (Gz.refl _ _) o2
theorem b_seq {D : Ds ν β ρ ξ} {Γ1 : ν' → Cx0} {a s : S} {m : Out ν' β ρ ξ} {k : ν' → Out ν β ρ ξ} (ha : Blk T cs C { D with n := Γ1 } Γ a m) (hs : ∀ x, Blk T cs C D (Γ1 x) s (k x)) : Blk T cs C D Γ (.seq a s) (m.then k) := fun W E σ B Z H fp o p => by
  show rs T cs a C W { E with nx := rs T cs s C W E } σ H
  refine ha W _ σ B Z H fp o ?_
  cases m with
  | nx x => exact fun σ' B' H' fp' g o' => hs x W E σ' B' Z H' fp' o' (Post.up p g)
  | bk x => exact p
  | ct x => exact p
  | rt x => exact p
  | exc e x => exact p
  | bad => exact p
theorem b_asg {D : Ds ν β ρ ξ} {i : Nat} {e : E} {s : S} {τ : α → Ow} {Γ' : α → Cx0} {k : α → Out ν β ρ ξ} {m : Out ν β ρ ξ} (h : EvX T C D Γ e τ Γ' k m) (l : ∀ x, i < (Γ' x).length) (hs : ∀ x, Blk T cs C D ((Γ' x).set i (some (τ x))) s (k x)) :
    Blk T cs C D Γ (.seq (.asg i e) s) m := fun W E σ B Z H fp o p => by
  show (rd T C e W).E σ H _
  refine h W E σ B Z H fp _ o p fun x v B1 H1 fq g1 o1 p1 => ?_
  obtain ⟨fr, o2⟩ := o1.set (l x)
  exact hs x W E _ B1 Z H1 fr o2 p1
theorem b_exp {D : Ds ν β ρ ξ} {e : E} {s : S} {τ : α → Ow} {Γ' : α → Cx0} {k : α → Out ν β ρ ξ} {m : Out ν β ρ ξ} (h : EvX T C D Γ e τ Γ' k m) (hs : ∀ x, Blk T cs C D (Γ' x) s (k x)) : Blk T cs C D Γ (.seq (.exp e) s) m := fun W E σ B Z H fp o p => by
  show (rd T C e W).E σ H _
  refine h W E σ B Z H fp _ o p fun x v B1 H1 fq g1 o1 p1 => ?_
  obtain ⟨fr, o2⟩ := o1.tail
  exact hs x W E _ B1 Z H1 fr o2 p1
theorem b_ret {D : Ds ν β ρ ξ} {e : E} {s : S} {τ : α → Ow} {Γ' : α → Cx0} {g : α → ρ} {m : Out ν β ρ ξ} (h : EvX T C D Γ e τ Γ' (fun x => .rt (g x)) m) (ht : ∀ x, Le (τ x) (D.t (g x))) (w : ∀ x, Wk (Γ' x) (D.r (g x))) : Blk T cs C D Γ (.seq (.ret e) s) m := fun W E σ B Z H fp o p => by
  show (rd T C e W).E σ H _
  refine h W E σ B Z H fp _ o p fun x v B1 H1 fq g1 o1 p1 => ?_
  obtain ⟨fr, o2⟩ := o1.le (ht x) (w x)
  exact p1 v σ B1 H1 fr (Gz.refl _ _) o2
theorem b_pas {D : Ds ν β ρ ξ} {s : S} {m : Out ν β ρ ξ} (hs : Blk T cs C D Γ s m) : Blk T cs C D Γ (.seq .pas s) m := fun W E σ B Z H fp o p => hs W E σ B Z H fp o p
theorem b_brk {D : Ds ν β ρ ξ} {s : S} {x : β} (w : Wk Γ (D.b x)) : Blk T cs C D Γ (.seq .brk s) (.bk x) := fun W E σ B Z H fp o p => by
  obtain ⟨fq, o2⟩ := o.wk w
  exact p σ B H fq (Gz.refl _ _) o2
theorem b_cnt {D : Ds ν β ρ ξ} {s : S} {x : β} (w : Wk Γ (D.b x)) : Blk T cs C D Γ (.seq .cnt s) (.ct x) := fun W E σ B Z H fp o p => by
  obtain ⟨fq, o2⟩ := o.wk w
  exact p σ B H fq (Gz.refl _ _) o2
theorem b_rse0 {D : Ds ν β ρ ξ} {c : Nat} {s : S} {x : ξ} (w : Wk Γ (D.x x)) : Blk T cs C D Γ (.seq (.rse0 c) s) (.exc ⟨c, []⟩ x) := fun W E σ B Z H fp o p => by
  obtain ⟨fq, o2⟩ := o.wk w
  exact p _ none σ B H fq (Gz.refl _ _) o2 ⟨rfl, .inl ⟨rfl, rfl⟩⟩
theorem evt_post {D : Ds ν β ρ ξ} {t : E} {m : Res Bool} {x0 : ξ} {k : Bool → Out ν β ρ ξ} (h : EvT T C Γ t m) (w : Wk Γ (D.x x0)) {W : WX} {E : Ends} {σ : L2.St} {B Z H : Hp} {fp : List Addr} {Q : Bool → Hp → Prop} (o : Oks Γ σ B Z H fp) (p : Post C D (m.to x0 k) W E B Z)
    (q : ∀ b B' H', Gon B H B' H' → Oks Γ σ B' Z H' fp → Post C D (k b) W E B' Z → Q b H') : (rd T C t W).T σ H Q := by
  refine h W σ B H Q o.envC ?_
  cases m with
  | ok c => exact fun B1 H1 g1 => q c B1 H1 g1 (o.gon g1) (p.up (g1.gz o.z))
  | exc e =>
    intro cls d H' s r
    exact exc_post o w p s r
  | bad => exact p
/-- if, the end of a block -/
theorem b_if {D : Ds ν β ρ ξ} {t : E} {a b : S} {m : Res Bool} {x0 : ξ} {ma mb : Out ν β ρ ξ} (h : EvT T C Γ t m) (w : Wk Γ (D.x x0)) (ha : Blk T cs C D Γ a ma) (hb : Blk T cs C D Γ b mb) : Blk T cs C D Γ (.ife t a b) (m.to x0 fun c => cond c ma mb) := fun W E σ B Z H fp o p => by
  show (rd T C t W).T σ H _
  refine evt_post h w o p fun c B1 H1 g1 o1 p1 => ?_
  cases c with
  | true => exact ha W E σ B1 Z H1 fp o1 p1
  | false => exact hb W E σ B1 Z H1 fp o1 p1
theorem b_end {D : Ds ν β ρ ξ} {a : S} {m : Out ν β ρ ξ} (ha : Blk T cs C D Γ a m) : Blk T cs C D Γ (.seq a .nop) m := fun W E σ B Z H fp o p => by
  exact ha W E σ B Z H fp o p
/-- if t: a (which leaves); the rest -/
theorem b_ifL {D : Ds ν β ρ ξ} {t : E} {a s : S} {m : Res Bool} {x0 : ξ} {ma ms : Out ν β ρ ξ} (h : EvT T C Γ t m) (w : Wk Γ (D.x x0)) (ht : a.trm = true) (ha : Blk T cs C D Γ a ma) (hs : Blk T cs C D Γ s ms) : Blk T cs C D Γ (.seq (.ife t a .nop) s) (m.to x0 fun c => cond c ma ms) := fun W E σ B Z H fp o p => by
  show (rd T C t W).T σ H _
  refine evt_post h w o p fun c B1 H1 g1 o1 p1 => ?_
  cases c with
  | true =>
    show rs T cs a C W { E with nx := rs T cs s C W E } σ H1
    rw [trm_nx _ W a ht E]
    exact ha W E σ B1 Z H1 fp o1 p1
  | false => exact hs W E σ B1 Z H1 fp o1 p1
/-! own things are changed -/
theorem EnvO.focus {B H : Hp} {o : Ow} : ∀ {Γ : Cx0} {σ : List (Option V)} {fp : List Addr} {i : Nat}, EnvO B H σ Γ fp → Γ[i]? = some (some o) → ∃ v f g, σ[i]? = some (some v) ∧ o.rel B H v f ∧ (f ++ g).Perm fp ∧
    ∀ B' H' o' f', Same B B' → (∀ a ∈ g, H' a = H a) → o'.rel B' H' v f' → ∃ fp', EnvO B' H' σ (Γ.set i (some o')) fp' ∧ (f' ++ g).Perm fp'
  | [], _, _, _, _, e => by simp at e
  | none :: Γ, [], _, _, h, _ => by cases h
  | some _ :: Γ, [], _, _, h, _ => by cases h
  | none :: Γ, u :: σ, fp, 0, h, e => by simp at e
  | none :: Γ, u :: σ, fp, i + 1, h, e => by
    simp only [List.getElem?_cons_succ] at e
    exact EnvO.focus (Γ := Γ) (σ := σ) h e
  | some a :: Γ, u :: σ, fp, 0, ⟨v, f, g, h0, h1, h2, h3⟩, e => by
    simp only [List.getElem?_cons_zero, Option.some.injEq] at e
    subst e h0 h1
    exact ⟨v, f, g, rfl, h2, .refl _, fun B' H' o' f' b n r => ⟨f' ++ g, ⟨v, f', g, rfl, rfl, r, h3.mono b n⟩, .refl _⟩⟩
  | some a :: Γ, u :: σ, fp, i + 1, ⟨w, f0, g0, h0, h1, h2, h3⟩, e => by
    simp only [List.getElem?_cons_succ] at e
    obtain ⟨v, f, g, q1, q2, q3, q4⟩ := EnvO.focus h3 e
    subst h1
    refine ⟨v, f, f0 ++ g, q1, q2, (List.perm_append_comm_assoc f f0 g).trans (q3.append_left f0), fun B' H' o' f' b n r => ?_⟩
    obtain ⟨fp', z1, z2⟩ := q4 B' H' o' f' b (fun a ha => n a (List.mem_append_right _ ha)) r
    exact ⟨f0 ++ fp', ⟨w, f0, fp', h0, rfl, a.mono b (fun a ha => n a (List.mem_append_left _ ha)) h2, z1⟩, (List.perm_append_comm_assoc f' f0 g).trans (z2.append_left f0)⟩
/-- xs.append(e) -/
theorem b_app {D : Ds ν β ρ ξ} {i : Nat} {e : E} {s : S} {q : V → Prop} {os : List Ow} {τ : α → Ow} {m : Res α} {x0 : ξ} {k : α → Out ν β ρ ξ} (hi : Γ[i]? = some (some (oQ q (oLs C os)))) (h : EvO T C Γ e τ m) (w : Wk Γ (D.x x0))
    (hs : ∀ x, Blk T cs C D (Γ.set i (some (oQ q (oLs C (os ++ [τ x]))))) s (k x)) : Blk T cs C D Γ (.seq (.exp (.bm .lApp (.var i) (.cons e .nil))) s) (m.to x0 fun x => gdO (decide (os.length < sizeLine)) (k x)) := fun W E σ B Z H fp o p => by
  obtain ⟨v, f, g, q1, ⟨qv, l, vs, f0, rfl, hl, ho, rfl⟩, q3, q4⟩ := o.env.focus hi
  refine ⟨.ref l, q1, .inl ⟨rfl, vs, .inl (.inl hl)⟩, ?_⟩
  show (rd T C e W).E σ H _
  refine h W σ B H _ o.envC ?_
  cases m with
  | bad => exact p
  | exc e =>
    intro cls d H' s r
    exact exc_post o w p s r
  | ok x =>
    intro u B1 H1 g1 ⟨fq, r, n, fr⟩
    replace p : Post C D (gdO (decide (os.length < sizeLine)) (k x)) W E B Z := p
    cases hz : decide (os.length < sizeLine) with
    | false => rw [hz] at p; exact p.elim
    | true =>
      rw [hz] at p
      have ln := ho.len
      have al : ∀ a ∈ fp, (H a).isSome = true := o.env.al
      have inf : ∀ a ∈ l :: f0, a ∈ fp := fun a ha => q3.mem_iff.mp (List.mem_append_left _ ha)
      have ing : ∀ a ∈ g, a ∈ fp := fun a ha => q3.mem_iff.mp (List.mem_append_right _ ha)
      have nd := q3.nodup_iff.mpr o.nd
      obtain ⟨n1, n2, n3⟩ := List.nodup_append.mp nd
      have hl1 : H1 l = some (.lst vs) := g1.h l _ hl
      refine ⟨l, vs, u, rfl, rfl, hl1, by rw [ln]; exact of_decide_eq_true hz, ?_⟩
      have old : ∀ a ∈ fp, H1 a = H a := fun a ha => by
        obtain ⟨o, ho⟩ := Option.isSome_iff_exists.mp (al a ha)
        rw [ho, g1.h a o ho]
      have lq : l ∉ fq := fun z => by
        have := (fr l z).1
        rw [hl] at this; cases this
      have lf : l ∉ f0 := (List.nodup_cons.mp n1).1
      have lg : l ∉ g := fun z => n3 l List.mem_cons_self l z rfl
      have up : ∀ a, a ≠ l → upd H1 l (.lst (vs ++ [u])) a = H1 a := fun a ha => upd_ne ha
      obtain ⟨fp', z1, z2⟩ := q4 B1 (upd H1 l (.lst (vs ++ [u]))) (oQ q (oLs C (os ++ [τ x]))) (l :: (f0 ++ fq)) g1.b (fun a ha => by
          rw [up a (fun z => lg (z ▸ ha))]
          exact old a (ing a ha)) ⟨qv, l, vs ++ [u], f0 ++ fq, rfl, upd_same, OwL.append (OwL.mono g1.b (fun a ha => by
          rw [up a (fun z => lf (z ▸ ha))]
          exact old a (inf a (List.mem_cons_of_mem _ ha))) ho) ⟨fq, [], by simp, (τ x).mono (sm_refl _) (fun a ha => up a (fun z => lq (z ▸ ha))) r, rfl⟩, rfl⟩
      have hm : ∀ a, a ∈ fp' ↔ a ∈ fp ∨ a ∈ fq := fun a => by
        rw [← z2.mem_iff, ← q3.mem_iff]
        simp only [List.mem_append, List.mem_cons]
        constructor
        · rintro ((h | h | h) | h)
          · exact .inl (.inl (.inl h))
          · exact .inl (.inl (.inr h))
          · exact .inr h
          · exact .inl (.inr h)
        · rintro (((h | h) | h) | h)
          · exact .inl (.inl h)
          · exact .inl (.inr (.inl h))
          · exact .inr h
          · exact .inl (.inr (.inr h))
      refine hs x W E σ B1 Z _ fp' ⟨z1, z2.nodup_iff.mp ?_, fun a ha => ?_, fun a o e => ?_, fun a o e => ?_⟩ (p.up (g1.gz o.z))
      · refine List.nodup_append.mpr ⟨List.nodup_cons.mpr ⟨fun z => (List.mem_append.mp z).elim lf lq, List.nodup_append.mpr ⟨(List.nodup_cons.mp n1).2, n, fun a ha b hb e => ?_⟩⟩, n2, fun a ha b hb e => ?_⟩
        · subst e
          have := al a (inf a (List.mem_cons_of_mem _ ha))
          rw [(fr a hb).1] at this; cases this
        · rcases List.mem_cons.mp ha with rfl | ha
          · exact n3 a List.mem_cons_self b hb e
          · rcases List.mem_append.mp ha with ha | ha
            · exact n3 a (List.mem_cons_of_mem _ ha) b hb e
            · subst e
              have := al a (ing a hb)
              rw [(fr a ha).1] at this; cases this
      · rcases (hm a).mp ha with ha | ha
        · exact ⟨(o.fr a ha).1, newB_none g1.n (o.fr a ha).2 (al a ha) (o.env.nt a ha)⟩
        · exact ⟨none_back o.z (fr a ha).1, (fr a ha).2⟩
      · rw [up a (fun z => ?_)]
        · exact g1.s a o e
        · subst z
          have := newB_none g1.n (Oks.fr ‹_› a (inf a List.mem_cons_self)).2 (by rw [hl]; rfl) (fun us z => by rw [hl] at z; cases z; rfl)
          rw [this] at e; cases e
      · rw [up a (fun z => ?_)]
        · exact g1.h a _ (Oks.z ‹_› a _ e)
        · subst z
          have := (Oks.fr ‹_› a (inf a List.mem_cons_self)).1
          rw [this] at e; cases e
end
end Q
/-! Q16: loops, typed; defs. -/
namespace Q
open PySem L2 PySem.Spec
section
variable {α ν β ρ ξ : Type}
def loopO (f : α → ν → Out ν ν ρ ξ) : List α → ν → Out ν β ρ ξ
  | [], s => .nx s
  | x :: xs, s => match f x s with
    | .nx s' => loopO f xs s'
    | .ct s' => loopO f xs s'
    | .bk s' => .nx s'
    | .rt r => .rt r
    | .exc e y => .exc e y
    | .bad => .bad
end
section
variable {T : Tb} {cs : List Nat} {C : Kc} {Γ : Cx0} {α ν ν' β ρ ξ γ κ : Type}
theorem for_core {D : Ds ν' β ρ ξ} {Γ0 : ν → Cx0} {Γ1 : α → ν → Cx0} {f : α → ν → Out ν ν ρ ξ} {xs : List α} {J : It} {js : List Nat} {b : S} {W : WX} {E : Ends} {B Z H : Hp} {σ : L2.St} {fp : List Addr} {s0 : ν}
    (go : ∀ (i : Nat) (x : α), xs[i]? = some x → ∀ (B' H : Hp), Gz B Z B' → Same B' H → J.go i H) (stop : ∀ (B' H : Hp), Gz B Z B' → Same B' H → J.stop xs.length H)
    (asg : ∀ (i : Nat) (x : α), xs[i]? = some x → ∀ σ B' H fp st v H' Q, Gz B Z B' → Oks (Γ0 st) σ B' Z H fp → J.yld i H v H' → (∀ σ2 fp2, Oks (Γ1 x st) σ2 B' Z H' fp2 → Q σ2 H') → gTg C.K js v σ H' Q)
    (hb : ∀ x st, Blk T cs C ({ n := Γ0, b := Γ0, t := D.t, r := D.r, x := D.x } : Ds ν ν ρ ξ) (Γ1 x st) b (f x st)) (p : Post C ({ n := Γ0, b := D.b, t := D.t, r := D.r, x := D.x } : Ds ν β ρ ξ) (loopO f xs s0) W E B Z) (o : Oks (Γ0 s0) σ B Z H fp) :
    ∃ Wi : Nat → Nat → L2.St → Hp → Prop, (∃ m, Wi 0 m σ H) ∧ ∀ i m σ H, Wi i m σ H → (J.stop i H ∧ E.nx σ H) ∨ (J.go i H ∧ ∃ N : L2.St → Hp → Prop, (∀ σ' H', N σ' H' → ∃ m', m' < m ∧ Wi (i + 1) m' σ' H') ∧ ∀ x H', J.yld i H x H' → gTg C.K js x σ H' fun σ2 H2 => rs T cs b C W { E with nx := N, ct := N, bk := E.nx } σ2 H2) := by
  let Wi : Nat → Nat → L2.St → Hp → Prop := fun i m σ H => i + m = xs.length ∧ ∃ st B' fp, Gz B Z B' ∧ Oks (Γ0 st) σ B' Z H fp ∧ Post C ({ n := Γ0, b := D.b, t := D.t, r := D.r, x := D.x } : Ds ν β ρ ξ) (loopO f (xs.drop i) st) W E B' Z
  refine ⟨Wi, ⟨xs.length, by omega, s0, B, fp, Gz.refl _ _, o, by rw [List.drop_zero]; exact p⟩, fun i m σ H ⟨hm, st, B', fp, g, o, p⟩ => ?_⟩
  rcases Nat.lt_or_ge i xs.length with hi | hi
  · refine .inr ?_
    obtain ⟨x, hx⟩ : ∃ x, xs[i]? = some x := ⟨xs[i], List.getElem?_eq_getElem hi⟩
    have hd : xs.drop i = x :: xs.drop (i + 1) := by
      rw [List.drop_eq_getElem_cons hi]
      rw [List.getElem?_eq_getElem hi] at hx
      cases hx
      rfl
    refine ⟨go i x hx B' H g o.b, Wi (i + 1) (m - 1), fun σ' H' w => ⟨m - 1, by omega, w⟩, fun v H' hy => ?_⟩
    refine asg i x hx σ B' H fp st v H' _ g o hy fun σ2 fp2 o2 => ?_
    refine hb x st W _ σ2 B' Z H' fp2 o2 ?_
    rw [hd] at p
    unfold loopO at p
    cases q : f x st with
    | nx s' =>
      rw [q] at p
      exact fun σ3 B3 H3 fp3 g3 o3 => ⟨by omega, s', B3, fp3, g.trans g3, o3, p.up g3⟩
    | ct s' =>
      rw [q] at p
      exact fun σ3 B3 H3 fp3 g3 o3 => ⟨by omega, s', B3, fp3, g.trans g3, o3, p.up g3⟩
    | bk s' => rw [q] at p; exact p
    | rt r => rw [q] at p; exact p
    | exc e y => rw [q] at p; exact p
    | bad => rw [q] at p; exact p
  · refine .inl ?_
    have hi2 : i = xs.length := by omega
    subst hi2
    refine ⟨stop B' H g o.b, ?_⟩
    rw [List.drop_length] at p
    exact p σ B' H fp (Gz.refl _ _) o
/-- a frozen thing is put into a name -/
theorem Oks.setV {w : Vw} {v : V} {σ : L2.St} {B Z H : Hp} {fp : List Addr} {i : Nat} (h : Oks Γ σ B Z H fp) (r : w.rel B v) (l : i < Γ.length) : ∃ fp', Oks (Γ.set i (some (oV w))) (σ.set i (some v)) B Z H fp' :=
  Oks.set (o := oV w) (v := v) (fp := fp) ⟨⟨v, [], fp, rfl, rfl, ⟨r, rfl⟩, h.env⟩, h.nd, h.fr, h.b, h.z⟩ l
/-- many names -/
def setL : Cx0 → List Nat → List Vw → Cx0
  | Γ, i :: is, w :: ws => setL (Γ.set i (some (oV w))) is ws
  | Γ, _, _ => Γ
theorem setL_ok {B Z H : Hp} : ∀ {is : List Nat} {ws : List Vw} {vs : List V} {Γ : Cx0} {σ : L2.St} {fp : List Addr} {Q : L2.St → Hp → Prop}, VwL B vs ws → is.length = ws.length → (∀ i ∈ is, i < Γ.length) → Oks Γ σ B Z H fp → (∀ σ2 fp2, Oks (setL Γ is ws) σ2 B Z H fp2 → Q σ2 H) → gNs is vs σ H Q
  | [], [], _, _, _, _, _, .nil, _, _, o, q => ⟨rfl, q _ _ o⟩
  | i :: is, w :: ws, _, Γ, σ, fp, Q, .cons (a := v) (l₁ := vs) h l, e, b, o, q => by
    obtain ⟨fp', o'⟩ := o.setV h (b i List.mem_cons_self)
    exact ⟨v, vs, rfl, setL_ok l (by simpa using e) (fun j hj => by rw [List.length_set]; exact b j (List.mem_cons_of_mem _ hj)) o' q⟩
theorem gz_same {B Z B' H : Hp} (g : Gz B Z B') (s : Same B' H) : Same B H := sm_trans g.b s
theorem paired_at {β : Type} {F : V → β → Prop} : ∀ {vs : List V} {xs : List β} {i : Nat} {x : β}, Paired F vs xs → xs[i]? = some x → ∃ v, vs[i]? = some v ∧ F v x
  | _, _, _, _, .nil, e => by simp at e
  | _, _, 0, _, .cons h l, e => by
    simp only [List.getElem?_cons_zero, Option.some.injEq] at e
    subst e
    exact ⟨_, rfl, h⟩
  | _, _, i + 1, _, .cons h l, e => by
    simp only [List.getElem?_cons_succ] at e ⊢
    exact paired_at l e
theorem vwl_nth {H : Hp} {vs : List V} {xs : List α} {τ : α → Vw} {i : Nat} {x : α} (h : VwL H vs (xs.map τ)) (e : xs[i]? = some x) : ∃ v, vs[i]? = some v ∧ (τ x).rel H v := h.nth (by rw [List.getElem?_map, e]; rfl)
/-- a pure expression at the head of a statement -/
theorem evo_post {D : Ds ν β ρ ξ} {e : E} {τ : α → Ow} {m : Res α} {x0 : ξ} {k : α → Out ν β ρ ξ} (h : EvO T C Γ e τ m) (w : Wk Γ (D.x x0)) {W : WX} {E : Ends} {σ : L2.St} {B Z H : Hp} {fp : List Addr} {Q : VK} (o : Oks Γ σ B Z H fp) (p : Post C D (m.to x0 k) W E B Z)
    (q : ∀ x v B' H' fq, Gon B H B' H' → (τ x).rel B' H' v fq → Oks Γ σ B' Z H' fp → Post C D (k x) W E B' Z → Q v H') : (rd T C e W).E σ H Q := by
  refine h W σ B H Q o.envC ?_
  cases m with
  | ok x => exact fun v B' H' g ⟨fq, r, n, f⟩ => q x v B' H' fq g r (o.gon g) (p.up (g.gz o.z))
  | exc e =>
    intro cls d H' s r
    exact exc_post o w p s r
  | bad => exact p
theorem post_then {D : Ds ν β ρ ξ} {Γ1 : ν' → Cx0} {s : S} {m : Out ν' β ρ ξ} {k : ν' → Out ν β ρ ξ} {W : WX} {E : Ends} {B Z : Hp} (p : Post C D (m.then k) W E B Z) (hs : ∀ x, Blk T cs C D (Γ1 x) s (k x)) : Post C ({ n := Γ1, b := D.b, t := D.t, r := D.r, x := D.x } : Ds ν' β ρ ξ) m W { E with nx := rs T cs s C W E } B Z := by
  cases m with
  | nx x => exact fun σ' B' H' fp' g o' => hs x W E σ' B' Z H' fp' o' (Post.up p g)
  | bk x => exact p
  | ct x => exact p
  | rt x => exact p
  | exc e x => exact p
  | bad => exact p
/-- for x in xs, xs a frozen list -/
theorem b_forL {D : Ds ν' β ρ ξ} {Γ0 : ν → Cx0} {e : E} {j : Nat} {b s : S} {τ : α → Vw} {f : α → ν → Out ν ν ρ ξ} {k : ν → Out ν' β ρ ξ} {m : Res (List α)} {x0 : ξ} {s0 : ν} (h : EvO T C Γ e (fun xs => oV (vL C τ xs)) m) (w : Wk Γ (D.x x0)) (w0 : Wk Γ (Γ0 s0))
    (l : ∀ st, j < (Γ0 st).length) (hb : ∀ x st, Blk T cs C ({ n := Γ0, b := Γ0, t := D.t, r := D.r, x := D.x } : Ds ν ν ρ ξ) ((Γ0 st).set j (some (oV (τ x)))) b (f x st)) (hs : ∀ st, Blk T cs C D (Γ0 st) s (k st)) :
    Blk T cs C D Γ (.seq (.for [j] (.iL e) b) s) (m.to x0 fun xs => (loopO f xs s0).then k) := fun W E σ B Z H fp o p => by
  show (rd T C e W).E σ H _
  refine evo_post h w o p fun xs v B1 H1 fq g1 r o1 p1 => ?_
  obtain ⟨⟨a, vs, rfl, hl, hv⟩, rfl⟩ := r
  refine ⟨a, rfl, ⟨vs, sm_sqL g1.s hl⟩, ?_⟩
  obtain ⟨fr, o2⟩ := o1.wk w0
  refine for_core (α := α) (xs := xs) (Γ1 := fun x st => (Γ0 st).set j (some (oV (τ x)))) (fun i x hx B' H g s => ?_) (fun B' H g s => ?_) (fun i x hx σ B' H fp st v H' Q g o y q => ?_) hb (post_then p1 hs) o2
  · obtain ⟨v, h1, h2⟩ := vwl_nth hv hx
    exact ⟨vs, v, sm_sqL (gz_same g s) hl, h1⟩
  · exact ⟨vs, sm_sqL (gz_same g s) hl, by rw [hv.len, List.length_map]; exact Nat.le_refl _⟩
  · obtain ⟨rfl, y⟩ := y
    obtain ⟨u, h1, h2⟩ := vwl_nth hv hx
    have := y vs (sm_sqL (gz_same g o.b) hl)
    rw [h1] at this
    cases this
    obtain ⟨fp', o'⟩ := o.setV ((τ x).mono g.b h2) (l st)
    exact q _ _ o'
theorem gTg_tup {K : Frag} : ∀ {js : List Nat}, 2 ≤ js.length → gTg K js = gTup K js.length (gNs js)
  | [], h => by simp at h
  | [_], h => by simp at h
  | _ :: _ :: _, _ => rfl
/-- for x, y, .. in ts -/
theorem b_forT {D : Ds ν' β ρ ξ} {Γ0 : ν → Cx0} {e : E} {js : List Nat} {b s : S} {ws : α → List Vw} {f : α → ν → Out ν ν ρ ξ} {k : ν → Out ν' β ρ ξ} {m : Res (List α)} {x0 : ξ} {s0 : ν} (h : EvO T C Γ e (fun xs => oV (vL C (fun x => vTup C (ws x)) xs)) m) (w : Wk Γ (D.x x0)) (w0 : Wk Γ (Γ0 s0))
    (hj : 2 ≤ js.length) (hw : ∀ x, js.length = (ws x).length) (l : ∀ st, ∀ j ∈ js, j < (Γ0 st).length) (hb : ∀ x st, Blk T cs C ({ n := Γ0, b := Γ0, t := D.t, r := D.r, x := D.x } : Ds ν ν ρ ξ) (setL (Γ0 st) js (ws x)) b (f x st)) (hs : ∀ st, Blk T cs C D (Γ0 st) s (k st)) :
    Blk T cs C D Γ (.seq (.for js (.iL e) b) s) (m.to x0 fun xs => (loopO f xs s0).then k) := fun W E σ B Z H fp o p => by
  show (rd T C e W).E σ H _
  refine evo_post h w o p fun xs v B1 H1 fq g1 r o1 p1 => ?_
  obtain ⟨⟨a, vs, rfl, hl, hv⟩, rfl⟩ := r
  refine ⟨a, rfl, ⟨vs, sm_sqL g1.s hl⟩, ?_⟩
  obtain ⟨fr, o2⟩ := o1.wk w0
  refine for_core (α := α) (xs := xs) (Γ1 := fun x st => setL (Γ0 st) js (ws x)) (fun i x hx B' H g s => ?_) (fun B' H g s => ?_) (fun i x hx σ B' H fp st v H' Q g o y q => ?_) hb (post_then p1 hs) o2
  · obtain ⟨v, h1, h2⟩ := vwl_nth (τ := fun x => vTup C (ws x)) hv hx
    exact ⟨vs, v, sm_sqL (gz_same g s) hl, h1⟩
  · exact ⟨vs, sm_sqL (gz_same g s) hl, by rw [hv.len, List.length_map]; exact Nat.le_refl _⟩
  · obtain ⟨rfl, y⟩ := y
    obtain ⟨u, h1, h2⟩ := vwl_nth (τ := fun x => vTup C (ws x)) hv hx
    have := y vs (sm_sqL (gz_same g o.b) hl)
    rw [h1] at this
    cases this
    obtain ⟨c, us, rfl, h3, h4⟩ := h2
    rw [gTg_tup hj]
    exact ⟨c, us, rfl, sm_sqT (gz_same g o.b) h3, by rw [h4.len, hw x], setL_ok (h4.mono g.b) (hw x) (l st) o q⟩
/-- for i in range(..) -/
def rng (lo hi : Int) : List Int := (List.range (hi - lo).toNat).map fun i : Nat => lo + (i : Int)
theorem rng_nth {lo hi : Int} {i : Nat} {x : Int} (h : (rng lo hi)[i]? = some x) : i < (hi - lo).toNat ∧ x = lo + i := by
  unfold rng at h
  rw [List.getElem?_map] at h
  by_cases q : i < (hi - lo).toNat
  · rw [List.getElem?_range q] at h
    cases h
    exact ⟨q, rfl⟩
  · rw [List.getElem?_eq_none (by simpa using q)] at h
    cases h
def rngB (i j : Int) : Bool := decide (-(2 ^ 62) ≤ i) && decide (i < 2 ^ 62) && decide (-(2 ^ 62) ≤ j) && decide (j < 2 ^ 62)
theorem for_rng {D : Ds ν' β ρ ξ} {Γ0 : ν → Cx0} {j : Nat} {b s : S} {f : Int → ν → Out ν ν ρ ξ} {k : ν → Out ν' β ρ ξ} {s0 : ν} {lo hi : Int} {W : WX} {E : Ends} {σ : L2.St} {B Z H : Hp} {fp : List Addr}
    (l : ∀ st, j < (Γ0 st).length) (hb : ∀ x st, Blk T cs C ({ n := Γ0, b := Γ0, t := D.t, r := D.r, x := D.x } : Ds ν ν ρ ξ) ((Γ0 st).set j (some (oV (vInt x)))) b (f x st)) (hs : ∀ st, Blk T cs C D (Γ0 st) s (k st))
    (p : Post C D ((loopO f (rng lo hi) s0).then k) W E B Z) (o : Oks (Γ0 s0) σ B Z H fp) :
    ∃ Wi : Nat → Nat → L2.St → Hp → Prop, (∃ m, Wi 0 m σ H) ∧ ∀ i m σ H, Wi i m σ H → ((Itr lo (hi - lo).toNat).stop i H ∧ rs T cs s C W E σ H) ∨ ((Itr lo (hi - lo).toNat).go i H ∧ ∃ N : L2.St → Hp → Prop, (∀ σ' H', N σ' H' → ∃ m', m' < m ∧ Wi (i + 1) m' σ' H') ∧ ∀ x H', (Itr lo (hi - lo).toNat).yld i H x H' → gTg C.K [j] x σ H' fun σ2 H2 => rs T cs b C W { E with nx := N, ct := N, bk := rs T cs s C W E } σ2 H2) :=
  for_core (α := Int) (E := { E with nx := rs T cs s C W E }) (xs := rng lo hi) (J := Itr lo (hi - lo).toNat) (js := [j]) (Γ1 := fun x st => (Γ0 st).set j (some (oV (vInt x)))) (fun i x hx B' H g s => (rng_nth hx).1) (fun B' H g s => by
    show (hi - lo).toNat ≤ (rng lo hi).length
    simp [rng]) (fun i x hx σ B' H fp st v H' Q g o y q => by
      obtain ⟨rfl, rfl⟩ := y
      obtain ⟨fp', o'⟩ := o.setV (w := vInt x) (v := .int (lo + i)) (by rw [(rng_nth hx).2]; rfl) (l st)
      exact q _ _ o') hb (post_then p hs) o
theorem b_forR1 {D : Ds ν' β ρ ξ} {Γ0 : ν → Cx0} {e : E} {j : Nat} {b s : S} {f : Int → ν → Out ν ν ρ ξ} {k : ν → Out ν' β ρ ξ} {m : Res Int} {x0 : ξ} {s0 : ν} (h : EvB T C Γ e vInt m) (w : Wk Γ (D.x x0)) (w0 : Wk Γ (Γ0 s0))
    (l : ∀ st, j < (Γ0 st).length) (hb : ∀ x st, Blk T cs C ({ n := Γ0, b := Γ0, t := D.t, r := D.r, x := D.x } : Ds ν ν ρ ξ) ((Γ0 st).set j (some (oV (vInt x)))) b (f x st)) (hs : ∀ st, Blk T cs C D (Γ0 st) s (k st)) :
    Blk T cs C D Γ (.seq (.for [j] (.iR1 e) b) s) (m.to x0 fun n => gdO (rngB 0 n) ((loopO f (rng 0 n) s0).then k)) := fun W E σ B Z H fp o p => by
  show (rd T C e W).E σ H _
  refine evo_post (ev_flat h) w o p fun n v B1 H1 fq g1 r o1 p1 => ?_
  obtain ⟨rfl, rfl⟩ := r
  cases hc : rngB 0 n with
  | false => rw [hc] at p1; exact p1.elim
  | true =>
    rw [hc] at p1
    unfold rngB at hc
    simp only [Bool.and_eq_true, decide_eq_true_eq] at hc
    obtain ⟨fr, o2⟩ := o1.wk w0
    refine ⟨n, rfl, hc.1.2, hc.2, ?_⟩
    have := for_rng (lo := 0) (hi := n) l hb hs p1 o2
    rw [show (n - 0).toNat = n.toNat by rw [Int.sub_zero]] at this
    exact this
theorem b_forR2 {D : Ds ν' β ρ ξ} {Γ0 : ν → Cx0} {e e' : E} {j : Nat} {b s : S} {f : Int → ν → Out ν ν ρ ξ} {k : ν → Out ν' β ρ ξ} {m m' : Res Int} {x0 : ξ} {s0 : ν} (h : EvB T C Γ e vInt m) (h' : EvB T C Γ e' vInt m') (w : Wk Γ (D.x x0)) (w0 : Wk Γ (Γ0 s0))
    (l : ∀ st, j < (Γ0 st).length) (hb : ∀ x st, Blk T cs C ({ n := Γ0, b := Γ0, t := D.t, r := D.r, x := D.x } : Ds ν ν ρ ξ) ((Γ0 st).set j (some (oV (vInt x)))) b (f x st)) (hs : ∀ st, Blk T cs C D (Γ0 st) s (k st)) :
    Blk T cs C D Γ (.seq (.for [j] (.iR2 e e') b) s) (m.to x0 fun lo => m'.to x0 fun hi => gdO (rngB lo hi) ((loopO f (rng lo hi) s0).then k)) := fun W E σ B Z H fp o p => by
  show (rd T C e W).E σ H _
  refine evo_post (ev_flat h) w o p fun lo v B1 H1 fq g1 r o1 p1 => ?_
  show (rd T C e' W).E σ H1 _
  refine evo_post (ev_flat h') w o1 p1 fun hi v' B2 H2 fq' g2 r' o2 p2 => ?_
  obtain ⟨rfl, rfl⟩ := r
  obtain ⟨rfl, rfl⟩ := r'
  cases hc : rngB lo hi with
  | false => rw [hc] at p2; exact p2.elim
  | true =>
    rw [hc] at p2
    unfold rngB at hc
    simp only [Bool.and_eq_true, decide_eq_true_eq] at hc
    obtain ⟨fr, o3⟩ := o2.wk w0
    exact ⟨lo, hi, rfl, ⟨hc.1.1.1, hc.1.1.2, hc.1.2, hc.2⟩, for_rng l hb hs p2 o3⟩
/-! defs -/
def outR : Out Unit Unit ρ ξ → Res ρ
  | .nx _ => .bad
  | .bk _ => .bad
  | .ct _ => .bad
  | .rt x => .ok x
  | .exc e _ => .exc e
  | .bad => .bad
abbrev dsF (n : Nat) (τ : ρ → Ow) : Ds Unit Unit ρ Unit := ⟨fun _ => [], fun _ => [], τ, fun _ => List.replicate n none, fun _ => List.replicate n none⟩
theorem envo_args {B H : Hp} : ∀ {vs : List V} {ws : List Vw} (n : Nat), VwL B vs ws → EnvO B H (vs.map some ++ List.replicate n none) (ws.map (fun w => some (oV w)) ++ List.replicate n none) []
  | _, _, n, .nil => by
    induction n with
    | zero => exact rfl
    | succ n ih => exact ih
  | _, _, n, .cons h l => ⟨_, [], [], rfl, rfl, ⟨h, rfl⟩, envo_args n l⟩
/-- a def that reads -/
theorem fn_read {R : Row} {ws : κ → List Vw} {τ : ρ → Ow} {f : κ → Out Unit Unit ρ Unit} {n N : Nat} {s : S} (hR : ∀ C, R.sp C = spB T cs n N s C) (hn : ∀ k, (ws k).length = n)
    (h : ∀ k, Blk T cs C (dsF N τ) ((ws k).map (fun w => some (oV w)) ++ List.replicate (N - n) none) s (f k)) : FnT C R ws τ (fun k => outR (f k)) := fun k vs B H Q E s hv z => by
  have hl : vs.length = n := by rw [hv.len, hn]
  rw [hR]
  refine ⟨hl, ?_⟩
  rw [hl]
  refine h k _ _ _ B H H [] ⟨envo_args _ hv, List.nodup_nil, (fun _ z => nomatch z), s, sm_refl _⟩ ?_
  replace z : Rz (outR (f k)) _ _ := z
  cases q : f k with
  | nx x => rw [q] at z; exact z.elim
  | bk x => rw [q] at z; exact z.elim
  | ct x => rw [q] at z; exact z.elim
  | bad => rw [q] at z; exact z.elim
  | rt x =>
    rw [q] at z
    intro v σ B' H' fp g o
    obtain ⟨⟨u, f0, g0, h0, h1, h2, h3⟩, nd, fr, b, zz⟩ := o
    cases h0
    subst h1
    refine z v B' H' ⟨g.b, zz, b, g.n⟩ ⟨f0, h2, (List.nodup_append.mp nd).1, fun a ha => ?_⟩
    have := fr a (List.mem_append_left _ ha)
    exact this
  | exc e x =>
    rw [q] at z
    intro cls d σ B' H' fp g o r
    exact z cls d H' o.z (r.imp_right fun h => h.imp_right fun ⟨d, h1, h2, h3⟩ => ⟨d, h1, o.b _ _ h2, h3⟩)
end
end Q
/-! Q17: built-in functions, typed. -/
namespace Q
open PySem L2 PySem.Spec
section
variable {T : Tb} {C : Kc} {Γ : Cx0} {α β γ δ κ κ' : Type}
theorem bl_len {ws : α → List Vw} {n : α → Nat} (h : ∀ x, (ws x).length = n x) : Op1 (fun v H Q => rBlt C.K .len [v] H Q) (fun x => vLs C (ws x)) (pB vInt) fun x => .ok ((n x : Nat) : Int) where
  no := fun _ => nox_ok
  run := fun x B H v Q s ⟨p, vs, h1, h2, h3⟩ q => .inl ⟨v, n x, rfl, by rw [h1]; exact .inl ⟨vs, h2, by rw [h3.len, h]⟩, say_ok s q rfl⟩
theorem bl_lenL {τ : α → Vw} : Op1 (fun v H Q => rBlt C.K .len [v] H Q) (vL C τ) (pB vInt) fun xs => .ok (xs.length : Int) := bl_len (ws := fun xs : List α => xs.map τ) fun xs => List.length_map τ
theorem bl_lenS : Op1 (fun v H Q => rBlt C.K .len [v] H Q) vStr (pB vInt) fun x => gd (decide (x.length ≤ sizeLine)) (.ok (x.length : Int)) where
  no := fun _ => nox_gd nox_ok
  run := fun x B H v Q s h q => .inl ⟨v, x.length, rfl, by rw [show v = .str x from h]; exact ⟨of_decide_eq_true (say_gd q).1, rfl⟩, say_ok s (say_gd q).2 rfl⟩
theorem bl_abs : Op1 (fun v H Q => rBlt C.K .abs [v] H Q) vInt (pB vInt) fun i => .ok (if i < 0 then -i else i) where
  no := fun _ => nox_ok
  run := fun x B H v Q s h q => ⟨x, by rw [show v = .int x from h], say_ok s q rfl⟩
theorem bl_sum : Op1 (fun v H Q => rBlt C.K .sum [v] H Q) (vL C vInt) (pB vInt) fun xs => .ok xs.sum where
  no := fun _ => nox_ok
  run := fun x B H v Q s ⟨p, vs, h1, h2, h3⟩ q => by
    rw [vl_ints h3] at h2
    exact ⟨p, x, by rw [h1], h2, say_ok s q rfl⟩
theorem bl_any : Op1 (fun v H Q => rBlt C.K .any [v] H Q) (vL C vBl) (pB vBl) fun xs => .ok (xs.any id) where
  no := fun _ => nox_ok
  run := fun x B H v Q s ⟨p, vs, h1, h2, h3⟩ q => by
    rw [vl_bls h3] at h2
    exact ⟨p, x, by rw [h1], h2, say_ok s q rfl⟩
theorem bl_all : Op1 (fun v H Q => rBlt C.K .all [v] H Q) (vL C vBl) (pB vBl) fun xs => .ok (xs.all id) where
  no := fun _ => nox_ok
  run := fun x B H v Q s ⟨p, vs, h1, h2, h3⟩ q => by
    rw [vl_bls h3] at h2
    exact ⟨p, x, by rw [h1], h2, say_ok s q rfl⟩
theorem bl_max2 : Op2 (fun v w H Q => rBlt C.K .max [v, w] H Q) vInt vInt (pB vInt) fun i j => .ok (if j > i then j else i) where
  no := fun _ _ => nox_ok
  run := fun x y B H v w Q s h h' q => .inl ⟨x, y, by rw [show v = .int x from h, show w = .int y from h'], say_ok s q rfl⟩
theorem bl_min2 : Op2 (fun v w H Q => rBlt C.K .min [v, w] H Q) vInt vInt (pB vInt) fun i j => .ok (if j < i then j else i) where
  no := fun _ _ => nox_ok
  run := fun x y B H v w Q s h h' q => .inl ⟨x, y, by rw [show v = .int x from h, show w = .int y from h'], say_ok s q rfl⟩
def maxL : List Int → Int
  | [] => 0
  | [x] => x
  | x :: y :: l => if maxL (y :: l) > x then maxL (y :: l) else x
def minL : List Int → Int
  | [] => 0
  | [x] => x
  | x :: y :: l => if minL (y :: l) < x then minL (y :: l) else x
theorem maxL_mem : ∀ l : List Int, l ≠ [] → maxL l ∈ l ∧ ∀ y ∈ l, y ≤ maxL l
  | [], h => absurd rfl h
  | [x], _ => ⟨by simp [maxL], fun y hy => by simp at hy; simp [maxL, hy]⟩
  | x :: y :: l, _ => by
    obtain ⟨h1, h2⟩ := maxL_mem (y :: l) (by simp)
    unfold maxL
    split
    · exact ⟨List.mem_cons_of_mem _ h1, fun z hz => (List.mem_cons.mp hz).elim (fun e => by rw [e]; omega) (h2 z)⟩
    · exact ⟨List.mem_cons_self, fun z hz => (List.mem_cons.mp hz).elim (fun e => by rw [e]; exact Int.le_refl _) fun e => by have := h2 z e; omega⟩
theorem minL_mem : ∀ l : List Int, l ≠ [] → minL l ∈ l ∧ ∀ y ∈ l, minL l ≤ y
  | [], h => absurd rfl h
  | [x], _ => ⟨by simp [minL], fun y hy => by simp at hy; simp [minL, hy]⟩
  | x :: y :: l, _ => by
    obtain ⟨h1, h2⟩ := minL_mem (y :: l) (by simp)
    unfold minL
    split
    · exact ⟨List.mem_cons_of_mem _ h1, fun z hz => (List.mem_cons.mp hz).elim (fun e => by rw [e]; omega) (h2 z)⟩
    · exact ⟨List.mem_cons_self, fun z hz => (List.mem_cons.mp hz).elim (fun e => by rw [e]; exact Int.le_refl _) fun e => by have := h2 z e; omega⟩
theorem bl_max : Op1 (fun v H Q => rBlt C.K .max [v] H Q) (vL C vInt) (pB vInt) fun xs => gd (decide (0 < xs.length)) (.ok (maxL xs)) where
  no := fun _ => nox_gd nox_ok
  run := fun x B H v Q s ⟨p, vs, h1, h2, h3⟩ q => by
    rw [vl_ints h3] at h2
    have q1 := of_decide_eq_true (say_gd q).1
    refine .inr ⟨p, x, by rw [h1], h2, q1, fun m hm hx => ?_⟩
    obtain ⟨g1, g2⟩ := maxL_mem x (List.ne_nil_of_length_pos q1)
    have e : m = maxL x := Int.le_antisymm (g2 m hm) (hx _ g1)
    rw [e]
    exact say_ok s (say_gd q).2 rfl
theorem bl_min : Op1 (fun v H Q => rBlt C.K .min [v] H Q) (vL C vInt) (pB vInt) fun xs => gd (decide (0 < xs.length)) (.ok (minL xs)) where
  no := fun _ => nox_gd nox_ok
  run := fun x B H v Q s ⟨p, vs, h1, h2, h3⟩ q => by
    rw [vl_ints h3] at h2
    have q1 := of_decide_eq_true (say_gd q).1
    refine .inr ⟨p, x, by rw [h1], h2, q1, fun m hm hx => ?_⟩
    obtain ⟨g1, g2⟩ := minL_mem x (List.ne_nil_of_length_pos q1)
    have e : m = minL x := Int.le_antisymm (hx _ g1) (g2 m hm)
    rw [e]
    exact say_ok s (say_gd q).2 rfl
theorem bl_strI : Op1 (fun v H Q => rBlt C.K .str [v] H Q) vInt (pB vStr) fun i => gd (decide (i.natAbs.log2 < 1920)) (.ok (toString i : Str)) where
  no := fun _ => nox_gd nox_ok
  run := fun x B H v Q s h q => .inl ⟨x, by rw [show v = .int x from h], of_decide_eq_true (say_gd q).1, say_ok s (say_gd q).2 rfl⟩
theorem bl_strS : Op1 (fun v H Q => rBlt C.K .str [v] H Q) vStr (pB vStr) fun i => .ok i where
  no := fun _ => nox_ok
  run := fun x B H v Q s h q => .inr ⟨x, by rw [show v = .str x from h], say_ok s q rfl⟩
theorem bl_intI : Op1 (fun v H Q => rBlt C.K .int [v] H Q) vInt (pB vInt) fun i => .ok i where
  no := fun _ => nox_ok
  run := fun x B H v Q s h q => .inl (.inl ⟨x, by rw [show v = .int x from h], say_ok s q rfl⟩)
theorem bl_intB : Op1 (fun v H Q => rBlt C.K .int [v] H Q) vBl (pB vInt) fun b => .ok (if b then 1 else 0) where
  no := fun _ => nox_ok
  run := fun x B H v Q s h q => .inl (.inr ⟨x, by rw [show v = .bl x from h], say_ok s q rfl⟩)
/-- a new list of flat things -/
theorem new_ls {B H : Hp} {os : List Ow} {vs : List V} {p : Addr} (s : Same B H) (hp : H p = none) (h : OwL B H vs os []) : Gon B H B (upd H p (.lst vs)) ∧ (oLs C os).rel B (upd H p (.lst vs)) (.ref p) [p] ∧ [p].Nodup ∧ ∀ a ∈ [p], H a = none ∧ B a = none :=
  ⟨Gon.up s (sm_new hp), ⟨p, vs, [], rfl, upd_same, owl_new h hp, rfl⟩, by simp, fun a ha => by
    rw [List.mem_singleton.mp ha]
    exact ⟨hp, none_back s hp⟩⟩
theorem owl_ints {B H : Hp} : ∀ xs : List Int, OwL B H (xs.map V.int) (xs.map fun x => oV (vInt x)) []
  | [] => rfl
  | x :: xs => ⟨[], [], rfl, ⟨rfl, rfl⟩, owl_ints xs⟩
theorem owl_strs {B H : Hp} : ∀ xs : List Str, OwL B H (xs.map V.str) (xs.map fun x => oV (vStr x)) []
  | [] => rfl
  | x :: xs => ⟨[], [], rfl, ⟨rfl, rfl⟩, owl_strs xs⟩
theorem say_new {B H : Hp} {os : List Ow} {vs : List V} {Q : VK} {τ : γ → Ow} {x : γ} (s : Same B H) (hτ : τ x = oLs C os) (q : Say (pO τ) B H (.ok x) Q) (h : OwL B H vs os []) (p : Addr) (hp : H p = none) : Q (.ref p) (upd H p (.lst vs)) := by
  obtain ⟨g, r, n, f⟩ := new_ls (C := C) s hp h
  exact q (.ref p) B _ g ⟨[p], by rw [hτ]; exact r, n, f⟩
def insI (x : Int) : List Int → List Int
  | [] => [x]
  | y :: l => if x ≤ y then x :: y :: l else y :: insI x l
/-- sorted ints -/
def sortI : List Int → List Int
  | [] => []
  | x :: l => insI x (sortI l)
theorem insI_perm (x : Int) : ∀ l, (insI x l).Perm (x :: l)
  | [] => .refl _
  | y :: l => by
    unfold insI
    split
    · exact .refl _
    · exact ((insI_perm x l).cons y).trans (.swap x y l)
theorem sortI_perm : ∀ l, (sortI l).Perm l
  | [] => .refl _
  | x :: l => (insI_perm x _).trans ((sortI_perm l).cons x)
theorem insI_sorted (x : Int) : ∀ l : List Int, l.Pairwise (· ≤ ·) → (insI x l).Pairwise (· ≤ ·)
  | [], _ => by simp [insI]
  | y :: l, h => by
    obtain ⟨h1, h2⟩ := List.pairwise_cons.mp h
    unfold insI
    split
    · refine List.pairwise_cons.mpr ⟨fun z hz => ?_, h⟩
      rcases List.mem_cons.mp hz with e | hz
      · rw [e]; assumption
      · have := h1 z hz; omega
    · refine List.pairwise_cons.mpr ⟨fun z hz => ?_, insI_sorted x l h2⟩
      rcases List.mem_cons.mp ((insI_perm x l).mem_iff.mp hz) with e | hz
      · rw [e]; omega
      · exact h1 z hz
theorem sortI_sorted : ∀ l : List Int, (sortI l).Pairwise (· ≤ ·)
  | [] => .nil
  | x :: l => insI_sorted x _ (sortI_sorted l)
theorem sort_uniq : ∀ {l m : List Int}, l.Perm m → l.Pairwise (· ≤ ·) → m.Pairwise (· ≤ ·) → l = m
  | [], m, p, _, _ => by rw [List.nil_perm.mp p]
  | x :: l, [], p, _, _ => by have := p.length_eq; simp at this
  | x :: l, y :: m, p, h, h' => by
    obtain ⟨h1, h2⟩ := List.pairwise_cons.mp h
    obtain ⟨h3, h4⟩ := List.pairwise_cons.mp h'
    have e : x = y := by
      have a : x ≤ y := (List.mem_cons.mp (p.mem_iff.mpr List.mem_cons_self)).elim (fun e => by omega) (h1 y)
      have b : y ≤ x := (List.mem_cons.mp (p.mem_iff.mp List.mem_cons_self)).elim (fun e => by omega) (h3 x)
      omega
    subst e
    rw [sort_uniq (p.cons_inv) h2 h4]
theorem bl_sortI : Op1 (fun v H Q => rBlt C.K .sorted [v] H Q) (vL C vInt) (pO (oL C fun x => oV (vInt x))) fun xs => .ok (sortI xs) where
  no := fun _ => nox_ok
  run := fun x B H v Q s ⟨p, vs, h1, h2, h3⟩ q => by
    rw [vl_ints h3] at h2
    refine .inl (.inl ⟨p, x, by rw [h1], h2, fun ns' l pm pw hl => ?_⟩)
    have e : ns' = sortI x := sort_uniq (pm.trans (sortI_perm x).symm) pw (sortI_sorted x)
    rw [e]
    exact say_new (C := C) s rfl q (owl_ints _) l hl
theorem flat_owl {τ : α → Vw} [i : Flat τ] {B B' H : Hp} : ∀ {xs : List α} {vs : List V}, VwL B' vs (xs.map τ) → OwL B H vs (xs.map fun x => oV (τ x)) []
  | [], _, .nil => rfl
  | x :: xs, _, .cons h l => ⟨[], [], rfl, ⟨i.fl x _ _ _ h, rfl⟩, flat_owl l⟩
/-- list(xs), flat things -/
theorem bl_list {τ : α → Vw} [i : Flat τ] : Op1 (fun v H Q => rBlt C.K .list [v] H Q) (vL C τ) (pO (oL C fun x => oV (τ x))) fun xs => .ok xs where
  no := fun _ => nox_ok
  run := fun x B H v Q s ⟨p, vs, h1, h2, h3⟩ q => .inl ⟨p, vs, by rw [h1], .inl h2, fun l hl => say_new (C := C) s rfl q (flat_owl h3) l hl⟩
/-- xs[lo:hi] -/
def EvOp (T : Tb) (C : Kc) (Γ : Cx0) (e : E) (m : Res (Option Int)) : Prop := ∀ (W : WX) (σ : L2.St) (B H : Hp) (Q : Option Int → Hp → Prop), EnvC Γ σ B H → Rz m (fun x => ∀ B' H', Gon B H B' H' → Q x H') (ExK C W σ H) → (rd T C e W).O σ H Q
theorem eo_none : EvOp T C Γ .nil (.ok none) := fun W σ B H Q g z => z B H (.refl g.sub)
end
end Q
/-! Q18: comprehensions, typed. -/
namespace Q
open PySem L2 PySem.Spec
section
variable {T : Tb} {C : Kc} {Γ : Cx0} {α β γ δ κ κ' : Type}
/-- what is read and all its own may be read from what is not frozen -/
abbrev borΓ (Γ : Cx0) : Cx0 := Γ.map (Option.map fun o => oV o.vw)
theorem ev_bor {e : E} {τ : α → Ow} [i : Clo τ] {m : Res α} (h : EvO T C (borΓ Γ) e τ m) : EvO T C Γ e τ m := fun W σ B H Q g z => by
  refine h W σ H H Q ⟨fun i o e => ?_, sm_refl _, by rw [List.length_map]; exact g.len⟩ (rz_imp z (fun x q v B' H' g1 ⟨fp, r, n, f⟩ => ?_) fun _ z => z)
  · rw [List.getElem?_map] at e
    cases q : Γ[i]? with
    | none => rw [q] at e; cases e
    | some o' =>
      rw [q] at e
      cases o' with
      | none => cases e
      | some a =>
        simp only [Option.map_some, Option.some.injEq] at e
        subst e
        obtain ⟨v, f, h1, h2⟩ := g.get i a q
        exact ⟨v, [], h1, a.sub g.sub (fun _ _ => rfl) h2, rfl⟩
  · exact q v B H' ⟨sm_refl _, g1.h, sm_trans g.sub g1.h, newB_refl _ _⟩ ⟨fp, i.cl x B' B H' v fp r, n, fun a ha => ⟨(f a ha).1, none_back g.sub (f a ha).1⟩⟩
theorem ev_borB {e : E} {τ : α → Vw} [i : Flat τ] {m : Res α} (h : EvB T C (borΓ Γ) e τ m) : EvB T C Γ e τ m := ev_seen (ev_peek (ev_bor (ev_flat h)))
theorem ev_borT {e : E} {m : Res Bool} (h : EvT T C (borΓ Γ) e m) : EvT T C Γ e m := fun W σ B H Q g z => by
  refine h W σ H H Q ⟨fun i o e => ?_, sm_refl _, by rw [List.length_map]; exact g.len⟩ (rz_imp z (fun x q B' H' g1 => q B H' ⟨sm_refl _, g1.h, sm_trans g.sub g1.h, newB_refl _ _⟩) fun _ z => z)
  rw [List.getElem?_map] at e
  cases q : Γ[i]? with
  | none => rw [q] at e; cases e
  | some o' =>
    rw [q] at e
    cases o' with
    | none => cases e
    | some a =>
      simp only [Option.map_some, Option.some.injEq] at e
      subst e
      obtain ⟨v, f, h1, h2⟩ := g.get i a q
      exact ⟨v, [], h1, a.sub g.sub (fun _ _ => rfl) h2, rfl⟩
def noE {α : Type} (m : Res α) : Res α := match m with
  | .ok x => .ok x
  | _ => .bad
@[simp] theorem noE_ok {α : Type} (x : α) : noE (Res.ok x) = .ok x := rfl
def lcR (c : α → Res Bool) (f : α → Res γ) : List α → Res (List γ)
  | [] => .ok []
  | x :: xs => noE (c x) >>= fun b => cond b (noE (f x) >>= fun y => lcR c f xs >>= fun ys => .ok (y :: ys)) (lcR c f xs)
theorem lcR_pure (p : α → Bool) (g : α → γ) : ∀ xs, lcR (fun x => .ok (p x)) (fun x => .ok (g x)) xs = .ok ((xs.filter p).map g)
  | [] => rfl
  | x :: xs => by
    unfold lcR
    rw [lcR_pure p g xs]
    cases h : p x <;> simp [h]
theorem lcR_map (g : α → γ) : ∀ xs, lcR (fun _ => .ok true) (fun x => .ok (g x)) xs = .ok (xs.map g)
  | [] => rfl
  | x :: xs => by
    unfold lcR
    rw [lcR_map g xs]
    simp
def EvPs (T : Tb) (C : Kc) (Γ : Cx0) (e : E) (m : Res Bool) : Prop := ∀ (W : WX) (σ : L2.St) (B H : Hp) (Q : Bool → Hp → Prop), EnvC Γ σ B H → Rz m (fun x => ∀ B' H', Gon B H B' H' → Q x H') (ExK C W σ H) → (rd T C e W).P σ H Q
theorem eps_nil : EvPs T C Γ .nil (.ok true) := fun W σ B H Q g z => z B H (.refl g.sub)
theorem eps_one {e : E} {m : Res Bool} (h : EvT T C Γ e m) : EvPs T C Γ (.cons e .nil) m := h
theorem rz_noE {m : Res α} {P : α → Prop} {E : Ex → Prop} (h : Rz (noE m) P E) {E' : Ex → Prop} : Rz m P E' := by
  cases m with
  | ok x => exact h
  | exc e => exact h.elim
  | bad => exact h
theorem noE_bind {m : Res α} {k : α → Res γ} {P : γ → Prop} {E E' : Ex → Prop} (h : Rz (noE m >>= k) P E) : Rz m (fun x => Rz (k x) P E) E' := by
  cases m with
  | ok x => exact h
  | exc e => exact h.elim
  | bad => exact h
theorem owl_snoc {os : List Ow} {o : Ow} {B H : Hp} {vs : List V} {v : V} {fp fq : List Addr} (h : OwL B H vs os fp) (r : o.rel B H v fq) : OwL B H (vs ++ [v]) (os ++ [o]) (fp ++ fq) := OwL.append h ⟨fq, [], by simp, r, rfl⟩
theorem lc_core {xs : List α} {J : It} {js : List Nat} {t e : E} {B H1 : Hp} {σ : L2.St} {ε : γ → Ow} {Γ1 : α → Cx0} {c : α → Res Bool} {f : α → Res γ} {Q : VK} {E : Ex → Prop} (sB : Same B H1) (hl : xs.length ≤ sizeLine)
    (go : ∀ (i : Nat) (x : α), xs[i]? = some x → ∀ H, Same H1 H → J.go i H) (stop : ∀ H, Same H1 H → J.stop xs.length H)
    (asg : ∀ (i : Nat) (x : α), xs[i]? = some x → ∀ (B' H : Hp) v H' Q, Same B B' → Same B' H → Same H1 H → J.yld i H v H' → (∀ σ2, wipe σ2 js = wipe σ js → Same H H' → EnvC (Γ1 x) σ2 B' H' → Q σ2 H') → gTg C.K js v (wipe σ js) H' Q)
    (hc : ∀ x, EvPs T C (Γ1 x) t (c x)) (he : ∀ x, EvO T C (Γ1 x) e ε (f x)) (z : Rz (lcR c f xs) (fun ys => ∀ v B' H', Gon B H1 B' H' → pO (oL C ε) ys B H1 B' H' v → Q v H') E) (D : Addr) (hD : H1 D = none) :
    ∃ Wi : Nat → Nat → Hp → Prop, (∃ m, Wi 0 m (upd H1 D (.lst []))) ∧ ∀ i m H, Wi i m H → (J.stop i H ∧ Q (.ref D) H) ∨ (J.go i H ∧ ∃ Nx : Hp → Prop, (∀ H', Nx H' → ∃ m', m' < m ∧ Wi (i + 1) m' H') ∧ ∀ x H', J.yld i H x H' → gTg C.K js x (wipe σ js) H' fun σ2 H2 => wipe σ2 js = wipe σ js ∧ (rd T C t noX).P σ2 H2 fun b H3 =>
      if b = true then (rd T C e noX).E σ2 H3 fun y H4 => ∃ acc, H4 D = some (.lst acc) ∧ acc.length < sizeLine ∧ Nx (upd H4 D (.lst (acc ++ [y]))) else Nx H3) := by
  let Wi : Nat → Nat → Hp → Prop := fun i m H => i + m = xs.length ∧ ∃ acc dn B' fp, H D = some (.lst acc) ∧ Same B B' ∧ Same H1 H ∧ Same B' H ∧ NewB B H1 B' ∧ B' D = none ∧ OwL B' H acc (dn.map ε) fp ∧ fp.Nodup ∧ (∀ a ∈ fp, H1 a = none ∧ B' a = none ∧ a ≠ D) ∧ dn.length ≤ i ∧
    Rz (lcR c f (xs.drop i) >>= fun r => .ok (dn ++ r)) (fun ys => ∀ v B' H', Gon B H1 B' H' → pO (oL C ε) ys B H1 B' H' v → Q v H') E
  refine ⟨Wi, ⟨xs.length, by omega, [], [], B, [], upd_same, sm_refl _, sm_new hD, sm_trans sB (sm_new hD), newB_refl _ _, none_back sB hD, rfl, List.nodup_nil, (fun _ z => nomatch z), Nat.le_refl _, ?_⟩, fun i m H ⟨hm, acc, dn, B', fp, w1, w2, w3, w4, w5, w6, w7, w8, w9, w10, w11⟩ => ?_⟩
  · rw [List.drop_zero]
    exact rz_bind.mpr (rz_imp z (fun _ z => z) fun _ z => z)
  rcases Nat.lt_or_ge i xs.length with hi | hi
  · refine .inr ?_
    obtain ⟨x, hx⟩ : ∃ x, xs[i]? = some x := ⟨xs[i], List.getElem?_eq_getElem hi⟩
    have hd : xs.drop i = x :: xs.drop (i + 1) := by
      rw [List.drop_eq_getElem_cons hi]
      rw [List.getElem?_eq_getElem hi] at hx
      cases hx
      rfl
    refine ⟨go i x hx H w3, Wi (i + 1) (m - 1), fun H' w => ⟨m - 1, by omega, w⟩, fun v H2 hy => ?_⟩
    refine asg i x hx B' H v H2 _ w2 w4 w3 hy fun σ2 hs sh g2 => ⟨hs, ?_⟩
    rw [hd] at w11
    replace w11 := rz_bind.mp w11
    unfold lcR at w11
    refine hc x noX σ2 B' H2 _ g2 (rz_imp (noE_bind (E' := ExK C noX σ2 H2) w11) (fun b z B3 H3 g3 => ?_) fun _ z => z)
    have hD3 : H3 D = some (.lst acc) := g3.h _ _ (sh _ _ w1)
    cases b with
    | false =>
      have s2 : Same H1 H2 := sm_trans w3 sh
      have al2 : ∀ a ∈ fp, (H2 a).isSome = true := fun a ha => by
        obtain ⟨u, hu⟩ := Option.isSome_iff_exists.mp (OwL.al w7 a ha)
        rw [sh a u hu]; rfl
      have hD2 : (H2 D).isSome = true := by rw [sh _ _ w1]; rfl
      exact ⟨by omega, acc, dn, B3, fp, hD3, sm_trans w2 g3.b, sm_trans s2 g3.h, g3.s, newB_trans s2 w5 g3.n, newB_none g3.n w6 hD2 (fun us z => by rw [sh _ _ w1] at z; cases z; rfl), owl_up w7 g3.b (sm_trans sh g3.h), w8, fun a ha => ⟨(w9 a ha).1, newB_none g3.n (w9 a ha).2.1 (al2 a ha) (OwL.nt (owl_up w7 (sm_refl _) sh) a ha), (w9 a ha).2.2⟩, by omega, rz_bind.mpr z⟩
    | true =>
      show (rd T C e noX).E σ2 H3 _
      refine he x noX σ2 B3 H3 _ (g2.up g3.b g3.h g3.s) (rz_imp (noE_bind (E' := ExK C noX σ2 H3) z) (fun y z v4 B4 H4 g4 ⟨fq, r, n, fr⟩ => ?_) fun _ z => z)
      have g34 := g3.trans g4
      have s2 : Same H1 H2 := sm_trans w3 sh
      have al2 : ∀ a ∈ fp, (H2 a).isSome = true := fun a ha => by
        obtain ⟨u, hu⟩ := Option.isSome_iff_exists.mp (OwL.al w7 a ha)
        rw [sh a u hu]; rfl
      have hD2 : (H2 D).isSome = true := by rw [sh _ _ w1]; rfl
      have hD4 : H4 D = some (.lst acc) := g34.h _ _ (sh _ _ w1)
      have hDB : B4 D = none := newB_none g34.n w6 hD2 (fun us z => by rw [sh _ _ w1] at z; cases z; rfl)
      have la : acc.length = dn.length := by rw [w7.len, List.length_map]
      refine ⟨acc, hD4, by omega, by omega, acc ++ [v4], dn ++ [y], B4, fp ++ fq, upd_same, sm_trans w2 g34.b, fun a u e => ?_, fun a u e => ?_, newB_trans s2 w5 g34.n, hDB, ?_, List.nodup_append.mpr ⟨w8, n, fun a ha b hb e => ?_⟩, fun a ha => ?_, by simp; omega, rz_bind.mpr ?_⟩
      · rw [upd_ne (fun q => by rw [q, hD] at e; cases e)]
        exact g34.h a u (s2 a u e)
      · rw [upd_ne (fun q => by rw [q, hDB] at e; cases e)]
        exact g34.s a u e
      · rw [List.map_append]
        have nf : ∀ a ∈ fp ++ fq, a ≠ D := fun a ha => (List.mem_append.mp ha).elim (fun h => (w9 a h).2.2) fun h q => by
          have := (fr a h).1
          rw [q, g3.h _ _ (sh _ _ w1)] at this; cases this
        refine OwL.mono (sm_refl _) (fun a ha => upd_ne (nf a ha)) (owl_snoc (owl_up w7 g34.b (sm_trans sh g34.h)) r)
      · subst e
        have := al2 a ha
        rw [none_back g3.h (fr a hb).1] at this; cases this
      · rcases List.mem_append.mp ha with ha | ha
        · exact ⟨(w9 a ha).1, newB_none g34.n (w9 a ha).2.1 (al2 a ha) (OwL.nt (owl_up w7 (sm_refl _) sh) a ha), (w9 a ha).2.2⟩
        · refine ⟨none_back s2 (none_back g3.h (fr a ha).1), (fr a ha).2, fun q => ?_⟩
          have := (fr a ha).1
          rw [q, g3.h _ _ (sh _ _ w1)] at this; cases this
      · refine rz_imp (rz_bind.mp z) (fun ys z => ?_) fun _ z => z
        rw [show dn ++ [y] ++ ys = dn ++ y :: ys by simp]
        exact z
  · refine .inl ?_
    have hi2 : i = xs.length := by omega
    subst hi2
    refine ⟨stop H w3, ?_⟩
    rw [List.drop_length] at w11
    replace w11 : ∀ v B' H', Gon B H1 B' H' → pO (oL C ε) (dn ++ []) B H1 B' H' v → Q v H' := w11
    rw [List.append_nil] at w11
    refine w11 (.ref D) B' H ⟨w2, w3, w4, w5⟩ ⟨D :: fp, ⟨D, acc, fp, rfl, w1, w7, rfl⟩, List.nodup_cons.mpr ⟨fun z => (w9 D z).2.2 rfl, w8⟩, fun a ha => ?_⟩
    rcases List.mem_cons.mp ha with rfl | ha
    · exact ⟨hD, w6⟩
    · exact ⟨(w9 a ha).1, (w9 a ha).2.1⟩
/-- names are wiped -/
def wipeΓ (Γ : Cx0) : List Nat → Cx0
  | [] => Γ
  | j :: js => (wipeΓ Γ js).set j none
theorem wipe_env {B H : Hp} {σ : L2.St} (g : EnvC Γ σ B H) : ∀ js : List Nat, EnvC (wipeΓ Γ js) (wipe σ js) B H
  | [] => g
  | j :: js => ⟨fun i o e => by
      have ih := wipe_env g js
      unfold wipeΓ at e
      unfold wipe
      by_cases h : j = i
      · subst h
        rcases Nat.lt_or_ge j (wipeΓ Γ js).length with q | q
        · rw [List.getElem?_set_self q] at e; cases e
        · rw [List.getElem?_eq_none (by simpa using q)] at e; cases e
      · rw [List.getElem?_set_ne h] at e ⊢
        exact ih.get i o e, g.sub, by
      unfold wipeΓ wipe
      rw [List.length_set, List.length_set]
      exact (wipe_env g js).len⟩
theorem wipe_in {k : Nat} : ∀ {js : List Nat} {σ : L2.St}, k ∈ js → (wipe σ js)[k]? = σ[k]?.map fun _ => none
  | j :: js, σ, h => by
    unfold wipe
    by_cases e : j = k
    · subst e
      rcases Nat.lt_or_ge j σ.length with q | q
      · rw [List.getElem?_set_self (by rw [wipe_length]; exact q), List.getElem?_eq_getElem q]; rfl
      · rw [List.getElem?_eq_none (by rw [List.length_set, wipe_length]; exact q), List.getElem?_eq_none q]; rfl
    · rw [List.getElem?_set_ne e]
      exact wipe_in ((List.mem_cons.mp h).resolve_left (Ne.symm e))
theorem wipe_set {σ : L2.St} {js : List Nat} {i : Nat} {v : Option V} (h : i ∈ js) : wipe (σ.set i v) js = wipe σ js := by
  refine List.ext_getElem? fun k => ?_
  by_cases hk : k ∈ js
  · rw [wipe_in hk, wipe_in hk]
    by_cases e : i = k
    · subst e
      rcases Nat.lt_or_ge i σ.length with q | q
      · rw [List.getElem?_set_self q, List.getElem?_eq_getElem q]; rfl
      · rw [List.getElem?_eq_none (by rw [List.length_set]; exact q), List.getElem?_eq_none q]
    · rw [List.getElem?_set_ne e]
  · rw [wipe_out hk, wipe_out hk, List.getElem?_set_ne (fun e : i = k => hk (by rw [← e]; exact h))]
theorem wipe_wipe {σ : L2.St} {js : List Nat} : wipe (wipe σ js) js = wipe σ js := by
  refine List.ext_getElem? fun k => ?_
  by_cases hk : k ∈ js
  · rw [wipe_in hk, wipe_in hk]
    cases σ[k]? <;> rfl
  · rw [wipe_out hk]
theorem envC_set {B H : Hp} {σ : L2.St} {w : Vw} {v : V} {j : Nat} (g : EnvC Γ σ B H) (r : w.rel B v) : EnvC (Γ.set j (some (oV w))) (σ.set j (some v)) B H := ⟨fun i o e => by
  by_cases h : j = i
  · subst h
    rcases Nat.lt_or_ge j Γ.length with q | q
    · rw [List.getElem?_set_self q] at e
      cases e
      exact ⟨v, [], by rw [List.getElem?_set_self (by rw [g.len]; exact q)], r, rfl⟩
    · rw [List.getElem?_eq_none (by simpa using q)] at e; cases e
  · rw [List.getElem?_set_ne h] at e ⊢
    exact g.get i o e, g.sub, by rw [List.length_set, List.length_set]; exact g.len⟩
/-- many names, read -/
theorem envC_setL {B H : Hp} {js0 : List Nat} {σ0 : L2.St} : ∀ {is : List Nat} {ws : List Vw} {vs : List V} {Γ : Cx0} {σ : L2.St} {Q : L2.St → Hp → Prop}, VwL B vs ws → is.length = ws.length → (∀ i ∈ is, i ∈ js0) → wipe σ js0 = wipe σ0 js0 → EnvC Γ σ B H → (∀ σ2, wipe σ2 js0 = wipe σ0 js0 → EnvC (setL Γ is ws) σ2 B H → Q σ2 H) → gNs is vs σ H Q
  | [], [], _, _, _, _, .nil, _, _, w, o, q => ⟨rfl, q _ w o⟩
  | i :: is, w :: ws, _, Γ, σ, Q, .cons (a := v) (l₁ := vs) h l, e, b, z, o, q =>
    ⟨v, vs, rfl, envC_setL l (by simpa using e) (fun j hj => b j (List.mem_cons_of_mem _ hj)) (by rw [wipe_set (b i List.mem_cons_self)]; exact z) (envC_set o h) q⟩
/-- [e for x in xs if t], xs frozen -/
theorem ev_lc {it t e : E} {j : Nat} {τ : α → Vw} {ε : γ → Ow} {c : α → Res Bool} {f : α → Res γ} {m : Res (List α)} (h : EvO T C Γ it (fun xs => oV (vL C τ xs)) m) (hc : ∀ x, EvPs T C (((wipeΓ Γ [j]).set j (some (oV (τ x))))) t (c x))
    (he : ∀ x, EvO T C ((wipeΓ Γ [j]).set j (some (oV (τ x)))) e ε (f x)) : EvO T C Γ (.lc [j] (.iL it) t e) (oL C ε) (m >>= fun xs => gd (decide (xs.length ≤ sizeLine)) (lcR c f xs)) := fun W σ B H Q g z => by
  show (rd T C it W).E σ H _
  refine h W σ B H _ g (rz_imp (rz_bind.mp z) (fun xs z v B1 H1 g1 ⟨fp, ⟨⟨a, vs, hv, hl, hp⟩, hfp⟩, _, _⟩ => ?_) fun _ z => z)
  subst hv
  have hgd : decide (xs.length ≤ sizeLine) = true ∧ Rz (lcR c f xs) (fun x => ∀ (v : V) (B' H' : Hp), Gon B H B' H' → pO (oL C ε) x B H B' H' v → Q v H') (ExK C W σ H) := by
    cases hd : decide (xs.length ≤ sizeLine) with
    | true => rw [hd] at z; exact ⟨rfl, z⟩
    | false => rw [hd] at z; exact z.elim
  refine ⟨a, rfl, ⟨vs, sm_sqL g1.s hl⟩, fun D hD => ?_⟩
  have g0 := wipe_env (g.up g1.b g1.h g1.s) [j]
  refine lc_core (α := α) (xs := xs) (js := [j]) (σ := σ) (ε := ε) (Γ1 := fun x => (wipeΓ Γ [j]).set j (some (oV (τ x)))) (E := ExK C W σ H) g1.s (of_decide_eq_true hgd.1) (fun i x hx H2 s => ?_) (fun H2 s => ?_) (fun i x hx B' H2 v H' Q2 sb s sh y q => ?_) hc he (rz_imp hgd.2 (fun ys q v B' H' g2 p => q v B' H' (g1.trans g2) (Back.bk (P := pO (oL C ε)) ys B H B1 H1 B' H' v g1 p)) fun _ z => z) D hD
  · obtain ⟨v, h1, h2⟩ := vwl_nth hp hx
    exact ⟨vs, v, sm_sqL (sm_trans g1.s s) hl, h1⟩
  · exact ⟨vs, sm_sqL (sm_trans g1.s s) hl, by rw [hp.len, List.length_map]; exact Nat.le_refl _⟩
  · obtain ⟨rfl, y⟩ := y
    obtain ⟨u, h1, h2⟩ := vwl_nth hp hx
    have := y vs (sm_sqL (sm_trans g1.s sh) hl)
    rw [h1] at this
    cases this
    exact q _ (by rw [wipe_set (List.mem_singleton.mpr rfl)]; exact wipe_wipe) (sm_refl _) (envC_set (g0.up sb sh s) ((τ x).mono sb h2))
end
end Q
/-! Q19: more rules. -/
namespace Q
open PySem L2 PySem.Spec
section
variable {T : Tb} {cs : List Nat} {C : Kc} {Γ : Cx0} {α β γ δ ν ν' ρ ξ κ κ' : Type}
theorem ev_bin {a b : E} {o : Operator} {τ : α → Vw} {τ' : β → Vw} {P : PR γ} [Back P] {op : α → β → Res γ} {ma : Res α} {mb : Res β} (ha : EvB T C Γ a τ ma) (hb : EvB T C Γ b τ' mb) (ho : Op2 (rBin C.K o) τ τ' P op) :
    Ev T C P Γ (.bin o a b) (ma >>= fun x => mb >>= fun y => op x y) := ev_op2 (fun _ => rfl) ha hb ho
theorem ev_cmp {a b : E} {o : CmpOp} {τ : α → Vw} {τ' : β → Vw} {P : PR γ} [Back P] {op : α → β → Res γ} {ma : Res α} {mb : Res β} (ha : EvB T C Γ a τ ma) (hb : EvB T C Γ b τ' mb) (ho : Op2 (rCmp C.K o) τ τ' P op) :
    Ev T C P Γ (.cmp o a b) (ma >>= fun x => mb >>= fun y => op x y) := ev_op2 (fun _ => rfl) ha hb ho
theorem ev_ix {a b : E} {τ : α → Vw} {τ' : β → Vw} {P : PR γ} [Back P] {op : α → β → Res γ} {ma : Res α} {mb : Res β} (ha : EvB T C Γ a τ ma) (hb : EvB T C Γ b τ' mb) (ho : Op2 (rIxA C.K) τ τ' P op) :
    Ev T C P Γ (.ix a b) (ma >>= fun x => mb >>= fun y => op x y) := ev_op2 (fun _ => rfl) ha hb ho
theorem ev_neg {a : E} {m : Res Int} (h : EvB T C Γ a vInt m) : EvB T C Γ (.neg a) vInt (m >>= fun x => .ok (-x)) := ev_op1 (a := a) (r := rU fun i => .int (-i)) (fun _ => rfl) h op_neg
theorem ev_q {e : E} {τ : α → Ow} {m : Res α} (h : EvO T C Γ e τ m) : EvO T C Γ e (fun x => oQ (fun _ => True) (τ x)) m := h.imp fun x B H B' H' v s ⟨fp, r, n, f⟩ => ⟨fp, ⟨trivial, r⟩, n, f⟩
/-- frozen from now on -/
theorem b_frz {D : Ds ν β ρ ξ} {i : Nat} {o : Ow} {s : S} {m : Out ν β ρ ξ} (hi : Γ[i]? = some (some o)) (h : Blk T cs C D (Γ.set i (some (oV o.vw))) s m) : Blk T cs C D Γ s m := fun W E σ B Z H fp ok p => by
  obtain ⟨v, f, g, q1, q2, q3, q4⟩ := ok.env.focus hi
  have nd := q3.nodup_iff.mpr ok.nd
  obtain ⟨n1, n2, n3⟩ := List.nodup_append.mp nd
  have fB : ∀ a ∈ f, B a = none := fun a ha => (ok.fr a (q3.mem_iff.mp (List.mem_append_left _ ha))).2
  have gz : Gz B Z (frzB B H f) := ⟨frz_b fB, fun a u e => by
    by_cases ha : a ∈ f
    · exact .inr (.inl (ok.fr a (q3.mem_iff.mp (List.mem_append_left _ ha))).1)
    · rw [frzB_out ha] at e; exact .inl e⟩
  obtain ⟨fp', z1, z2⟩ := q4 (frzB B H f) H (oV o.vw) [] gz.b (fun _ _ => rfl) ⟨o.sub gz.b (fun a ha => frzB_in ha) q2, rfl⟩
  have hm : ∀ a ∈ fp', a ∈ g := fun a ha => z2.mem_iff.mpr ha
  refine h W E σ (frzB B H f) Z H fp' ⟨z1, z2.nodup_iff.mp n2, fun a ha => ?_, frz_h ok.b, ok.z⟩ (p.up gz)
  have hg := hm a ha
  have fr := ok.fr a (q3.mem_iff.mp (List.mem_append_right _ hg))
  refine ⟨fr.1, ?_⟩
  rw [frzB_out fun z => n3 a z a hg rfl]
  exact fr.2
/-- i += e, ints -/
theorem b_augI {D : Ds ν β ρ ξ} {i : Nat} {e : E} {s : S} {a : Int} {m : Res Int} {x0 : ξ} {k : Int → Out ν β ρ ξ} (hi : Γ[i]? = some (some (oV (vInt a)))) (h : EvB T C Γ e vInt m) (w : Wk Γ (D.x x0)) (hs : ∀ x, Blk T cs C D (Γ.set i (some (oV (vInt (a + x))))) s (k x)) :
    Blk T cs C D Γ (.seq (.aug i .Add e) s) (m.to x0 k) := fun W E σ B Z H fp o p => by
  obtain ⟨v, f, h1, ⟨rfl, _⟩⟩ := o.envC.get i _ hi
  refine ⟨.int a, h1, ?_⟩
  refine evo_post (ev_flat h) w o p fun x v B1 H1 fq g1 r o1 p1 => ?_
  obtain ⟨rfl, rfl⟩ := r
  refine ⟨a, x, rfl, rfl, ?_⟩
  obtain ⟨fr, o2⟩ := o1.setV (w := vInt (a + x)) (v := .int (a + x)) (i := i) rfl (by
    rcases Nat.lt_or_ge i Γ.length with q | q
    · exact q
    · rw [List.getElem?_eq_none q] at hi; cases hi)
  exact hs x W E _ B1 Z H1 fr o2 p1
theorem b_subI {D : Ds ν β ρ ξ} {i : Nat} {e : E} {s : S} {a : Int} {m : Res Int} {x0 : ξ} {k : Int → Out ν β ρ ξ} (hi : Γ[i]? = some (some (oV (vInt a)))) (h : EvB T C Γ e vInt m) (w : Wk Γ (D.x x0)) (hs : ∀ x, Blk T cs C D (Γ.set i (some (oV (vInt (a - x))))) s (k x)) :
    Blk T cs C D Γ (.seq (.aug i .Sub e) s) (m.to x0 k) := fun W E σ B Z H fp o p => by
  obtain ⟨v, f, h1, ⟨rfl, _⟩⟩ := o.envC.get i _ hi
  refine ⟨.int a, h1, ?_⟩
  refine evo_post (ev_flat h) w o p fun x v B1 H1 fq g1 r o1 p1 => ?_
  obtain ⟨rfl, rfl⟩ := r
  refine ⟨a, x, rfl, rfl, ?_⟩
  obtain ⟨fr, o2⟩ := o1.setV (w := vInt (a - x)) (v := .int (a - x)) (i := i) rfl (by
    rcases Nat.lt_or_ge i Γ.length with q | q
    · exact q
    · rw [List.getElem?_eq_none q] at hi; cases hi)
  exact hs x W E _ B1 Z H1 fr o2 p1
theorem b_eq {D : Ds ν β ρ ξ} {s : S} {m m' : Out ν β ρ ξ} (h : Blk T cs C D Γ s m) (q : m = m') : Blk T cs C D Γ s m' := q ▸ h
/-! isinstance of plain things -/
theorem ev_isi {a : E} {t : String} {τ : α → Vw} {b : Bool} {m : Res α} (h : EvB T C Γ a τ m) (r : ∀ x (H : Hp) v Q, (τ x).rel H v → Q (.bl b) H → rIsi C.K [v, .ty t] H Q) : EvB T C Γ (.isi a t) vBl (m >>= fun _ => .ok b) := fun W σ B H Q g z => by
  show (rd T C a W).E σ H _
  exact h W σ B H _ g (rz_imp (rz_bind.mp z) (fun x z v B1 H1 g1 p1 => r x H1 v Q p1 (z _ B1 H1 g1 rfl)) fun _ z => z)
end
end Q
/-! Q20: rules for the printed proofs. -/
namespace Q
open PySem L2 PySem.Spec
section
variable {T : Tb} {cs : List Nat} {C : Kc} {Γ : Cx0} {α β γ δ ν ν' ρ ξ κ κ' : Type}
/-! the worth when nothing can go wrong -/
theorem ev_a2p {a b es : E} {x y : Bool} (h : EvT T C Γ a (.ok x)) (h2 : EvAT T C Γ (.cons b es) (.ok y)) : EvAT T C Γ (.cons a (.cons b es)) (.ok (x && y)) := by
  have := ev_a2 h h2
  cases x <;> exact this
theorem ev_r2p {a b es : E} {x y : Bool} (h : EvT T C Γ a (.ok x)) (h2 : EvRT T C Γ (.cons b es) (.ok y)) : EvRT T C Γ (.cons a (.cons b es)) (.ok (x || y)) := by
  have := ev_r2 h h2
  cases x <;> exact this
theorem ev_av2p {a b es : E} {x y : Bool} (h : EvB T C Γ a vBl (.ok x)) (h2 : EvAV T C Γ (.cons b es) (.ok y)) : EvAV T C Γ (.cons a (.cons b es)) (.ok (x && y)) := by
  have := ev_av2 h h2
  cases x <;> exact this
theorem ev_rv2p {a b es : E} {x y : Bool} (h : EvB T C Γ a vBl (.ok x)) (h2 : EvRV T C Γ (.cons b es) (.ok y)) : EvRV T C Γ (.cons a (.cons b es)) (.ok (x || y)) := by
  have := ev_rv2 h h2
  cases x <;> exact this
theorem ev_ifeP {P : PR γ} [Back P] {t a b : E} {c : Bool} {x y : γ} (h : EvT T C Γ t (.ok c)) (ha : Ev T C P Γ a (.ok x)) (hb : Ev T C P Γ b (.ok y)) : Ev T C P Γ (.ife t a b) (.ok (cond c x y)) := by
  have := ev_ife h ha hb
  cases c <;> exact this
theorem ev_chnP {a b d : E} {o p : CmpOp} {τ : α → Vw} {τ' : β → Vw} {τ'' : γ → Vw} {f : α → β → Bool} {f' : β → γ → Bool} {x : α} {y : β} {z : γ} (ha : EvB T C Γ a τ (.ok x)) (hb : EvB T C Γ b τ' (.ok y)) (hd : EvB T C Γ d τ'' (.ok z))
    (ho : Op2 (rCmp C.K o) τ τ' (pB vBl) fun x y => .ok (f x y)) (ho' : Op2 (rCmp C.K p) τ' τ'' (pB vBl) fun x y => .ok (f' x y)) : EvB T C Γ (.chn o p a b d) vBl (.ok (f x y && f' y z)) := by
  have := ev_chn ha hb hd ho ho'
  refine ev_eq this ?_
  show andR (.ok (f x y)) (.ok (f' y z)) = _
  cases f x y <;> rfl
/-! what is seen of what one has -/
class OwV (o : α → Ow) (v : outParam (α → Vw)) : Prop where
  eq : ∀ x, (o x).vw = v x
instance {τ : α → Vw} : OwV (fun x => oV (τ x)) τ := ⟨fun _ => rfl⟩
instance {p : V → Prop} {o : α → Ow} {v : α → Vw} [i : OwV o v] : OwV (fun x => oQ p (o x)) v := ⟨fun x => i.eq x⟩
theorem owv_map {o : α → Ow} {v : α → Vw} [i : OwV o v] (xs : List α) : (xs.map o).map Ow.vw = xs.map v := by
  rw [List.map_map]
  exact List.map_congr_left fun x _ => i.eq x
instance {o : α → Ow} {v : α → Vw} [i : OwV o v] : OwV (oL C o) (vL C v) := ⟨fun xs => by
  show vLs C ((xs.map o).map Ow.vw) = vLs C (xs.map v)
  rw [owv_map]⟩
theorem owv_tup {os : α → List Ow} {ws : α → List Vw} (h : ∀ x, (os x).map Ow.vw = ws x) : OwV (fun x => oTup C (os x)) (fun x => vTup C (ws x)) := ⟨fun x => by
  show vTup C ((os x).map Ow.vw) = _
  rw [h]⟩
theorem owv_ls {os : α → List Ow} {ws : α → List Vw} (h : ∀ x, (os x).map Ow.vw = ws x) : OwV (fun x => oLs C (os x)) (fun x => vLs C (ws x)) := ⟨fun x => by
  show vLs C ((os x).map Ow.vw) = _
  rw [h]⟩
theorem ev_fz {e : E} {o : α → Ow} {v : α → Vw} [i : OwV o v] {m : Res α} (h : EvO T C Γ e o m) : EvO T C Γ e (fun x => oV (v x)) m := by
  have := ev_frz h
  rw [show (fun x => oV (o x).vw) = fun x => oV (v x) from funext fun x => by rw [i.eq]] at this
  exact this
theorem ev_see {e : E} {o : α → Ow} {v : α → Vw} [i : OwV o v] {m : Res α} (h : EvO T C Γ e o m) : EvB T C Γ e v m := by
  have := ev_seen (ev_peek h)
  rw [show (fun x => (o x).vw) = v from funext fun x => i.eq x] at this
  exact this
/-- the names, as they are read -/
inductive Bor : Cx0 → Cx0 → Prop
  | nil : Bor [] []
  | drop {o : Option Ow} {Γ Γ' : Cx0} : Bor Γ Γ' → Bor (o :: Γ) (none :: Γ')
  | put {o : Ow} {w : Vw} {Γ Γ' : Cx0} : o.vw = w → Bor Γ Γ' → Bor (some o :: Γ) (some (oV w) :: Γ')
theorem Bor.envC {B H : Hp} {Γ Γ' : Cx0} (b : Bor Γ Γ') : ∀ {σ : L2.St}, EnvC Γ σ B H → EnvC Γ' σ H H := by
  have key : ∀ {Γ Γ' : Cx0}, Bor Γ Γ' → Γ.length = Γ'.length ∧ ∀ (i : Nat) (o : Ow), Γ'[i]? = some (some o) → ∃ p, Γ[i]? = some (some p) ∧ o = oV p.vw := fun {Γ Γ'} b => by
    induction b with
    | nil => exact ⟨rfl, fun i o e => by simp at e⟩
    | drop b ih =>
      refine ⟨by rw [List.length_cons, List.length_cons, ih.1], fun i o e => ?_⟩
      cases i with
      | zero => simp at e
      | succ i => exact ih.2 i o (by simpa using e)
    | put h b ih =>
      refine ⟨by rw [List.length_cons, List.length_cons, ih.1], fun i o e => ?_⟩
      cases i with
      | zero =>
        simp only [List.getElem?_cons_zero, Option.some.injEq] at e
        subst e h
        exact ⟨_, rfl, rfl⟩
      | succ i => exact ih.2 i o (by simpa using e)
  intro σ g
  obtain ⟨k1, k2⟩ := key b
  refine ⟨fun i o e => ?_, sm_refl _, by rw [g.len, k1]⟩
  obtain ⟨p, q1, rfl⟩ := k2 i o e
  obtain ⟨v, f, h1, h2⟩ := g.get i p q1
  exact ⟨v, [], h1, p.sub g.sub (fun _ _ => rfl) h2, rfl⟩
theorem bor_ev {Γ' : Cx0} {e : E} {τ : α → Ow} [i : Clo τ] {m : Res α} (b : Bor Γ Γ') (h : EvO T C Γ' e τ m) : EvO T C Γ e τ m := fun W σ B H Q g z => by
  refine h W σ H H Q (b.envC g) (rz_imp z (fun x q v B' H' g1 ⟨fp, r, n, f⟩ => ?_) fun _ z => z)
  exact q v B H' ⟨sm_refl _, g1.h, sm_trans g.sub g1.h, newB_refl _ _⟩ ⟨fp, i.cl x B' B H' v fp r, n, fun a ha => ⟨(f a ha).1, none_back g.sub (f a ha).1⟩⟩
theorem bor_evB {Γ' : Cx0} {e : E} {τ : α → Vw} [i : Flat τ] {m : Res α} (b : Bor Γ Γ') (h : EvB T C Γ' e τ m) : EvB T C Γ e τ m := ev_seen (ev_peek (bor_ev b (ev_flat h)))
theorem bor_evT {Γ' : Cx0} {e : E} {m : Res Bool} (b : Bor Γ Γ') (h : EvT T C Γ' e m) : EvT T C Γ e m := fun W σ B H Q g z =>
  h W σ H H Q (b.envC g) (rz_imp z (fun x q B' H' g1 => q B H' ⟨sm_refl _, g1.h, sm_trans g.sub g1.h, newB_refl _ _⟩) fun _ z => z)
theorem wk_envC {B H : Hp} {Γ Γ' : Cx0} (w : Wk Γ Γ') : ∀ {σ : L2.St}, EnvC Γ σ B H → EnvC Γ' σ B H := by
  have key : ∀ {Γ Γ' : Cx0}, Wk Γ Γ' → Γ.length = Γ'.length ∧ ∀ (i : Nat) (o : Ow), Γ'[i]? = some (some o) → ∃ p, Γ[i]? = some (some p) ∧ Le p o := fun {Γ Γ'} b => by
    induction b with
    | nil => exact ⟨rfl, fun i o e => by simp at e⟩
    | drop b ih =>
      refine ⟨by rw [List.length_cons, List.length_cons, ih.1], fun i o e => ?_⟩
      cases i with
      | zero => simp at e
      | succ i => exact ih.2 i o (by simpa using e)
    | keep b ih =>
      refine ⟨by rw [List.length_cons, List.length_cons, ih.1], fun i o e => ?_⟩
      cases i with
      | zero =>
        simp only [List.getElem?_cons_zero, Option.some.injEq] at e
        subst e
        exact ⟨_, rfl, Le.refl _⟩
      | succ i => exact ih.2 i o (by simpa using e)
    | imp l b ih =>
      refine ⟨by rw [List.length_cons, List.length_cons, ih.1], fun i o e => ?_⟩
      cases i with
      | zero =>
        simp only [List.getElem?_cons_zero, Option.some.injEq] at e
        subst e
        exact ⟨_, rfl, l⟩
      | succ i => exact ih.2 i o (by simpa using e)
  intro σ g
  obtain ⟨k1, k2⟩ := key w
  refine ⟨fun i o e => ?_, g.sub, by rw [g.len, k1]⟩
  obtain ⟨p, q1, l⟩ := k2 i o e
  obtain ⟨v, f, h1, h2⟩ := g.get i p q1
  exact ⟨v, f, h1, l.le _ _ _ _ h2⟩
theorem wk_ev {Γ' : Cx0} {e : E} {P : PR α} {m : Res α} (w : Wk Γ Γ') (h : Ev T C P Γ' e m) : Ev T C P Γ e m := fun W σ B H Q g z => h W σ B H Q (wk_envC w g) z
theorem wk_evT {Γ' : Cx0} {e : E} {m : Res Bool} (w : Wk Γ Γ') (h : EvT T C Γ' e m) : EvT T C Γ e m := fun W σ B H Q g z => h W σ B H Q (wk_envC w g) z
/-! isinstance -/
class Ity (C : Kc) (τ : α → Vw) (n : outParam String) : Prop where
  ty : ∀ x H v, (τ x).rel H v → TyX C.K H v (.type n)
instance : Ity C vInt "int" := ⟨fun x H v h => by cases h; exact .base (.int x)⟩
instance : Ity C vBl "bool" := ⟨fun x H v h => by cases h; exact .base (.bl x)⟩
instance : Ity C vStr "str" := ⟨fun x H v h => by cases h; exact .base (.str x)⟩
instance : Ity C vNon "NoneType" := ⟨fun x H v h => by cases h; exact .base .non⟩
theorem ity_ls {ws : α → List Vw} : Ity C (fun x => vLs C (ws x)) "list" := ⟨fun x H v ⟨p, vs, h1, h2, h3⟩ => by
  subst h1
  rcases h2 with (h | ⟨o, h⟩) | ⟨o, its, n, h, hc, _⟩
  · exact .base (.lst h)
  · exact .base (.frz h)
  · exact .kList h hc⟩
instance {τ : α → Vw} : Ity C (vL C τ) "list" := ity_ls (ws := fun xs : List α => xs.map τ)
theorem ity_tup {ws : α → List Vw} : Ity C (fun x => vTup C (ws x)) "tuple" := ⟨fun x H v ⟨p, vs, h1, h2, h3⟩ => by
  subst h1
  rcases h2 with (h | ⟨o, h⟩) | ⟨o, its, n, h, hc, _⟩
  · exact .base (.tup h)
  · exact .fTuple h
  · exact .kTuple h hc⟩
def isiS (a t : String) : Bool := a == t || (a == "bool" && t == "int")
theorem kit_all {K : Frag} {a t : String} (ha : a ∈ ["NoneType", "bool", "int", "str", "tuple", "list", "dict"]) (ht : t ∈ tysOk) : PySem.W.kitOne K (.type a) (.type t) = some (isiS a t) := by
  simp only [List.mem_cons, List.not_mem_nil, or_false] at ha
  simp only [tysOk, List.mem_cons, List.not_mem_nil, or_false] at ht
  rcases ha with rfl | rfl | rfl | rfl | rfl | rfl | rfl <;> rcases ht with rfl | rfl | rfl | rfl | rfl | rfl <;> rfl
theorem ev_isiT {a : E} {t n : String} {τ : α → Vw} [i : Ity C τ n] {b : Bool} {m : Res α} (h : EvB T C Γ a τ m) (hn : n ∈ ["NoneType", "bool", "int", "str", "tuple", "list", "dict"]) (ht : t ∈ tysOk) (hb : isiS n t = b) : EvB T C Γ (.isi a t) vBl (m >>= fun _ => .ok b) :=
  ev_isi h fun x H v Q r q => ⟨v, .ty t, .type n, .type t, b, rfl, .ty t, i.ty x H v r, by rw [kit_all hn ht, hb], q⟩
/-! try -/
theorem Oks.setN {σ : L2.St} {B Z H : Hp} {i : Nat} {fp : List Addr} (h : Oks Γ σ B Z H fp) : ∃ fq, Oks (Γ.set i none) (σ.set i none) B Z H fq := by
  have key : ∀ {Γ : Cx0} {σ : List (Option V)} {fp : List Addr} {i : Nat}, EnvO B H σ Γ fp → ∃ fq, EnvO B H (σ.set i none) (Γ.set i none) fq ∧ fq.Sublist fp := fun {Γ} => by
    induction Γ with
    | nil => intro σ fp i h; cases σ with
      | nil => exact ⟨fp, h, .refl _⟩
      | cons _ _ => cases h
    | cons a Γ ih =>
      intro σ fp i h
      cases σ with
      | nil => cases a <;> cases h
      | cons u σ =>
        cases a with
        | none =>
          cases i with
          | zero => exact ⟨fp, h, .refl _⟩
          | succ i => exact ih (σ := σ) (i := i) h
        | some o =>
          obtain ⟨w, f0, g0, h0, h1, h2, h3⟩ := h
          subst h1
          cases i with
          | zero => exact ⟨g0, h3, List.sublist_append_right f0 g0⟩
          | succ i =>
            obtain ⟨fq, q1, q2⟩ := ih (i := i) h3
            exact ⟨f0 ++ fq, ⟨w, f0, fq, h0, rfl, h2, q1⟩, List.Sublist.append (.refl _) q2⟩
  obtain ⟨fq, q1, q2⟩ := key (i := i) h.env
  exact ⟨fq, q1, h.nd.sublist q2, fun a ha => h.fr a (q2.subset ha), h.b, h.z⟩
/-- an error of a class under n is caught -/
def catO {ν β ρ ξ η : Type} (cs : List Nat) (p : Nat → Bool) (m : Out ν β ρ η) (h : Ex → η → Out ν β ρ ξ) (o : η → ξ) : Out ν β ρ ξ := match m with
  | .nx x => .nx x
  | .bk x => .bk x
  | .ct x => .ct x
  | .rt x => .rt x
  | .exc e y => cond (decide (e.c ∈ cs)) (cond (p e.c) (h e y) (.exc e (o y))) .bad
  | .bad => .bad
end
end Q
/-! Q21: try, the error at hand. -/
namespace Q
open PySem L2 PySem.Spec
/-- the error at hand -/
def vX (a : Addr) (dx : Option Addr) (fs : List (Str × V)) : Vw := ⟨fun B v => v = .ref a ∧ ((fs = [] ∧ dx = none) ∨ ∃ d, dx = some d ∧ B d = some (.xd fs)), fun e h => ⟨h.1, h.2.imp_right fun ⟨d, h1, h2⟩ => ⟨d, h1, e _ _ h2⟩⟩, fun e h => ⟨h.1, h.2.imp_right fun ⟨d, z1, z2⟩ => ⟨d, z1, e.eq z2 rfl (fun _ _ z => nomatch z)⟩⟩⟩
section
variable {T : Tb} {cs : List Nat} {C : Kc} {Γ : Cx0} {α β γ δ ν ν' ρ ξ η κ κ' : Type}
def noEO (m : Out ν β ρ ξ) : Out ν β ρ ξ := match m with
  | .exc _ _ => .bad
  | m => m
@[simp] theorem noEO_nx (x : ν) : noEO (Out.nx x : Out ν β ρ ξ) = .nx x := rfl
@[simp] theorem noEO_rt (x : ρ) : noEO (Out.rt x : Out ν β ρ ξ) = .rt x := rfl
@[simp] theorem noEO_bk (x : β) : noEO (Out.bk x : Out ν β ρ ξ) = .bk x := rfl
@[simp] theorem noEO_ct (x : β) : noEO (Out.ct x : Out ν β ρ ξ) = .ct x := rfl
theorem vx_rel {e : Ex} {cls : Value} {dx : Option Addr} {Z B : Hp} {a : Addr} (r : ExR C e cls dx Z B) : (vX a dx e.fs).rel B (.ref a) := ⟨rfl, r.2.imp_right fun ⟨d, h1, h2, _⟩ => ⟨d, h1, h2⟩⟩
/-- try: b; except n as i: h -/
theorem b_tryA {D : Ds ν β ρ ξ} {Γx : η → Cx0} {b h : S} {n i : Nat} {mb : Out ν β ρ η} {hm : Ex → η → Out ν β ρ ξ} {o : η → ξ} (hb : Blk T cs C ({ n := D.n, b := D.b, t := D.t, r := D.r, x := Γx } : Ds ν β ρ η) Γ b mb) (li : ∀ y, i < (Γx y).length)
    (hh : ∀ a dx e y, e.c ∈ cs → T.sub e.c n = true → Blk T cs { C with ex := some (e.c, a, dx) } D ((Γx y).set i (some (oV (vX a dx e.fs)))) h (hm e y)) (exm : ∀ m ∈ cs, PySem.W.exmOne C.K (.ref (C.cl m)) (.ref (C.cl n)) = some (T.sub m n))
    (hn : ∀ x, (D.n x).set i none = D.n x) (hk : ∀ x, (D.b x).set i none = D.b x) (w : ∀ y, Wk (Γx y) (D.x (o y))) : Blk T cs C D Γ (.tryA b n i h) (catO cs (fun m => T.sub m n) mb (fun e y => noEO (hm e y)) o) := fun W E σ B Z H fp ok p => by
  refine hb _ E σ B Z H fp ok ?_
  cases mb with
  | nx x => exact p
  | bk x => exact p
  | ct x => exact p
  | rt x => exact p
  | bad => exact p
  | exc e y =>
    intro cls d σ1 B1 H1 fp1 g1 o1 r
    replace p : Post C D (cond (decide (e.c ∈ cs)) (cond (T.sub e.c n) (noEO (hm e y)) (.exc e (o y))) .bad) W E B Z := p
    cases hc : decide (e.c ∈ cs) with
    | false => rw [hc] at p; exact p.elim
    | true =>
      rw [hc] at p
      replace p : Post C D (cond (T.sub e.c n) (noEO (hm e y)) (.exc e (o y))) W E B Z := p
      have hc := of_decide_eq_true hc
      refine ⟨T.sub e.c n, by rw [r.1]; exact exm e.c hc, fun ht a ha => ⟨e.c, hc, r.1, ?_⟩, fun hf => ?_⟩
      · rw [ht] at p
        replace p : Post C D (noEO (hm e y)) W E B Z := p
        obtain ⟨fp2, o2⟩ := o1.setV (w := vX a d e.fs) (v := .ref a) (vx_rel r) (li y)
        refine hh a d e y hc ht noX _ _ B1 Z H1 fp2 o2 ?_
        have p2 := p.up g1
        cases q : hm e y with
        | nx x =>
          rw [q] at p2
          intro σ3 B3 H3 fp3 g3 o3
          obtain ⟨fp4, o4⟩ := o3.setN (i := i)
          rw [hn] at o4
          exact p2 _ B3 H3 fp4 g3 o4
        | bk x =>
          rw [q] at p2
          intro σ3 B3 H3 fp3 g3 o3
          obtain ⟨fp4, o4⟩ := o3.setN (i := i)
          rw [hk] at o4
          exact p2 _ B3 H3 fp4 g3 o4
        | ct x =>
          rw [q] at p2
          intro σ3 B3 H3 fp3 g3 o3
          obtain ⟨fp4, o4⟩ := o3.setN (i := i)
          rw [hk] at o4
          exact p2 _ B3 H3 fp4 g3 o4
        | rt x => rw [q] at p2; exact p2
        | exc e x => rw [q] at p2; exact p2.elim
        | bad => rw [q] at p2; exact p2
      · rw [hf] at p
        obtain ⟨fp2, o2⟩ := o1.wk (w y)
        exact p cls d σ1 B1 H1 fp2 g1 o2 r
/-- try: b; except n: h -/
theorem b_tryO {D : Ds ν β ρ ξ} {Γx : η → Cx0} {b h : S} {n : Nat} {mb : Out ν β ρ η} {hm : Ex → η → Out ν β ρ ξ} {o : η → ξ} (hb : Blk T cs C ({ n := D.n, b := D.b, t := D.t, r := D.r, x := Γx } : Ds ν β ρ η) Γ b mb)
    (hh : ∀ a dx e y, e.c ∈ cs → T.sub e.c n = true → Blk T cs { C with ex := some (e.c, a, dx) } D (Γx y) h (hm e y)) (exm : ∀ m ∈ cs, PySem.W.exmOne C.K (.ref (C.cl m)) (.ref (C.cl n)) = some (T.sub m n))
    (w : ∀ y, Wk (Γx y) (D.x (o y))) : Blk T cs C D Γ (.tryO b n h) (catO cs (fun m => T.sub m n) mb (fun e y => noEO (hm e y)) o) := fun W E σ B Z H fp ok p => by
  refine hb _ E σ B Z H fp ok ?_
  cases mb with
  | nx x => exact p
  | bk x => exact p
  | ct x => exact p
  | rt x => exact p
  | bad => exact p
  | exc e y =>
    intro cls d σ1 B1 H1 fp1 g1 o1 r
    replace p : Post C D (cond (decide (e.c ∈ cs)) (cond (T.sub e.c n) (noEO (hm e y)) (.exc e (o y))) .bad) W E B Z := p
    cases hc : decide (e.c ∈ cs) with
    | false => rw [hc] at p; exact p.elim
    | true =>
      rw [hc] at p
      replace p : Post C D (cond (T.sub e.c n) (noEO (hm e y)) (.exc e (o y))) W E B Z := p
      have hc := of_decide_eq_true hc
      refine ⟨T.sub e.c n, by rw [r.1]; exact exm e.c hc, fun ht a ha => ⟨e.c, hc, r.1, ?_⟩, fun hf => ?_⟩
      · rw [ht] at p
        replace p : Post C D (noEO (hm e y)) W E B Z := p
        refine hh a d e y hc ht noX _ _ B1 Z H1 fp1 o1 ?_
        have p2 := p.up g1
        cases q : hm e y with
        | nx x => rw [q] at p2; exact p2
        | bk x => rw [q] at p2; exact p2
        | ct x => rw [q] at p2; exact p2
        | rt x => rw [q] at p2; exact p2
        | exc e x => rw [q] at p2; exact p2.elim
        | bad => rw [q] at p2; exact p2
      · rw [hf] at p
        obtain ⟨fp2, o2⟩ := o1.wk (w y)
        exact p cls d σ1 B1 H1 fp2 g1 o2 r
theorem ev_isx {i m c : Nat} {a : Addr} {dx : Option Addr} {fs : List (Str × V)} (hi : Γ[i]? = some (some (oV (vX a dx fs)))) : EvB T { C with ex := some (m, a, dx) } Γ (.isx i c) vBl (.ok (T.sub m c)) := fun W σ B H Q g z => by
  obtain ⟨v, f, h1, ⟨⟨rfl, h2⟩, _⟩⟩ := g.get i _ hi
  refine ⟨m, a, dx, rfl, h1, (show 1 ≤ sizeLine by decide), fun d e => ?_, fun H' s => ?_⟩
  · rcases h2 with ⟨_, q⟩ | ⟨d', q, hd⟩
    · rw [q] at e; cases e
    · rw [q] at e; cases e; exact ⟨fs, g.sub _ _ hd⟩
  · have := z (.bl (T.sub m c)) B H' (Gon.up g.sub s) rfl
    rw [show [c].any (T.sub m) = T.sub m c by simp]
    exact this
theorem ev_isxs {i m : Nat} {ns : List Nat} {a : Addr} {dx : Option Addr} {fs : List (Str × V)} (hi : Γ[i]? = some (some (oV (vX a dx fs)))) (hl : ns.length ≤ sizeLine) : EvB T { C with ex := some (m, a, dx) } Γ (.isxs i ns) vBl (.ok (ns.any (T.sub m))) := fun W σ B H Q g z => by
  obtain ⟨v, f, h1, ⟨⟨rfl, h2⟩, _⟩⟩ := g.get i _ hi
  refine ⟨m, a, dx, rfl, h1, hl, fun d e => ?_, fun H' s => z _ B H' (Gon.up g.sub s) rfl⟩
  rcases h2 with ⟨_, q⟩ | ⟨d', q, hd⟩
  · rw [q] at e; cases e
  · rw [q] at e; cases e; exact ⟨fs, g.sub _ _ hd⟩
theorem ev_isv {i m : Nat} {a : Addr} {dx : Option Addr} {fs : List (Str × V)} (hi : Γ[i]? = some (some (oV (vX a dx fs)))) : EvB T { C with ex := some (m, a, dx) } Γ (.isv i) vBl (.ok true) := fun W σ B H Q g z => by
  obtain ⟨v, f, h1, ⟨⟨rfl, h2⟩, _⟩⟩ := g.get i _ hi
  refine ⟨m, a, dx, rfl, h1, fun d e => ?_, z _ B H (.refl g.sub) rfl⟩
  rcases h2 with ⟨_, q⟩ | ⟨d', q, hd⟩
  · rw [q] at e; cases e
  · rw [q] at e; cases e; exact ⟨fs, g.sub _ _ hd⟩
theorem ev_hot {i : Nat} {es : E} {τ : α → Ow} {m : Res α} (h : EvO T C Γ (.call i es) τ m) : EvO T C Γ (.callH i es) τ m := h
/-- a field of the error at hand -/
def fldR (fs : List (Str × V)) (f : Str) : Res V := getR (fs.lookup f)
theorem ev_exf {i m : Nat} {f : Str} {a : Addr} {dx : Option Addr} {fs : List (Str × V)} (hi : Γ[i]? = some (some (oV (vX a dx fs)))) (hf : PySem.W.findIn C.K (.ref (C.cl m)) f = some none) : EvB T { C with ex := some (m, a, dx) } Γ (.exf i f) (fun v => vC v) (fldR fs f) := fun W σ B H Q g z => by
  obtain ⟨v, f, h1, ⟨⟨rfl, h2⟩, _⟩⟩ := g.get i _ hi
  unfold fldR at z
  cases q : fs.lookup ‹Str› with
  | none => rw [q] at z; exact z.elim
  | some w =>
    rw [q] at z
    rcases h2 with ⟨e, _⟩ | ⟨d, rfl, hd⟩
    · rw [e] at q; cases q
    · exact ⟨m, a, d, fs, w, rfl, h1, g.sub _ _ hd, q, hf, z _ B H (.refl g.sub) rfl⟩
end
theorem allLt {n : Nat} {js : List Nat} (h : (js.all fun j => Nat.blt j n) = true) : ∀ j ∈ js, j < n := fun j hj => Nat.le_of_ble_eq_true (List.all_eq_true.mp h j hj)
section
variable {T : Tb} {cs : List Nat} {C : Kc} {Γ : Cx0} {α ν β ρ ξ : Type}
/-- xs.append(e), things of one kind -/
theorem b_appL {D : Ds ν β ρ ξ} {i : Nat} {e : E} {s : S} {q : V → Prop} {τ : α → Ow} {xs : List α} {m : Res α} {x0 : ξ} {k : α → Out ν β ρ ξ} (hi : Γ[i]? = some (some (oQ q (oL C τ xs)))) (h : EvO T C Γ e τ m) (w : Wk Γ (D.x x0))
    (hs : ∀ x, Blk T cs C D (Γ.set i (some (oQ q (oL C τ (xs ++ [x]))))) s (k x)) : Blk T cs C D Γ (.seq (.exp (.bm .lApp (.var i) (.cons e .nil))) s) (m.to x0 fun x => gdO (decide (xs.length < sizeLine)) (k x)) := by
  have := b_app (cs := cs) (s := s) (k := k) hi h w fun x => by
    have h := hs x
    rw [show oL C τ (xs ++ [x]) = oLs C (xs.map τ ++ [τ x]) by rw [oL, List.map_append]; rfl] at h
    exact h
  rw [List.length_map] at this
  exact this
/-- an own thing is frozen -/
theorem b_fz {D : Ds ν β ρ ξ} {i : Nat} {o : α → Ow} {v : α → Vw} [iv : OwV o v] {q : V → Prop} {x : α} {s : S} {m : Out ν β ρ ξ} (hi : Γ[i]? = some (some (oQ q (o x)))) (h : Blk T cs C D (Γ.set i (some (oV (v x)))) s m) : Blk T cs C D Γ s m := by
  refine b_frz hi ?_
  rw [show (oQ q (o x)).vw = v x from iv.eq x]
  exact h
end
/-- the law's end -/
theorem law_ok {R : Row} {C : Kc} {f : List Int → Out Unit Unit Bool Unit} (h : FnT C R (fun k : List Int × Unit => [vL C vInt k.1]) (fun b => oV (vBl b)) (fun k => outR (f k.1))) (law : ∀ ns : List Int, ns.length ≤ 63 → (∀ z ∈ ns, Builtin.Int.intBits z ≤ 1048576) → f ns = .rt true) :
    ∀ vs H Q E, spLawB C.K vs H Q E → R.sp C vs H Q E := by
  rintro vs H Q E ⟨a, ns, rfl, hs, hl, hb, hq⟩
  refine h (ns, ()) _ H H Q E (sm_refl _) (.cons ⟨a, _, rfl, hs, ?_⟩ .nil) ?_
  · clear hs hl hb hq
    induction ns with
    | nil => exact .nil
    | cons n ns ih => exact .cons rfl ih
  · show Rz (outR (f ns)) _ _
    rw [law ns hl hb]
    intro v B' H' g ⟨fp, r, _, _⟩
    rw [show v = .bl true from r.1]
    exact hq H'
end Q
/-! Q22: what the top must have written. -/
namespace Q
open PySem L2 PySem.Spec
structure ClsO (K : Frag) (mg : Str → Option Value) (nm : Str) (C : Addr) : Prop where
  mg : mg nm = some (.ref C)
  bs : PySem.W.subIn K (.ref C) (.type "BaseException") = some true
  ty : PySem.W.typeIn K (.ref C) = some (.type "type")
  hd : PySem.W.hasDictIn K C = true
  kp : PySem.W.keepIn K (.ref C) = true
  exc : ExcC K C
  ve : PySem.W.subIn K (.ref C) (.type "ValueError") = some true
theorem kit_ref {K : Frag} {cls : Value} {C : Addr} {b : Bool} (hdct : PySem.W.hasDictIn K C = true) (ht : PySem.W.typeIn K (.ref C) = some (.type "type")) (h4 : PySem.W.subIn K cls (.ref C) = some b) (hr : (cls == .ref C) = true → b = true) : PySem.W.kitOne K cls (.ref C) = some b := by
  obtain ⟨cd, hc, _⟩ := PySem.W.any_some hdct
  unfold PySem.W.kitOne
  split
  · rename_i e
    rw [hr e]
  · have e2 : ((PySem.W.clsIn K C).isSome && PySem.W.typeIn K (.ref C) == some (.type "type")) = true := by rw [hc, ht] <;> rfl
    show (if ((PySem.W.clsIn K C).isSome && PySem.W.typeIn K (.ref C) == some (.type "type")) = true then PySem.W.subIn K cls (.ref C) else none) = some b
    rw [if_pos e2]
    exact h4
theorem kit_ve {K : Frag} {C : Addr} (h : PySem.W.subIn K (.ref C) (.type "ValueError") = some true) : PySem.W.kitOne K (.ref C) (.type "ValueError") = some true := by
  unfold PySem.W.kitOne
  rw [if_neg (show ¬ ((Value.ref C == Value.type "ValueError") = true) from fun z => by cases beq_iff_eq.mp z)]
  show (if PySem.W.kitMeta "ValueError" = true then PySem.W.subIn K (.ref C) (.type "ValueError") else none) = some true
  rw [if_pos (by decide +kernel)]
  exact h
/-- the law's classes and names -/
structure Lw where
  cs : List Nat
  sub : Nat → Nat → Bool
  /-- made of a text -/
  rs0 : List Nat
  fnm : Nat → Str
  cnm : Nat → Str
  gs : List Nat
  gnm : Nat → Str
structure Wd (L : Lw) (K : Frag) (mg : Str → Option Value) (cl : Nat → Addr) (gl : Nat → V) : Prop where
  one : ∀ n ∈ L.cs, ClsO K mg (L.cnm n) (cl n)
  ex : ∀ n ∈ L.rs0, PySem.W.excIn K (cl n) veT "ValueError.__new__" = true
  pr : ∀ m ∈ L.cs, ∀ n ∈ L.cs, PySem.W.subIn K (.ref (cl m)) (.ref (cl n)) = some (L.sub m n)
  rf : ∀ m ∈ L.cs, ∀ n ∈ L.cs, cl m = cl n → L.sub m n = true
  blt : ∀ x ∈ bltNames, mg x = none
  glo : ∀ n ∈ L.gs, ∃ u, mg (L.gnm n) = some u ∧ RelV (gl n) u
def dfR : Row := ⟨0, [], fun _ _ _ _ _ => False⟩
def gx (L : Lw) (T : Tb) (P : Program) (w : World) (K : Frag) (mg : Str → Option Value) (base : Heap) (cl : Nat → Addr) (gl : Nat → V) : Gx := { T := T, fn := L.fnm, cn := L.cnm, gs := L.gs, gn := L.gnm, cs := L.cs, P := P, w := w, C := ⟨K, cl, gl, none⟩, mg := mg, base := base }
section
variable {L : Lw} {T T' : Tb} {P : Program} {w : World} {K : Frag} {mg : Str → Option Value} {base : Heap} {cl : Nat → Addr} {gl : Nat → V}
/-- the errors of a def are made of texts -/
theorem Wd.world (W : Wd L K mg cl gl) {k : Nat} {rs : List Nat} (h : rs.all (fun n => decide (n ∈ L.rs0) && decide (n ∈ L.cs) && decide (T.ini n = 0) && decide (T.mt n "#vini" ≠ 1)) = true) (hs : T.sub = L.sub) : WorldT (gx L T P w K mg base cl gl) k rs :=
  have H : ∀ n ∈ rs, n ∈ L.rs0 ∧ n ∈ L.cs ∧ T.ini n = 0 ∧ T.mt n "#vini" ≠ 1 := fun n hn => by
    have := List.all_eq_true.mp h n hn
    simp only [Bool.and_eq_true, decide_eq_true_eq] at this
    exact ⟨this.1.1.1, this.1.1.2, this.1.2, this.2⟩
  { cls :=
      { mg := fun n h => (W.one n h).mg
        sub := fun n h => (H n h).2.1
        kp := fun n h => (W.one n (H n h).2.1).kp
        bs := fun n h => (W.one n (H n h).2.1).bs
        ty := fun n h => (W.one n (H n h).2.1).ty
        exI := fun n h _ => W.ex n (H n h).1
        exO := fun n h z => absurd (H n h).2.2.1 z
        vin := fun n h z => absurd z (H n h).2.2.2
        exm := fun m hm n hn => by
          rw [show (gx L T P w K mg base cl gl).T.sub m n = L.sub m n from congrFun (congrFun hs m) n]
          exact PySem.W.exm_ref (W.one n hn).bs (W.one n hn).hd (W.one n hn).ty (W.pr m hm n hn)
        kit := fun m hm n hn => by
          rw [show (gx L T P w K mg base cl gl).T.sub m n = L.sub m n from congrFun (congrFun hs m) n]
          exact kit_ref (W.one n hn).hd (W.one n hn).ty (W.pr m hm n hn) fun e => W.rf m hm n hn (Value.ref.inj (beq_iff_eq.mp e))
        exc := fun n h => (W.one n h).exc
        ve := fun n h => kit_ve (W.one n h).ve }
    ex := rfl
    blt := W.blt
    glo := W.glo }
theorem Wd.exm (W : Wd L K mg cl gl) : ∀ m ∈ L.cs, ∀ n ∈ L.cs, PySem.W.exmOne K (.ref (cl m)) (.ref (cl n)) = some (L.sub m n) := fun m hm n hn => PySem.W.exm_ref (W.one n hn).bs (W.one n hn).hd (W.one n hn).ty (W.pr m hm n hn)
theorem FnC.tb {k : Nat} {R : Row} {f : Addr} (h : FnC (gx L T P w K mg base cl gl) k R f) : FnC (gx L T' P w K mg base cl gl) k R f := ⟨h.ex⟩
theorem FnCH.tb {k : Nat} {R : Row} {f : Addr} (h : FnCH (gx L T P w K mg base cl gl) k R f) : FnCH (gx L T' P w K mg base cl gl) k R f := ⟨h.ex⟩
/-- the row of a def with this body -/
def rowB (L : Lw) (T : Tb) (ar : Nat) (dfl : List V) (N : Nat) (s : S) : Row := ⟨ar, dfl, spB T L.cs ar N s⟩
theorem fn_is {c : Cn} {k : Nat} {x qual : Str} {params : Arguments} {body : List Stmt} {sc : Scope} {dvs dfl : List V} {f : Addr} {fd : FuncData} {ps : List Str} {s : S}
    (hF : FunD K x qual params body sc dvs [] f fd) (t : DefT (gx L T P w K mg base cl gl).toGt c ps sc body s false) (W : WorldT (gx L T P w K mg base cl gl) k c.rs) (cl' : CallsT (gx L T P w K mg base cl gl) c k)
    (hb : ∀ n, n ≤ dfl.length → ∃ us, Binds K fd ps us ∧ Vals (dfl.drop n) us) : FnC (gx L T P w K mg base cl gl) (k + 1) (rowB L T ps.length dfl c.N.length s) f :=
  ⟨fd, ps, def_ok (G := gx L T P w K mg base cl gl) hF t W cl', hF.kp, rfl, hb⟩
theorem fnh_is {c : Cn} {k : Nat} {x qual : Str} {params : Arguments} {body : List Stmt} {sc : Scope} {dvs dfl : List V} {f : Addr} {fd : FuncData} {ps : List Str} {s : S}
    (hF : FunD K x qual params body sc dvs [] f fd) (t : DefT (gx L T P w K mg base cl gl).toGt c ps sc body s true) (W : WorldT (gx L T P w K mg base cl gl) k []) (cl' : CallsT (gx L T P w K mg base cl gl) c k) (nf : c.fs = [] ∧ c.ms = [] ∧ c.mks = [] ∧ c.bi = [] ∧ c.rs = [])
    (hb : ∀ n, n ≤ dfl.length → ∃ us, Binds K fd ps us ∧ Vals (dfl.drop n) us) : FnCH (gx L T P w K mg base cl gl) (k + 1) (rowB L T ps.length dfl c.N.length s) f :=
  defH_ok (G := gx L T P w K mg base cl gl) (R := rowB L T ps.length dfl c.N.length s) hF t W cl' nf rfl rfl hb
theorem bind0 {fd : FuncData} {ps : List Str} (b : Binds K fd ps []) : ∀ n, n ≤ ([] : List V).length → ∃ us, Binds K fd ps us ∧ Vals (([] : List V).drop n) us := fun n _ => ⟨[], b, by cases n <;> exact .nil⟩
end
theorem FunD.ofN {K : Frag} {x qual : Str} {params : Arguments} {body : List Stmt} {sc : Scope} {f : Addr} {oc : Value} {od an : Option Addr} {kV doc pm cdv ct : Value} {osl : Array (Option Value)} (l : K.lookup f = some ⟨oc, od, .func (PySem.W.fnOf x qual params body sc .none kV doc pm an cdv ct), osl⟩)
    (c : PySem.W.codeIn K cdv qual = true) (k : PySem.W.keepIn K (.ref f) = true) : FunD K x qual params body sc [] [] f (PySem.W.fnOf x qual params body sc .none kV doc pm an cdv ct) := ⟨⟨oc, od, .none, kV, doc, pm, an, cdv, ct, osl, rfl, l, c, .inl ⟨rfl, rfl⟩, .inl rfl⟩, k⟩
theorem FunD.ofD {K : Frag} {x qual : Str} {params : Arguments} {body : List Stmt} {sc : Scope} {f Ta : Addr} {oc oc' : Value} {od od' an : Option Addr} {kV doc pm cdv ct : Value} {osl osl' : Array (Option Value)} {its : List Value} {n : Nat} {dvs : List V} (l : K.lookup f = some ⟨oc, od, .func (PySem.W.fnOf x qual params body sc (.ref Ta) kV doc pm an cdv ct), osl⟩)
    (c : PySem.W.codeIn K cdv qual = true) (k : PySem.W.keepIn K (.ref f) = true) (d : K.lookup Ta = some ⟨oc', od', .seq its.toArray n, osl'⟩) (ne : dvs ≠ []) (v : Vals dvs its) : FunD K x qual params body sc dvs [] f (PySem.W.fnOf x qual params body sc (.ref Ta) kV doc pm an cdv ct) :=
  ⟨⟨oc, od, .ref Ta, kV, doc, pm, an, cdv, ct, osl, rfl, l, c, .inr ⟨ne, Ta, _, its, n, rfl, d, rfl, v⟩, .inl rfl⟩, k⟩
end Q
/-! Q23: places in texts, slices, copies, unpacking, comprehensions over ranges, walks with a count, side by side, backwards. -/
namespace Q
open PySem L2 PySem.Spec
section
variable {T : Tb} {cs : List Nat} {C : Kc} {Γ : Cx0} {α β γ δ ν ν' ρ ξ κ : Type}
/-- s[i], a text -/
def strAt (z : Str) (i : Int) : Res Str := gd (decide (z.length ≤ sizeLine)) (getR ((atI z.cps.toList i).map fun c => (⟨#[c]⟩ : Str)))
theorem op_ixS : Op2 (rIxA C.K) vStr vInt (pB vStr) strAt where
  no := fun _ _ => nox_gd nox_get
  run := fun x y B H v w Q s h1 h2 q => by
    obtain ⟨q1, q2⟩ := say_gd q
    obtain ⟨z, e, q⟩ := say_get q2
    cases h1
    cases h2
    cases hc : atI x.cps.toList y with
    | none => rw [hc] at e; cases e
    | some c =>
      rw [hc] at e
      cases e
      exact .inl (.inr (.inr ⟨x, y, c, rfl, rfl, of_decide_eq_true q1, hc, say_ok s q rfl⟩))
/-! slices -/
theorem eo_some {e : E} {m : Res Int} (h : EvB T C Γ e vInt m) : EvOp T C Γ (.cons e .nil) (m >>= fun i => .ok (some i)) := fun W σ B H Q g z => by
  show (rd T C e W).E σ H _
  exact h W σ B H _ g (rz_imp (rz_bind.mp z) (fun x q v B' H' g1 p => ⟨x, p, q B' H' g1⟩) fun _ z => z)
def cutL (xs : List α) (lo hi : Option Int) : List α := (xs.drop (HT.sIx xs.length 0 lo)).take (HT.sIx xs.length xs.length hi - HT.sIx xs.length 0 lo)
theorem vwl_drop {H : Hp} : ∀ {vs : List V} {ws : List Vw} (n : Nat), VwL H vs ws → VwL H (vs.drop n) (ws.drop n)
  | _, _, 0, h => h
  | _, _, n + 1, .nil => .nil
  | _, _, n + 1, .cons _ l => vwl_drop n l
theorem vwl_take {H : Hp} : ∀ {vs : List V} {ws : List Vw} (n : Nat), VwL H vs ws → VwL H (vs.take n) (ws.take n)
  | _, _, 0, _ => .nil
  | _, _, n + 1, .nil => .nil
  | _, _, n + 1, .cons a l => .cons a (vwl_take n l)
theorem vwl_cut {H : Hp} {vs : List V} {xs : List α} {τ : α → Vw} (h : VwL H vs (xs.map τ)) (lo hi : Option Int) : VwL H (cutV vs lo hi) ((cutL xs lo hi).map τ) := by
  unfold cutV cutL
  rw [show vs.length = xs.length by rw [h.len, List.length_map], List.map_take, List.map_drop]
  exact vwl_take _ (vwl_drop _ h)
theorem ev_slL {a lo hi : E} {τ : α → Vw} {ma : Res (List α)} {ml mh : Res (Option Int)} (ha : EvO T C Γ a (fun xs => oV (vL C τ xs)) ma) (hl : EvOp T C Γ lo ml) (hh : EvOp T C Γ hi mh) :
    EvO T C Γ (.sl a lo hi) (oL C fun x => oV (τ x)) (ma >>= fun xs => ml >>= fun i => mh >>= fun j => .ok (cutL xs i j)) := fun W σ B H Q g z => by
  show (rd T C a W).E σ H _
  refine ha W σ B H _ g (rz_imp (rz_bind.mp z) (fun xs z v B1 H1 g1 ⟨fp, ⟨⟨p, vs, hv, h2, h3⟩, _⟩, _, _⟩ => ?_) fun _ z => z)
  subst hv
  refine hl W σ B1 H1 _ (g.up g1.b g1.h g1.s) (rz_imp (rz_bind.mp z) (fun i z B2 H2 g2 => ?_) fun _ z => z.up g1.h)
  refine hh W σ B2 H2 _ (g.up (g1.trans g2).b (g1.trans g2).h g2.s) (rz_imp (rz_bind.mp z) (fun j z B3 H3 g3 => ?_) fun _ z => z.up (g1.trans g2).h)
  have g13 := g2.trans g3
  refine .inl ⟨p, vs, rfl, sm_sqL (sm_trans g13.b g13.s) h2, fun q hq => ?_⟩
  have ho := owl_oV (B := B3) (H := H3) (vwl_cut (h3.mono g13.b) i j)
  rw [List.map_map] at ho
  obtain ⟨k1, k2, k3, k4⟩ := new_ls (C := C) g3.s hq ho
  have g0 := g1.trans g13
  exact z (.ref q) B3 _ (g0.trans k1) ⟨[q], k2, k3, fun b hb => ⟨none_back g0.h (k4 b hb).1, (k4 b hb).2⟩⟩
theorem ev_slS {a lo hi : E} {ma : Res Str} {ml mh : Res (Option Int)} (ha : EvB T C Γ a vStr ma) (hl : EvOp T C Γ lo ml) (hh : EvOp T C Γ hi mh) :
    EvB T C Γ (.sl a lo hi) vStr (ma >>= fun x => ml >>= fun i => mh >>= fun j => gd (decide (x.length ≤ sizeLine)) (.ok (cutS x i j))) := fun W σ B H Q g z => by
  show (rd T C a W).E σ H _
  refine ha W σ B H _ g (rz_imp (rz_bind.mp z) (fun x z v B1 H1 g1 p1 => ?_) fun _ z => z)
  refine hl W σ B1 H1 _ (g.up g1.b g1.h g1.s) (rz_imp (rz_bind.mp z) (fun i z B2 H2 g2 => ?_) fun _ z => z.up g1.h)
  refine hh W σ B2 H2 _ (g.up (g1.trans g2).b (g1.trans g2).h g2.s) (rz_imp (rz_bind.mp z) (fun j z B3 H3 g3 => ?_) fun _ z => z.up (g1.trans g2).h)
  cases hd : decide (x.length ≤ sizeLine) with
  | false => rw [hd] at z; exact z.elim
  | true =>
    rw [hd] at z
    exact .inr (.inl ⟨x, p1, of_decide_eq_true hd, z _ B3 H3 ((g1.trans g2).trans g3) rfl⟩)
/-- list(xs), what is frozen -/
theorem ev_listF {a : E} {τ : α → Vw} {ma : Res (List α)} (ha : EvO T C Γ a (fun xs => oV (vL C τ xs)) ma) : EvO T C Γ (.blt .list (.cons a .nil)) (oL C fun x => oV (τ x)) ma := fun W σ B H Q g z => by
  show (rd T C a W).E σ H _
  refine ha W σ B H _ g (rz_imp z (fun xs z v B1 H1 g1 ⟨fp, ⟨⟨p, vs, hv, h2, h3⟩, _⟩, _, _⟩ => ?_) fun _ z => z)
  subst hv
  refine .inl ⟨p, vs, rfl, .inl (sm_sqL g1.s h2), fun q hq => ?_⟩
  have ho := owl_oV (B := B1) (H := H1) h3
  rw [List.map_map] at ho
  obtain ⟨k1, k2, k3, k4⟩ := new_ls (C := C) g1.s hq ho
  exact z (.ref q) B1 _ (g1.trans k1) ⟨[q], k2, k3, fun b hb => ⟨none_back g1.h (k4 b hb).1, (k4 b hb).2⟩⟩
/-- xs[i], what is frozen -/
theorem ev_ixF {a b : E} {τ : α → Vw} {ma : Res (List α)} {mb : Res Int} (ha : EvO T C Γ a (fun xs => oV (vL C τ xs)) ma) (hb : EvB T C Γ b vInt mb) : EvO T C Γ (.ix a b) (fun x => oV (τ x)) (ma >>= fun xs => mb >>= fun i => ixR xs i) := fun W σ B H Q g z => by
  show (rd T C a W).E σ H _
  refine ha W σ B H _ g (rz_imp (rz_bind.mp z) (fun xs z v B1 H1 g1 ⟨fp, ⟨⟨p, vs, hv, h2, h3⟩, _⟩, _, _⟩ => ?_) fun _ z => z)
  subst hv
  refine hb W σ B1 H1 _ (g.up g1.b g1.h g1.s) (rz_imp (rz_bind.mp z) (fun i z w B2 H2 g2 p2 => ?_) fun _ z => z.up g1.h)
  unfold ixR at z
  cases q : atI xs i with
  | none => rw [q] at z; exact z.elim
  | some x =>
    rw [q] at z
    obtain ⟨u, e2, r⟩ := h3.at q
    exact .inl (.inl ⟨p, vs, i, u, rfl, p2, sm_sqL (sm_trans g2.b g2.s) h2, e2, z u B2 H2 (g1.trans g2) ⟨[], ⟨(τ x).mono g2.b r, rfl⟩, List.nodup_nil, fun _ z => nomatch z⟩⟩)
theorem ev_pickF {ws : α → List Vw} {τ : γ → Vw} {f : α → γ} {n : Nat} {a : E} {m : Res α} (h : EvO T C Γ a (fun x => oV (vTup C (ws x))) m) (hn : ∀ x, (ws x)[n]? = some (τ (f x))) : EvO T C Γ (.ix a (.int n)) (fun y => oV (τ y)) (m >>= fun x => .ok (f x)) := fun W σ B H Q g z => by
  refine h W σ B H _ g (rz_imp (rz_bind.mp z) (fun x z v B1 H1 g1 ⟨fp, ⟨⟨p, vs, hv, h3, h4⟩, _⟩, _, _⟩ => ?_) fun _ z => z)
  subst hv
  obtain ⟨u, e2, r⟩ := h4.nth (hn x)
  refine .inl (.inr (.inl ⟨p, vs, n, u, rfl, rfl, sm_sqT g1.s h3, ?_, z u B1 H1 g1 ⟨[], ⟨r, rfl⟩, List.nodup_nil, fun _ z => nomatch z⟩⟩))
  unfold atI ixN
  have hl : n < vs.length := by
    rcases Nat.lt_or_ge n vs.length with q | q
    · exact q
    · rw [List.getElem?_eq_none q] at e2; cases e2
  rw [if_pos (by omega), if_pos (by omega)]
  exact e2
/-- a, b = e -/
theorem b_asgT {D : Ds ν β ρ ξ} {is : List Nat} {e : E} {s : S} {ws : α → List Vw} {m : Res α} {x0 : ξ} {k : α → Out ν β ρ ξ} (h : EvO T C Γ e (fun x => oV (vTup C (ws x))) m) (w : Wk Γ (D.x x0)) (hw : ∀ x, is.length = (ws x).length) (l : ∀ i ∈ is, i < Γ.length)
    (hs : ∀ x, Blk T cs C D (setL Γ is (ws x)) s (k x)) : Blk T cs C D Γ (.seq (.asgT is e) s) (m.to x0 k) := fun W E σ B Z H fp o p => by
  show (rd T C e W).E σ H _
  refine evo_post h w o p fun x v B1 H1 fq g1 r o1 p1 => ?_
  obtain ⟨⟨c, us, rfl, h3, h4⟩, _⟩ := r
  exact ⟨c, us, rfl, sm_sqT g1.s h3, by rw [h4.len, hw x], setL_ok h4 (hw x) l o1 fun σ2 fp2 o2 => hs x W E σ2 B1 Z H1 fp2 o2 p1⟩
theorem b_asgTL {D : Ds ν β ρ ξ} {is : List Nat} {e : E} {s : S} {ws : α → List Vw} {m : Res α} {x0 : ξ} {k : α → Out ν β ρ ξ} (h : EvO T C Γ e (fun x => oV (vTup C (ws x))) m) (w : Wk Γ (D.x x0)) (hw : ∀ x, is.length = (ws x).length) (l : ∀ i ∈ is, i < Γ.length)
    (hs : ∀ x, Blk T cs C D (setL Γ is (ws x)) s (k x)) : Blk T cs C D Γ (.seq (.asgT is e) s) (m.to x0 k) := b_asgT h w hw l hs
/-! comprehensions over ranges -/
theorem ev_lcR1 {a t e : E} {j : Nat} {ε : γ → Ow} {c : Int → Res Bool} {f : Int → Res γ} {m : Res Int} (h : EvB T C Γ a vInt m) (hc : ∀ x, EvPs T C (((wipeΓ Γ [j]).set j (some (oV (vInt x))))) t (c x))
    (he : ∀ x, EvO T C ((wipeΓ Γ [j]).set j (some (oV (vInt x)))) e ε (f x)) : EvO T C Γ (.lc [j] (.iR1 a) t e) (oL C ε) (m >>= fun n => gd (rngB 0 n && decide (n.toNat ≤ sizeLine)) (lcR c f (rng 0 n))) := fun W σ B H Q g z => by
  show (rd T C a W).E σ H _
  refine h W σ B H _ g (rz_imp (rz_bind.mp z) (fun n z v B1 H1 g1 p1 => ?_) fun _ z => z)
  cases hg : rngB 0 n && decide (n.toNat ≤ sizeLine) with
  | false => rw [hg] at z; exact z.elim
  | true =>
    rw [hg] at z
    replace z : Rz (lcR c f (rng 0 n)) (fun x => ∀ (v : V) (B' H' : Hp), Gon B H B' H' → pO (oL C ε) x B H B' H' v → Q v H') (ExK C W σ H) := z
    unfold rngB at hg
    simp only [Bool.and_eq_true, decide_eq_true_eq] at hg
    have hn : (n - 0).toNat = n.toNat := by rw [Int.sub_zero]
    refine ⟨n, by rw [show v = .int n from p1], hg.1.1.2, hg.1.2, fun D hD => ?_⟩
    have g0 := wipe_env (g.up g1.b g1.h g1.s) [j]
    refine lc_core (α := Int) (xs := rng 0 n) (js := [j]) (σ := σ) (ε := ε) (Γ1 := fun x => (wipeΓ Γ [j]).set j (some (oV (vInt x)))) (E := ExK C W σ H) g1.s (by simp [rng, hg.2]) (fun i x hx H2 s => ?_) (fun H2 s => ?_) (fun i x hx B' H2 v H' Q2 sb s sh y q => ?_) hc he (rz_imp z (fun ys q v B' H' g2 p => q v B' H' (g1.trans g2) (Back.bk (P := pO (oL C ε)) ys B H B1 H1 B' H' v g1 p)) fun _ z => z) D hD
    · have := (rng_nth hx).1
      rw [hn] at this
      exact this
    · show n.toNat ≤ (rng 0 n).length
      simp [rng]
    · obtain ⟨rfl, rfl⟩ := y
      have e2 := (rng_nth hx).2
      subst e2
      exact q _ (by rw [wipe_set (List.mem_singleton.mpr rfl)]; exact wipe_wipe) (sm_refl _) (envC_set (w := vInt (0 + (i : Int))) (g0.up sb sh s) rfl)
/-! walks with a count, side by side, backwards -/
def enumL : Int → List α → List (Int × α)
  | _, [] => []
  | k, x :: xs => (k, x) :: enumL (k + 1) xs
theorem enumL_nth : ∀ {xs : List α} {k : Int} {i : Nat} {y : Int × α}, (enumL k xs)[i]? = some y → xs[i]? = some y.2 ∧ y.1 = k + i
  | [], _, _, _, h => by simp [enumL] at h
  | x :: xs, k, 0, y, h => by
    simp only [enumL, List.getElem?_cons_zero, Option.some.injEq] at h
    subst h
    exact ⟨rfl, by simp⟩
  | x :: xs, k, i + 1, y, h => by
    simp only [enumL, List.getElem?_cons_succ] at h ⊢
    obtain ⟨h1, h2⟩ := enumL_nth h
    exact ⟨h1, by rw [h2]; push_cast; omega⟩
theorem enumL_len : ∀ (xs : List α) (k : Int), (enumL k xs).length = xs.length
  | [], _ => rfl
  | x :: xs, k => by simp [enumL, enumL_len xs]
theorem Oks.new {σ : L2.St} {B Z H : Hp} {fp : List Addr} {p : Addr} {u : HO} (h : Oks Γ σ B Z H fp) (hp : H p = none) : Oks Γ σ B Z (upd H p u) fp := h.gon (Gon.up h.b (sm_new hp))
/-- a fresh tuple of frozen things is frozen -/
theorem Oks.frzN {σ : L2.St} {B Z H : Hp} {fp : List Addr} {p : Addr} {u : HO} (h : Oks Γ σ B Z H fp) (hp : H p = none) : Oks Γ σ B Z (upd H p u) fp := h.new hp
theorem b_forE {D : Ds ν' β ρ ξ} {Γ0 : ν → Cx0} {e : E} {j1 j2 : Nat} {b s : S} {τ : α → Vw} {f : Int × α → ν → Out ν ν ρ ξ} {k : ν → Out ν' β ρ ξ} {m : Res (List α)} {x0 : ξ} {s0 : ν} (h : EvO T C Γ e (fun xs => oV (vL C τ xs)) m) (w : Wk Γ (D.x x0)) (w0 : Wk Γ (Γ0 s0))
    (l : ∀ st, ∀ j ∈ [j1, j2], j < (Γ0 st).length) (hb : ∀ x st, Blk T cs C ({ n := Γ0, b := Γ0, t := D.t, r := D.r, x := D.x } : Ds ν ν ρ ξ) (setL (Γ0 st) [j1, j2] [vInt x.1, τ x.2]) b (f x st)) (hs : ∀ st, Blk T cs C D (Γ0 st) s (k st)) :
    Blk T cs C D Γ (.seq (.for [j1, j2] (.iEn e) b) s) (m.to x0 fun xs => (loopO f (enumL 0 xs) s0).then k) := fun W E σ B Z H fp o p => by
  show (rd T C e W).E σ H _
  refine evo_post h w o p fun xs v B1 H1 fq g1 r o1 p1 => ?_
  obtain ⟨⟨a, vs, rfl, hl, hv⟩, rfl⟩ := r
  refine ⟨a, vs, rfl, sm_sqL g1.s hl, ?_⟩
  obtain ⟨fr, o2⟩ := o1.wk w0
  refine for_core (α := Int × α) (xs := enumL 0 xs) (Γ1 := fun x st => setL (Γ0 st) [j1, j2] [vInt x.1, τ x.2]) (fun i x hx B' H g s => ?_) (fun B' H g s => ?_) (fun i x hx σ B' H fp st v H' Q g o y q => ?_) hb (post_then p1 hs) o2
  · obtain ⟨v, h1, h2⟩ := vwl_nth hv (enumL_nth hx).1
    exact ⟨vs, v, sm_sqL (gz_same g s) hl, h1⟩
  · exact ⟨vs, sm_sqL (gz_same g s) hl, by rw [enumL_len, hv.len, List.length_map]; exact Nat.le_refl _⟩
  · obtain ⟨c, u, rfl, hc, rfl, y⟩ := y
    obtain ⟨u', h1, h2⟩ := vwl_nth hv (enumL_nth hx).1
    have := y vs (sm_sqL (gz_same g o.b) hl)
    rw [h1] at this
    cases this
    have hw : VwL B' [.int (i : Nat), u] [vInt x.1, τ x.2] := .cons (by
      have := (enumL_nth hx).2
      rw [Int.zero_add] at this
      rw [this]
      rfl) (.cons ((τ x.2).mono g.b h2) .nil)
    exact ⟨c, _, rfl, .inl (.inl upd_same), rfl, setL_ok hw rfl (l st) (o.new hc) q⟩
theorem b_forZ {D : Ds ν' β ρ ξ} {Γ0 : ν → Cx0} {e e' : E} {j1 j2 : Nat} {b s : S} {τ : α → Vw} {τ' : γ → Vw} {f : α × γ → ν → Out ν ν ρ ξ} {k : ν → Out ν' β ρ ξ} {m : Res (List α)} {m' : Res (List γ)} {x0 : ξ} {s0 : ν} (h : EvO T C Γ e (fun xs => oV (vL C τ xs)) m) (h' : EvO T C Γ e' (fun xs => oV (vL C τ' xs)) m')
    (w : Wk Γ (D.x x0)) (w0 : Wk Γ (Γ0 s0)) (l : ∀ st, ∀ j ∈ [j1, j2], j < (Γ0 st).length) (hb : ∀ x st, Blk T cs C ({ n := Γ0, b := Γ0, t := D.t, r := D.r, x := D.x } : Ds ν ν ρ ξ) (setL (Γ0 st) [j1, j2] [τ x.1, τ' x.2]) b (f x st)) (hs : ∀ st, Blk T cs C D (Γ0 st) s (k st)) :
    Blk T cs C D Γ (.seq (.for [j1, j2] (.iZp e e') b) s) (m.to x0 fun xs => m'.to x0 fun ys => (loopO f (xs.zip ys) s0).then k) := fun W E σ B Z H fp o p => by
  show (rd T C e W).E σ H _
  refine evo_post h w o p fun xs v B0 H0 fq g0 r o0 p0 => ?_
  obtain ⟨⟨a, vs, rfl, hl0, hv0⟩, rfl⟩ := r
  show (rd T C e' W).E σ H0 _
  refine evo_post h' w o0 p0 fun ys v B1 H1 fq g1 r o1 p1 => ?_
  obtain ⟨⟨a', vs', rfl, hl', hv'⟩, rfl⟩ := r
  have hl := sm_sqL g1.b hl0
  have hv := hv0.mono g1.b
  refine ⟨a, a', vs, vs', rfl, sm_sqL g1.s hl, sm_sqL g1.s hl', ?_⟩
  obtain ⟨fr, o2⟩ := o1.wk w0
  have zn : ∀ {i : Nat} {x : α × γ}, (xs.zip ys)[i]? = some x → xs[i]? = some x.1 ∧ ys[i]? = some x.2 := fun {i x} hx => by
    have := List.getElem?_zip_eq_some.mp (show (xs.zip ys)[i]? = some (x.1, x.2) from hx)
    exact this
  refine for_core (α := α × γ) (xs := xs.zip ys) (Γ1 := fun x st => setL (Γ0 st) [j1, j2] [τ x.1, τ' x.2]) (fun i x hx B' H g s => ?_) (fun B' H g s => ?_) (fun i x hx σ B' H fp st v H' Q g o y q => ?_) hb (post_then p1 hs) o2
  · obtain ⟨v, h1, h2⟩ := vwl_nth hv (zn hx).1
    obtain ⟨v', h1', h2'⟩ := vwl_nth hv' (zn hx).2
    exact ⟨vs, vs', v, v', sm_sqL (gz_same g s) hl, sm_sqL (gz_same g s) hl', h1, h1'⟩
  · refine ⟨vs, vs', sm_sqL (gz_same g s) hl, sm_sqL (gz_same g s) hl', ?_⟩
    rw [hv.len, hv'.len, List.length_map, List.length_map, List.length_zip]
    omega
  · obtain ⟨c, u, u', rfl, hc, rfl, y, y'⟩ := y
    obtain ⟨w1, h1, h2⟩ := vwl_nth hv (zn hx).1
    obtain ⟨w1', h1', h2'⟩ := vwl_nth hv' (zn hx).2
    have := y vs (sm_sqL (gz_same g o.b) hl)
    rw [h1] at this
    cases this
    have := y' vs' (sm_sqL (gz_same g o.b) hl')
    rw [h1'] at this
    cases this
    have hw : VwL B' [u, u'] [τ x.1, τ' x.2] := .cons ((τ x.1).mono g.b h2) (.cons ((τ' x.2).mono g.b h2') .nil)
    exact ⟨c, _, rfl, .inl (.inl upd_same), rfl, setL_ok hw rfl (l st) (o.new hc) q⟩
theorem b_forV {D : Ds ν' β ρ ξ} {Γ0 : ν → Cx0} {e : E} {j : Nat} {b s : S} {τ : α → Vw} {f : α → ν → Out ν ν ρ ξ} {k : ν → Out ν' β ρ ξ} {m : Res (List α)} {x0 : ξ} {s0 : ν} (h : EvO T C Γ e (fun xs => oV (vL C τ xs)) m) (w : Wk Γ (D.x x0)) (w0 : Wk Γ (Γ0 s0))
    (l : ∀ st, j < (Γ0 st).length) (hb : ∀ x st, Blk T cs C ({ n := Γ0, b := Γ0, t := D.t, r := D.r, x := D.x } : Ds ν ν ρ ξ) ((Γ0 st).set j (some (oV (τ x)))) b (f x st)) (hs : ∀ st, Blk T cs C D (Γ0 st) s (k st)) :
    Blk T cs C D Γ (.seq (.for [j] (.iRv e) b) s) (m.to x0 fun xs => (loopO f xs.reverse s0).then k) := fun W E σ B Z H fp o p => by
  show (rd T C e W).E σ H _
  refine evo_post h w o p fun xs v B1 H1 fq g1 r o1 p1 => ?_
  obtain ⟨⟨a, vs, rfl, hl, hv⟩, rfl⟩ := r
  refine ⟨a, vs, rfl, sm_sqL g1.s hl, ?_⟩
  obtain ⟨fr, o2⟩ := o1.wk w0
  have le : vs.length = xs.length := by rw [hv.len, List.length_map]
  have rn : ∀ {i : Nat} {x : α}, xs.reverse[i]? = some x → i < xs.length ∧ xs[xs.length - 1 - i]? = some x := fun {i x} hx => by
    rcases Nat.lt_or_ge i xs.length with q | q
    · rw [List.getElem?_reverse q] at hx
      exact ⟨q, hx⟩
    · rw [List.getElem?_eq_none (by simpa using q)] at hx
      cases hx
  refine for_core (α := α) (xs := xs.reverse) (Γ1 := fun x st => (Γ0 st).set j (some (oV (τ x)))) (fun i x hx B' H g s => ?_) (fun B' H g s => ?_) (fun i x hx σ B' H fp st v H' Q g o y q => ?_) hb (post_then p1 hs) o2
  · obtain ⟨v, h1, h2⟩ := vwl_nth hv (rn hx).2
    exact ⟨by rw [le]; exact (rn hx).1, vs, v, sm_sqL (gz_same g s) hl, by rw [le]; exact h1⟩
  · show vs.length ≤ xs.reverse.length
    rw [List.length_reverse, le]
    exact Nat.le_refl _
  · obtain ⟨rfl, y⟩ := y
    obtain ⟨u, h1, h2⟩ := vwl_nth hv (rn hx).2
    have := y vs (sm_sqL (gz_same g o.b) hl)
    rw [le, h1] at this
    cases this
    obtain ⟨fp', o'⟩ := o.setV ((τ x).mono g.b h2) (l st)
    exact q _ _ o'
theorem op_inIT {ws : β → List Vw} {l : β → List Int} (h : ∀ y, ws y = (l y).map vInt) : Op2 (rCmp C.K .In) vInt (fun y => vTup C (ws y)) (pB vBl) fun x y => .ok (decide (x ∈ l y)) where
  no := fun _ _ => nox_ok
  run := fun x y B H v w Q s h1 h2 q => by
    obtain ⟨p, vs, rfl, h3, h4⟩ := h2
    cases h1
    rw [h] at h4
    rw [vl_ints h4] at h3
    refine .inl ⟨p, _, rfl, .inr h3, rfl, by simp [flatV], ?_⟩
    show Q (.bl (inV (.int x) ((l y).map V.int))) H
    rw [inV_ints]
    exact say_ok s q rfl
theorem op_ninIT {ws : β → List Vw} {l : β → List Int} (h : ∀ y, ws y = (l y).map vInt) : Op2 (rCmp C.K .NotIn) vInt (fun y => vTup C (ws y)) (pB vBl) fun x y => .ok (!decide (x ∈ l y)) where
  no := fun _ _ => nox_ok
  run := fun x y B H v w Q s h1 h2 q => by
    obtain ⟨p, vs, rfl, h3, h4⟩ := h2
    cases h1
    rw [h] at h4
    rw [vl_ints h4] at h3
    refine .inl ⟨p, _, rfl, .inr h3, rfl, by simp [flatV], ?_⟩
    show Q (.bl (!inV (.int x) ((l y).map V.int))) H
    rw [inV_ints]
    exact say_ok s q rfl
end
end Q
/-! Q24: while, texts walked over, signs in texts, find, int of a text. -/
namespace Q
open PySem L2 PySem.Spec
section
variable {α ν β ρ ξ : Type}
def whileO (x0 : ξ) (c : ν → Res Bool) (f : ν → Out ν ν ρ ξ) : Nat → ν → Out ν β ρ ξ
  | 0, _ => .bad
  | n + 1, s => (c s).to x0 fun b => cond b (match f s with
    | .nx s' => whileO x0 c f n s'
    | .ct s' => whileO x0 c f n s'
    | .bk s' => .nx s'
    | .rt r => .rt r
    | .exc e y => .exc e y
    | .bad => .bad) (.nx s)
end
section
variable {T : Tb} {cs : List Nat} {C : Kc} {Γ : Cx0} {α β γ δ ν ν' ρ ξ κ : Type}
theorem b_whl {D : Ds ν' β ρ ξ} {Γ0 : ν → Cx0} {t : E} {b s : S} {c : ν → Res Bool} {f : ν → Out ν ν ρ ξ} {k : ν → Out ν' β ρ ξ} {x0 : ξ} {s0 : ν} (n : Nat) (w0 : Wk Γ (Γ0 s0)) (ht : ∀ st, EvT T C (Γ0 st) t (c st)) (w : ∀ st, Wk (Γ0 st) (D.x x0))
    (hb : ∀ st, Blk T cs C ({ n := Γ0, b := Γ0, t := D.t, r := D.r, x := D.x } : Ds ν ν ρ ξ) (Γ0 st) b (f st)) (hs : ∀ st, Blk T cs C D (Γ0 st) s (k st)) :
    Blk T cs C D Γ (.seq (.whl t b) s) ((whileO x0 c f n s0).then k) := fun W E σ B Z H fp o p => by
  show tWhile (rd T C t W).T (rs T cs b C W) { E with nx := rs T cs s C W E } σ H
  obtain ⟨fr, o2⟩ := o.wk w0
  have p1 := post_then p hs
  let Wi : Nat → L2.St → Hp → Prop := fun m σ H => ∃ st B' fp, Gz B Z B' ∧ Oks (Γ0 st) σ B' Z H fp ∧ Post C ({ n := Γ0, b := D.b, t := D.t, r := D.r, x := D.x } : Ds ν β ρ ξ) (whileO x0 c f m st) W { E with nx := rs T cs s C W E } B' Z
  refine ⟨Wi, ⟨n, s0, B, fr, Gz.refl _ _, o2, p1⟩, fun m σ H ⟨st, B', fp, g, o, p⟩ => ?_⟩
  cases m with
  | zero => exact p.elim
  | succ m =>
    refine evt_post (D := ({ n := Γ0, b := D.b, t := D.t, r := D.r, x := D.x } : Ds ν β ρ ξ)) (ht st) (w st) o p fun q B1 H1 g1 o1 p1 => ?_
    cases q with
    | false => exact p1 σ B1 H1 fp (Gz.refl _ _) o1
    | true =>
      refine ⟨Wi m, fun σ' H' w => ⟨m, Nat.lt_succ_self m, w⟩, ?_⟩
      refine hb st W _ σ B1 Z H1 fp o1 ?_
      have gg := g.trans (g1.gz o.z)
      replace p1 : Post C ({ n := Γ0, b := D.b, t := D.t, r := D.r, x := D.x } : Ds ν β ρ ξ) (match f st with
        | .nx s' => whileO x0 c f m s'
        | .ct s' => whileO x0 c f m s'
        | .bk s' => .nx s'
        | .rt r => .rt r
        | .exc e y => .exc e y
        | .bad => .bad) W { E with nx := rs T cs s C W E } B1 Z := p1
      cases q : f st with
      | nx s' =>
        rw [q] at p1
        exact fun σ3 B3 H3 fp3 g3 o3 => ⟨s', B3, fp3, gg.trans g3, o3, p1.up g3⟩
      | ct s' =>
        rw [q] at p1
        exact fun σ3 B3 H3 fp3 g3 o3 => ⟨s', B3, fp3, gg.trans g3, o3, p1.up g3⟩
      | bk s' => rw [q] at p1; exact p1
      | rt r => rw [q] at p1; exact p1
      | exc e y => rw [q] at p1; exact p1
      | bad => rw [q] at p1; exact p1
/-- a text's signs -/
def signs (x : Str) : List Str := x.cps.toList.map fun c => (⟨#[c]⟩ : Str)
theorem b_forS {D : Ds ν' β ρ ξ} {Γ0 : ν → Cx0} {e : E} {j : Nat} {b s : S} {f : Str → ν → Out ν ν ρ ξ} {k : ν → Out ν' β ρ ξ} {m : Res Str} {x0 : ξ} {s0 : ν} (h : EvB T C Γ e vStr m) (w : Wk Γ (D.x x0)) (w0 : Wk Γ (Γ0 s0))
    (l : ∀ st, j < (Γ0 st).length) (hb : ∀ x st, Blk T cs C ({ n := Γ0, b := Γ0, t := D.t, r := D.r, x := D.x } : Ds ν ν ρ ξ) ((Γ0 st).set j (some (oV (vStr x)))) b (f x st)) (hs : ∀ st, Blk T cs C D (Γ0 st) s (k st)) :
    Blk T cs C D Γ (.seq (.for [j] (.iSt e) b) s) (m.to x0 fun z => (loopO f (signs z) s0).then k) := fun W E σ B Z H fp o p => by
  show (rd T C e W).E σ H _
  refine evo_post (ev_flat h) w o p fun z v B1 H1 fq g1 r o1 p1 => ?_
  obtain ⟨rfl, rfl⟩ := r
  refine ⟨z, rfl, ?_⟩
  obtain ⟨fr, o2⟩ := o1.wk w0
  have sn : ∀ {i : Nat} {x : Str}, (signs z)[i]? = some x → ∃ c, z.cps[i]? = some c ∧ x = ⟨#[c]⟩ := fun {i x} hx => by
    unfold signs at hx
    rw [List.getElem?_map, Array.getElem?_toList] at hx
    cases q : z.cps[i]? with
    | none => rw [q] at hx; cases hx
    | some c => rw [q] at hx; cases hx; exact ⟨c, rfl, rfl⟩
  refine for_core (α := Str) (xs := signs z) (Γ1 := fun x st => (Γ0 st).set j (some (oV (vStr x)))) (fun i x hx B' H g s => ?_) (fun B' H g s => ?_) (fun i x hx σ B' H fp st v H' Q g o y q => ?_) hb (post_then p1 hs) o2
  · obtain ⟨c, h1, _⟩ := sn hx
    show i < z.cps.size
    rcases Nat.lt_or_ge i z.cps.size with q | q
    · exact q
    · rw [Array.getElem?_eq_none q] at h1; cases h1
  · show z.cps.size ≤ (signs z).length
    simp [signs]
  · obtain ⟨rfl, c, hc, rfl⟩ := y
    obtain ⟨c', h1, rfl⟩ := sn hx
    rw [hc] at h1
    cases h1
    obtain ⟨fp', o'⟩ := o.setV (w := vStr ⟨#[c]⟩) (v := .str ⟨#[c]⟩) rfl (l st)
    exact q _ _ o'
/-- a sign in a text -/
def chIn (x z : Str) : Res Bool := getR (match x.cps.toList with
  | [c] => some (decide (c ∈ z.cps.toList))
  | _ => none)
def chNin (x z : Str) : Res Bool := getR (match x.cps.toList with
  | [c] => some (!decide (c ∈ z.cps.toList))
  | _ => none)
theorem str_one {x : Str} {c : Nat} (h : x.cps.toList = [c]) : x = ⟨#[c]⟩ := by
  cases x with
  | mk a =>
    cases a with
    | mk l =>
      simp only at h
      subst h
      rfl
theorem op_inC : Op2 (rCmp C.K .In) vStr vStr (pB vBl) chIn where
  no := fun _ _ => nox_get
  run := fun x y B H v w Q s h1 h2 q => by
    obtain ⟨b, e, q⟩ := say_get q
    cases h1
    cases h2
    split at e
    · rename_i c hc
      cases e
      exact .inr (.inr (.inr ⟨c, y, by rw [str_one hc], rfl, say_ok s q rfl⟩))
    · cases e
theorem op_ninC : Op2 (rCmp C.K .NotIn) vStr vStr (pB vBl) chNin where
  no := fun _ _ => nox_get
  run := fun x y B H v w Q s h1 h2 q => by
    obtain ⟨b, e, q⟩ := say_get q
    cases h1
    cases h2
    split at e
    · rename_i c hc
      cases e
      exact .inr (.inr (.inr ⟨c, y, by rw [str_one hc], rfl, say_ok s q rfl⟩))
    · cases e
theorem bl_intS : Op1 (fun v H Q => rBlt C.K .int [v] H Q) vStr (pB vInt) fun a => gd (decide (a.length ≤ 640)) (getR (PySem.intText? a)) where
  no := fun _ => nox_gd nox_get
  run := fun x B H v Q s h q => by
    obtain ⟨q1, q2⟩ := say_gd q
    obtain ⟨n, e, q⟩ := say_get q2
    exact .inr ⟨x, n, by rw [show v = .str x from h], e, of_decide_eq_true q1, say_ok s q rfl⟩
theorem bm_find : Op2 (fun v w H Q => rBm C.K .sFind v [w] H Q) vStr vStr (pB vInt) fun a b => .ok (Txt.find a b) where
  no := fun _ _ => nox_ok
  run := fun x y B H v w Q s h1 h2 q => ⟨x, y, h1, by rw [show w = .str y from h2], say_ok s q rfl⟩
theorem bm_count : Op2 (fun v w H Q => rBm C.K .sCnt v [w] H Q) vStr vStr (pB vInt) fun a b => .ok (Txt.count a b) where
  no := fun _ _ => nox_ok
  run := fun x y B H v w Q s h1 h2 q => ⟨x, y, h1, by rw [show w = .str y from h2], say_ok s q rfl⟩
theorem ty_str {τ : Str → Vw} (h : τ = vStr) : ∀ x H v, (τ x).rel H v → tyV C.K "str" v H := fun x H v q => by
  subst h
  cases q
  rfl
end
end Q
/-! Q25 (printed by gen25.py): the rules where an operand is pure. -/
namespace Q
open PySem L2 PySem.Spec
section
variable {T : Tb} {cs : List Nat} {C : Kc} {Γ : Cx0} {α β γ δ ν ν' ρ ξ κ κ' : Type}
theorem ev_binP {a b : E} {o : Operator} {τ : α → Vw} {τ' : β → Vw} {P : PR γ} [Back P] {op : α → β → Res γ} {x : α} {y : β} (ha : EvB T C Γ a τ (.ok x)) (hb : EvB T C Γ b τ' (.ok y)) (ho : Op2 (rBin C.K o) τ τ' P op) : Ev T C P Γ (.bin o a b) (op x y) := ev_bin ha hb ho
theorem ev_binL {a b : E} {o : Operator} {τ : α → Vw} {τ' : β → Vw} {P : PR γ} [Back P] {op : α → β → Res γ} {x : α} {mb : Res β} (ha : EvB T C Γ a τ (.ok x)) (hb : EvB T C Γ b τ' mb) (ho : Op2 (rBin C.K o) τ τ' P op) : Ev T C P Γ (.bin o a b) (mb >>= fun y => op x y) := ev_bin ha hb ho
theorem ev_binR {a b : E} {o : Operator} {τ : α → Vw} {τ' : β → Vw} {P : PR γ} [Back P] {op : α → β → Res γ} {ma : Res α} {y : β} (ha : EvB T C Γ a τ ma) (hb : EvB T C Γ b τ' (.ok y)) (ho : Op2 (rBin C.K o) τ τ' P op) : Ev T C P Γ (.bin o a b) (ma >>= fun x => op x y) := ev_bin ha hb ho
theorem ev_cmpP {a b : E} {o : CmpOp} {τ : α → Vw} {τ' : β → Vw} {P : PR γ} [Back P] {op : α → β → Res γ} {x : α} {y : β} (ha : EvB T C Γ a τ (.ok x)) (hb : EvB T C Γ b τ' (.ok y)) (ho : Op2 (rCmp C.K o) τ τ' P op) : Ev T C P Γ (.cmp o a b) (op x y) := ev_cmp ha hb ho
theorem ev_cmpL {a b : E} {o : CmpOp} {τ : α → Vw} {τ' : β → Vw} {P : PR γ} [Back P] {op : α → β → Res γ} {x : α} {mb : Res β} (ha : EvB T C Γ a τ (.ok x)) (hb : EvB T C Γ b τ' mb) (ho : Op2 (rCmp C.K o) τ τ' P op) : Ev T C P Γ (.cmp o a b) (mb >>= fun y => op x y) := ev_cmp ha hb ho
theorem ev_cmpR {a b : E} {o : CmpOp} {τ : α → Vw} {τ' : β → Vw} {P : PR γ} [Back P] {op : α → β → Res γ} {ma : Res α} {y : β} (ha : EvB T C Γ a τ ma) (hb : EvB T C Γ b τ' (.ok y)) (ho : Op2 (rCmp C.K o) τ τ' P op) : Ev T C P Γ (.cmp o a b) (ma >>= fun x => op x y) := ev_cmp ha hb ho
theorem ev_ixP {a b : E} {τ : α → Vw} {τ' : β → Vw} {P : PR γ} [Back P] {op : α → β → Res γ} {x : α} {y : β} (ha : EvB T C Γ a τ (.ok x)) (hb : EvB T C Γ b τ' (.ok y)) (ho : Op2 (rIxA C.K) τ τ' P op) : Ev T C P Γ (.ix a b) (op x y) := ev_ix ha hb ho
theorem ev_ixL {a b : E} {τ : α → Vw} {τ' : β → Vw} {P : PR γ} [Back P] {op : α → β → Res γ} {x : α} {mb : Res β} (ha : EvB T C Γ a τ (.ok x)) (hb : EvB T C Γ b τ' mb) (ho : Op2 (rIxA C.K) τ τ' P op) : Ev T C P Γ (.ix a b) (mb >>= fun y => op x y) := ev_ix ha hb ho
theorem ev_ixR {a b : E} {τ : α → Vw} {τ' : β → Vw} {P : PR γ} [Back P] {op : α → β → Res γ} {ma : Res α} {y : β} (ha : EvB T C Γ a τ ma) (hb : EvB T C Γ b τ' (.ok y)) (ho : Op2 (rIxA C.K) τ τ' P op) : Ev T C P Γ (.ix a b) (ma >>= fun x => op x y) := ev_ix ha hb ho
theorem ev_blt2P {a b : E} {f : Blt} {τ : α → Vw} {τ' : β → Vw} {P : PR γ} [Back P] {op : α → β → Res γ} {x : α} {y : β} (ha : EvB T C Γ a τ (.ok x)) (hb : EvB T C Γ b τ' (.ok y)) (ho : Op2 (fun v w H Q => rBlt C.K f [v, w] H Q) τ τ' P op) : Ev T C P Γ (.blt f (.cons a (.cons b .nil))) (op x y) := ev_blt2 ha hb ho
theorem ev_blt2L {a b : E} {f : Blt} {τ : α → Vw} {τ' : β → Vw} {P : PR γ} [Back P] {op : α → β → Res γ} {x : α} {mb : Res β} (ha : EvB T C Γ a τ (.ok x)) (hb : EvB T C Γ b τ' mb) (ho : Op2 (fun v w H Q => rBlt C.K f [v, w] H Q) τ τ' P op) : Ev T C P Γ (.blt f (.cons a (.cons b .nil))) (mb >>= fun y => op x y) := ev_blt2 ha hb ho
theorem ev_blt2R {a b : E} {f : Blt} {τ : α → Vw} {τ' : β → Vw} {P : PR γ} [Back P] {op : α → β → Res γ} {ma : Res α} {y : β} (ha : EvB T C Γ a τ ma) (hb : EvB T C Γ b τ' (.ok y)) (ho : Op2 (fun v w H Q => rBlt C.K f [v, w] H Q) τ τ' P op) : Ev T C P Γ (.blt f (.cons a (.cons b .nil))) (ma >>= fun x => op x y) := ev_blt2 ha hb ho
theorem ev_bm1P {a b : E} {f : Bm} {τ : α → Vw} {τ' : β → Vw} {P : PR γ} [Back P] {op : α → β → Res γ} {x : α} {y : β} (ha : EvB T C Γ a τ (.ok x)) (hb : EvB T C Γ b τ' (.ok y)) (hty : ∀ x H v, (τ x).rel H v → tyV C.K (bmT f) v H) (ho : Op2 (fun v w H Q => rBm C.K f v [w] H Q) τ τ' P op) : Ev T C P Γ (.bm f a (.cons b .nil)) (op x y) := ev_bm1 ha hb hty ho
theorem ev_bm1L {a b : E} {f : Bm} {τ : α → Vw} {τ' : β → Vw} {P : PR γ} [Back P] {op : α → β → Res γ} {x : α} {mb : Res β} (ha : EvB T C Γ a τ (.ok x)) (hb : EvB T C Γ b τ' mb) (hty : ∀ x H v, (τ x).rel H v → tyV C.K (bmT f) v H) (ho : Op2 (fun v w H Q => rBm C.K f v [w] H Q) τ τ' P op) : Ev T C P Γ (.bm f a (.cons b .nil)) (mb >>= fun y => op x y) := ev_bm1 ha hb hty ho
theorem ev_bm1R {a b : E} {f : Bm} {τ : α → Vw} {τ' : β → Vw} {P : PR γ} [Back P] {op : α → β → Res γ} {ma : Res α} {y : β} (ha : EvB T C Γ a τ ma) (hb : EvB T C Γ b τ' (.ok y)) (hty : ∀ x H v, (τ x).rel H v → tyV C.K (bmT f) v H) (ho : Op2 (fun v w H Q => rBm C.K f v [w] H Q) τ τ' P op) : Ev T C P Γ (.bm f a (.cons b .nil)) (ma >>= fun x => op x y) := ev_bm1 ha hb hty ho
theorem ev_blt1P {a : E} {f : Blt} {τ : α → Vw} {P : PR γ} [Back P] {op : α → Res γ} {x : α} (ha : EvB T C Γ a τ (.ok x)) (ho : Op1 (fun v H Q => rBlt C.K f [v] H Q) τ P op) : Ev T C P Γ (.blt f (.cons a .nil)) (op x) := ev_blt1 ha ho
theorem ev_negP {a : E} {x : Int} (h : EvB T C Γ a vInt (.ok x)) : EvB T C Γ (.neg a) vInt (.ok (-x)) := ev_neg h
theorem ev_notBP {a : E} {b : Bool} (h : EvB T C Γ a vBl (.ok b)) : EvB T C Γ (.nt a) vBl (.ok (!b)) := ev_notB h
theorem ev_notTP {a : E} {b : Bool} (h : EvT T C Γ a (.ok b)) : EvT T C Γ (.nt a) (.ok (!b)) := ev_notT h
theorem ev_someP {τ : α → Vw} {e : E} {x : α} (h : EvB T C Γ e τ (.ok x)) : EvB T C Γ e (vOpt τ) (.ok (some x)) := ev_some h
theorem ev_getP {τ : α → Vw} {e : E} {x : Option α} (h : EvB T C Γ e (vOpt τ) (.ok x)) : EvB T C Γ e τ (getR x) := ev_get h
theorem ev_pickP {ws : α → List Vw} {τ : γ → Vw} {f : α → γ} {n : Nat} {a : E} {x : α} (h : EvB T C Γ a (fun x => vTup C (ws x)) (.ok x)) (hn : ∀ x, (ws x)[n]? = some (τ (f x))) : EvB T C Γ (.ix a (.int n)) τ (.ok (f x)) := ev_pick h hn
theorem ev_pickFP {ws : α → List Vw} {τ : γ → Vw} {f : α → γ} {n : Nat} {a : E} {x : α} (h : EvO T C Γ a (fun x => oV (vTup C (ws x))) (.ok x)) (hn : ∀ x, (ws x)[n]? = some (τ (f x))) : EvO T C Γ (.ix a (.int n)) (fun y => oV (τ y)) (.ok (f x)) := ev_pickF h hn
theorem ev_isiTP {a : E} {t n : String} {τ : α → Vw} [i : Ity C τ n] {b : Bool} {x : α} (h : EvB T C Γ a τ (.ok x)) (hn : n ∈ ["NoneType", "bool", "int", "str", "tuple", "list", "dict"]) (ht : t ∈ tysOk) (hb : isiS n t = b) : EvB T C Γ (.isi a t) vBl (.ok b) := ev_isiT h hn ht hb
theorem ev_ixFP {a b : E} {τ : α → Vw} {xs : List α} {i : Int} (ha : EvO T C Γ a (fun xs => oV (vL C τ xs)) (.ok xs)) (hb : EvB T C Γ b vInt (.ok i)) : EvO T C Γ (.ix a b) (fun x => oV (τ x)) (ixR xs i) := ev_ixF ha hb
theorem ev_ixFL {a b : E} {τ : α → Vw} {xs : List α} {mb : Res Int} (ha : EvO T C Γ a (fun xs => oV (vL C τ xs)) (.ok xs)) (hb : EvB T C Γ b vInt mb) : EvO T C Γ (.ix a b) (fun x => oV (τ x)) (mb >>= fun i => ixR xs i) := ev_ixF ha hb
theorem ev_ixFR {a b : E} {τ : α → Vw} {ma : Res (List α)} {i : Int} (ha : EvO T C Γ a (fun xs => oV (vL C τ xs)) ma) (hb : EvB T C Γ b vInt (.ok i)) : EvO T C Γ (.ix a b) (fun x => oV (τ x)) (ma >>= fun xs => ixR xs i) := ev_ixF ha hb
theorem elv_consP {e es : E} {τ : α → Vw} {ws : κ → List Vw} {f : α × κ → Res γ} {x : α} {n : Res γ} (h : EvB T C Γ e τ (.ok x)) (r : EvLV T C Γ es ws (fun k => f (x, k)) n) : EvLV T C Γ (.cons e es) (fun k => τ k.1 :: ws k.2) f n := fun W σ B H P Q g z q => by
  show (rd T C e W).E σ H _
  refine h W σ B H _ g (fun v B1 H1 g1 p1 => ?_)
  refine r W σ B1 H1 P _ (g.up g1.b g1.h g1.s) (rz_imp z (fun _ z => z) fun _ z => z.up g1.h) fun k vs B2 H2 g2 p2 z2 => ?_
  exact q (x, k) (v :: vs) B2 H2 (g1.trans g2) (.cons ((τ x).mono g2.h p1) p2) z2
theorem elo_consP {e es : E} {τ : α → Ow} {os : κ → List Ow} {f : α × κ → Res γ} {x : α} {n : Res γ} (h : EvO T C Γ e τ (.ok x)) (r : EvLO T C Γ es os (fun k => f (x, k)) n) : EvLO T C Γ (.cons e es) (fun k => τ k.1 :: os k.2) f n := fun W σ B H P Q g z q => by
  show (rd T C e W).E σ H _
  refine h W σ B H _ g (fun v B1 H1 g1 ⟨fp, p1, n1, f1⟩ => ?_)
  refine r W σ B1 H1 P _ (g.up g1.b g1.h g1.s) (rz_imp z (fun _ z => z) fun _ z => z.up g1.h) fun k vs B2 H2 fq g2 p2 n2 f2 z2 => ?_
  have al := (τ x).al p1
  refine q (x, k) (v :: vs) B2 H2 (fp ++ fq) (g1.trans g2) ⟨fp, fq, rfl, ow_up p1 g2.b g2.h, p2⟩ (List.nodup_append.mpr ⟨n1, n2, fun a ha b hb e => ?_⟩) (fun a ha => ?_) z2
  · subst e
    have := al a ha
    rw [(f2 a hb).1] at this; cases this
  · rcases List.mem_append.mp ha with ha | ha
    · exact ⟨(f1 a ha).1, newB_none g2.n (f1 a ha).2 (al a ha) ((τ x).nt p1 a ha)⟩
    · exact ⟨none_back g1.h (f2 a ha).1, (f2 a ha).2⟩
theorem ev_lcP {it t e : E} {j : Nat} {τ : α → Vw} {ε : γ → Ow} {c : α → Res Bool} {f : α → Res γ} {xs : List α} (h : EvO T C Γ it (fun xs => oV (vL C τ xs)) (.ok xs)) (hc : ∀ x, EvPs T C (((wipeΓ Γ [j]).set j (some (oV (τ x))))) t (c x))
    (he : ∀ x, EvO T C ((wipeΓ Γ [j]).set j (some (oV (τ x)))) e ε (f x)) : EvO T C Γ (.lc [j] (.iL it) t e) (oL C ε) (gd (decide (xs.length ≤ sizeLine)) (lcR c f xs)) := ev_lc h hc he
theorem ev_lcR1P {a t e : E} {j : Nat} {ε : γ → Ow} {c : Int → Res Bool} {f : Int → Res γ} {n : Int} (h : EvB T C Γ a vInt (.ok n)) (hc : ∀ x, EvPs T C (((wipeΓ Γ [j]).set j (some (oV (vInt x))))) t (c x))
    (he : ∀ x, EvO T C ((wipeΓ Γ [j]).set j (some (oV (vInt x)))) e ε (f x)) : EvO T C Γ (.lc [j] (.iR1 a) t e) (oL C ε) (gd (rngB 0 n && decide (n.toNat ≤ sizeLine)) (lcR c f (rng 0 n))) := ev_lcR1 h hc he
/-- slices of texts, the parts' worths as they come -/
theorem ev_slSP {a lo hi : E} {x : Str} {i j : Option Int} (ha : EvB T C Γ a vStr (.ok x)) (hl : EvOp T C Γ lo (.ok i)) (hh : EvOp T C Γ hi (.ok j)) : EvB T C Γ (.sl a lo hi) vStr (gd (decide (x.length ≤ sizeLine)) (.ok (cutS x i j))) := ev_slS ha hl hh
theorem eo_someP {e : E} {i : Int} (h : EvB T C Γ e vInt (.ok i)) : EvOp T C Γ (.cons e .nil) (.ok (some i)) := eo_some h
end
end Q
/-! Q26: list(reversed(xs)). -/
namespace Q
open PySem L2 PySem.Spec
section
variable {T : Tb} {C : Kc} {Γ : Cx0} {α : Type}
theorem vwl_rev {H : Hp} {vs : List V} {xs : List α} {τ : α → Vw} (h : VwL H vs (xs.map τ)) : VwL H vs.reverse (xs.reverse.map τ) := by
  induction xs generalizing vs with
  | nil => cases h; exact .nil
  | cons x xs ih =>
    cases h with
    | cons a l =>
      rw [List.reverse_cons, List.reverse_cons, List.map_append]
      exact vwl_append (ih l) (.cons a .nil)
theorem ev_lrev {a : E} {τ : α → Vw} {ma : Res (List α)} (ha : EvO T C Γ a (fun xs => oV (vL C τ xs)) ma) : EvO T C Γ (.lrev a) (oL C fun x => oV (τ x)) (ma >>= fun xs => .ok xs.reverse) := fun W σ B H Q g z => by
  show (rd T C a W).E σ H _
  refine ha W σ B H _ g (rz_imp (rz_bind.mp z) (fun xs z v B1 H1 g1 ⟨fp, ⟨⟨p, vs, hv, h2, h3⟩, _⟩, _, _⟩ => ?_) fun _ z => z)
  refine ⟨p, vs, hv, sm_sqL g1.s h2, fun q hq => ?_⟩
  have ho := owl_oV (B := B1) (H := H1) (vwl_rev h3)
  rw [List.map_map] at ho
  obtain ⟨k1, k2, k3, k4⟩ := new_ls (C := C) g1.s hq ho
  exact z (.ref q) B1 _ (g1.trans k1) ⟨[q], k2, k3, fun b hb => ⟨none_back g1.h (k4 b hb).1, (k4 b hb).2⟩⟩
theorem ev_lrevP {a : E} {τ : α → Vw} {xs : List α} (ha : EvO T C Γ a (fun xs => oV (vL C τ xs)) (.ok xs)) : EvO T C Γ (.lrev a) (oL C fun x => oV (τ x)) (.ok xs.reverse) := ev_lrev ha
end
end Q
/-! Q27: lemmas to reckon with the printed functions. -/
namespace Q
open PySem L2 PySem.Spec
section
variable {α β γ ν ν' ρ ξ η : Type}
theorem gd_t {b : Bool} {m : Res α} (h : b = true) : gd b m = m := by subst h; rfl
theorem gdO_t {b : Bool} {m : Out ν β ρ ξ} (h : b = true) : gdO b m = m := by subst h; rfl
theorem mulB_of {i j : Int} (a b : Nat) (hi : i.natAbs < 2 ^ a) (hj : j.natAbs < 2 ^ b) (h : a + b ≤ 134217728) : mulB i j = true := by
  have h1 : Builtin.Int.intBits i ≤ a := PyProof.Rows.intBits_le hi
  have h2 : Builtin.Int.intBits j ≤ b := PyProof.Rows.intBits_le hj
  unfold mulB
  exact decide_eq_true (by omega)
theorem mulB_big {i j : Int} (b : Nat) (hi : Builtin.Int.intBits i ≤ 2000000) (hj : j.natAbs < 2 ^ b) (h : b ≤ 1000000) : mulB i j = true := by
  have h2 : Builtin.Int.intBits j ≤ b := PyProof.Rows.intBits_le hj
  unfold mulB
  exact decide_eq_true (by omega)
theorem divOk_of {j : Int} (h : j ≠ 0) (b : Nat) (hj : j.natAbs < 2 ^ b) (hb : b ≤ 9000) : divOk j = true := by
  unfold divOk
  rw [decide_eq_true h, decide_eq_true, Bool.and_self]
  have h1 : j.natAbs ≠ 0 := by omega
  have := (Nat.log2_lt h1).mpr hj
  omega
theorem nz_of {j : Int} (h : j ≠ 0) : (!decide (j = 0)) = true := by simp [h]
theorem rngB_of {i j : Int} (h1 : -(2 ^ 62) ≤ i) (h2 : i < 2 ^ 62) (h3 : -(2 ^ 62) ≤ j) (h4 : j < 2 ^ 62) : rngB i j = true := by
  unfold rngB
  rw [decide_eq_true h1, decide_eq_true h2, decide_eq_true h3, decide_eq_true h4]; rfl
theorem rng_mem {lo hi x : Int} (h : x ∈ rng lo hi) : lo ≤ x ∧ x < hi := by
  unfold rng at h
  obtain ⟨i, h1, h2⟩ := List.mem_map.mp h
  have := List.mem_range.mp h1
  omega
theorem rng_len (lo hi : Int) : (rng lo hi).length = (hi - lo).toNat := by simp [rng]
theorem loopO_nil (f : α → ν → Out ν ν ρ ξ) (s : ν) : loopO (β := β) f [] s = .nx s := rfl
theorem loopO_nx {f : α → ν → Out ν ν ρ ξ} {x : α} {xs : List α} {s s' : ν} (h : f x s = .nx s') : loopO (β := β) f (x :: xs) s = loopO f xs s' := by simp only [loopO, h]
theorem loopO_ct {f : α → ν → Out ν ν ρ ξ} {x : α} {xs : List α} {s s' : ν} (h : f x s = .ct s') : loopO (β := β) f (x :: xs) s = loopO f xs s' := by simp only [loopO, h]
theorem loopO_rt {f : α → ν → Out ν ν ρ ξ} {x : α} {xs : List α} {s : ν} {r : ρ} (h : f x s = .rt r) : loopO (β := β) f (x :: xs) s = .rt r := by simp only [loopO, h]
theorem loopO_bk {f : α → ν → Out ν ν ρ ξ} {x : α} {xs : List α} {s s' : ν} (h : f x s = .bk s') : loopO (β := β) f (x :: xs) s = .nx s' := by simp only [loopO, h]
theorem loopO_exc {f : α → ν → Out ν ν ρ ξ} {x : α} {xs : List α} {s : ν} {e : Ex} {y : ξ} (h : f x s = .exc e y) : loopO (β := β) f (x :: xs) s = .exc e y := by simp only [loopO, h]
/-- a loop that always goes on, with an invariant that counts -/
theorem loopO_inv {f : α → ν → Out ν ν ρ ξ} (I : Nat → ν → Prop) : ∀ (xs : List α) (k : Nat) (s : ν), I k s → (∀ x ∈ xs, ∀ j s, I j s → ∃ s', f x s = .nx s' ∧ I (j + 1) s') → ∃ s', loopO (β := β) f xs s = .nx s' ∧ I (k + xs.length) s'
  | [], k, s, h, _ => ⟨s, rfl, h⟩
  | x :: xs, k, s, h, g => by
    obtain ⟨s1, h1, h2⟩ := g x List.mem_cons_self k s h
    obtain ⟨s2, h3, h4⟩ := loopO_inv I xs (k + 1) s1 h2 fun y hy => g y (List.mem_cons_of_mem _ hy)
    exact ⟨s2, by rw [loopO_nx h1, h3], by rw [List.length_cons, show k + (xs.length + 1) = k + 1 + xs.length by omega]; exact h4⟩
/-- a loop as a fold -/
theorem loopO_fold {f : α → ν → Out ν ν ρ ξ} (g : ν → α → ν) : ∀ (xs : List α) (s : ν), (∀ x ∈ xs, ∀ s, f x s = .nx (g s x)) → loopO (β := β) f xs s = .nx (xs.foldl g s)
  | [], s, _ => rfl
  | x :: xs, s, h => by rw [loopO_nx (h x List.mem_cons_self s), loopO_fold g xs _ fun y hy => h y (List.mem_cons_of_mem _ hy)]; rfl
theorem shaped_str {x : Str} (h : PyData.strOk x = true) : SeqAt.shaped (.str x) = true := by
  show (PyData.strOk x && decide (0 ≤ 64)) = true
  rw [h]; rfl
theorem eqR_of {d e : PyData} (h1 : SeqAt.shaped d = true) (h2 : SeqAt.shaped e = true) : eqR d e = .ok (PyData.eqv d e) := by
  unfold eqR
  rw [h1, h2]; rfl
theorem neR_of {d e : PyData} (h1 : SeqAt.shaped d = true) (h2 : SeqAt.shaped e = true) : neR d e = .ok (!PyData.eqv d e) := by
  unfold neR
  rw [h1, h2]; rfl
theorem eqR_str {x y : Str} (hx : PyData.strOk x = true) (hy : PyData.strOk y = true) : eqR (.str x) (.str y) = .ok (decide (x = y)) := by
  rw [eqR_of (shaped_str hx) (shaped_str hy)]
  show Res.ok (x == y) = _
  by_cases h : x = y <;> simp [h]
theorem neR_str {x y : Str} (hx : PyData.strOk x = true) (hy : PyData.strOk y = true) : neR (.str x) (.str y) = .ok (!decide (x = y)) := by
  rw [neR_of (shaped_str hx) (shaped_str hy)]
  show Res.ok (!(x == y)) = _
  by_cases h : x = y <;> simp [h]
theorem ixR_ok {xs : List α} {i : Nat} {x : α} (h : xs[i]? = some x) : ixR xs (i : Int) = .ok x := by
  unfold ixR
  rw [show atI xs (i : Int) = some x from ?_]; rfl
  unfold atI ixN
  have hl : i < xs.length := by
    rcases Nat.lt_or_ge i xs.length with q | q
    · exact q
    · rw [List.getElem?_eq_none q] at h; cases h
  rw [if_pos (by omega), if_pos (by omega)]
  exact h
theorem ixR_int {xs : List α} {i : Int} {x : α} (h0 : 0 ≤ i) (h : xs[i.toNat]? = some x) : ixR xs i = .ok x := by
  have := ixR_ok h
  rw [show ((i.toNat : Nat) : Int) = i by omega] at this
  exact this
end
/-! texts by their codes -/
abbrev tS (l : List Nat) : Str := ⟨l.toArray⟩
theorem tS_tl (x : Str) : tS x.cps.toList = x := by cases x with | mk a => cases a; rfl
theorem tS_of (x : Str) : ∃ l, x = tS l := ⟨_, (tS_tl x).symm⟩
theorem tS_codes (l : List Nat) : (tS l).cps.toList = l := rfl
theorem tS_inj {a b : List Nat} : tS a = tS b ↔ a = b := ⟨fun h => congrArg (fun x : Str => x.cps.toList) h, fun h => by rw [h]⟩
theorem tS_len (a : List Nat) : (tS a).length = a.length := by simp [Str.length]
theorem tS_cat (a b : List Nat) : tS a ++ tS b = tS (a ++ b) := TL.ext_tl (TL.tl_append (tS a) (tS b))
theorem cat_len (x y : Str) : (x ++ y).length = x.length + y.length := by
  obtain ⟨a, rfl⟩ := tS_of x
  obtain ⟨b, rfl⟩ := tS_of y
  rw [tS_cat, tS_len, tS_len, tS_len, List.length_append]
theorem strAt_ok {x : Str} {i : Nat} {c : Nat} (hl : x.length ≤ 16777216) (h : x.cps.toList[i]? = some c) : strAt x (i : Int) = .ok (tS [c]) := by
  unfold strAt
  rw [gd_t (decide_eq_true (by unfold sizeLine; exact hl))]
  rw [show atI x.cps.toList (i : Int) = some c from ?_]; rfl
  unfold atI ixN
  have hl : i < x.cps.toList.length := by
    rcases Nat.lt_or_ge i x.cps.toList.length with q | q
    · exact q
    · rw [List.getElem?_eq_none q] at h; cases h
  rw [if_pos (by omega), if_pos (by omega)]
  exact h
theorem strAt_int {x : Str} {i : Int} (hl : x.length ≤ 16777216) (h0 : 0 ≤ i) (h : i < x.length) : ∃ c, x.cps.toList[i.toNat]? = some c ∧ strAt x i = .ok (tS [c]) := by
  have hh : i.toNat < x.cps.toList.length := by
    rw [show x.cps.toList.length = x.length from Array.length_toList]; omega
  refine ⟨_, List.getElem?_eq_getElem hh, ?_⟩
  have := strAt_ok hl (List.getElem?_eq_getElem hh)
  rw [show ((i.toNat : Nat) : Int) = i by omega] at this
  exact this
/-- a short plain text -/
def tOk (n : Nat) (x : Str) : Prop := x.length ≤ n ∧ ∀ c ∈ x.cps.toList, c < 128
theorem tOk.ok {n : Nat} {x : Str} (h : tOk n x) : PyData.strOk x = true := by
  show x.cps.all (· < 0x110000) = true
  rw [← Array.all_toList, List.all_eq_true]
  intro c hc
  have := h.2 c hc
  exact decide_eq_true (by omega)
theorem tOk.le {n m : Nat} {x : Str} (h : tOk n x) (l : n ≤ m) : tOk m x := ⟨Nat.le_trans h.1 l, h.2⟩
theorem tOk.cat {n m : Nat} {x y : Str} (h : tOk n x) (k : tOk m y) : tOk (n + m) (x ++ y) := by
  obtain ⟨a, rfl⟩ := tS_of x
  obtain ⟨b, rfl⟩ := tS_of y
  refine ⟨by rw [cat_len]; exact Nat.add_le_add h.1 k.1, fun c hc => ?_⟩
  rw [tS_cat, tS_codes] at hc
  exact (List.mem_append.mp hc).elim (h.2 c) (k.2 c)
theorem tOk.one {c : Nat} (h : c < 128) : tOk 1 (tS [c]) := ⟨Nat.le_refl 1, fun d hd => by rw [List.mem_singleton.mp hd]; exact h⟩
theorem tOk.at {n : Nat} {x : Str} {i : Nat} {c : Nat} (h : tOk n x) (e : x.cps.toList[i]? = some c) : tOk 1 (tS [c]) := .one (h.2 c (List.mem_of_getElem? e))
theorem tOk.cut {n : Nat} {x : Str} (h : tOk n x) (lo hi : Option Int) : tOk n (cutS x lo hi) := by
  refine ⟨?_, fun c hc => h.2 c ?_⟩
  · refine Nat.le_trans ?_ h.1
    show ((_ : List Nat).toArray).size ≤ x.cps.size
    rw [List.size_toArray, List.length_take, List.length_drop, Array.length_toList]
    omega
  · exact List.mem_of_mem_drop (List.mem_of_mem_take hc)
theorem tOk.tl {n : Nat} {x : Str} (h : tOk n x) : tOk n (tS x.cps.toList) := by rw [tS_tl]; exact h
theorem cut_take (a : List Nat) (k : Nat) : cutS (tS a) none (some (k : Int)) = tS (a.take k) := by
  unfold cutS
  rw [HT.sIx_none, HT.sIx_nat, tS_len, tS_codes]
  congr 2
  rw [List.drop_zero, Nat.sub_zero]
  rcases Nat.le_total k a.length with h | h
  · rw [Nat.min_eq_left h]
  · rw [Nat.min_eq_right h, List.take_of_length_le (Nat.le_refl _), List.take_of_length_le h]
theorem cut_drop (a : List Nat) (k : Nat) : cutS (tS a) (some (k : Int)) none = tS (a.drop k) := by
  unfold cutS
  rw [HT.sIx_none, HT.sIx_nat, tS_len, tS_codes]
  congr 2
  rcases Nat.le_total k a.length with h | h
  · rw [Nat.min_eq_left h, List.take_of_length_le (by simp)]
  · rw [Nat.min_eq_right h, List.drop_eq_nil_of_le h, List.drop_eq_nil_of_le (Nat.le_refl _)]; simp
theorem tOk.takeS {n k : Nat} {cs : List Nat} (h : tOk n (tS cs)) : tOk n (tS (cs.take k)) := by rw [← cut_take]; exact h.cut _ _
theorem tOk.dropS {n k : Nat} {cs : List Nat} (h : tOk n (tS cs)) : tOk n (tS (cs.drop k)) := by rw [← cut_drop]; exact h.cut _ _
/-! what a block comes to -/
section
variable {α β γ ν ν' ρ ξ η : Type}
def Oz (m : Out ν β ρ ξ) (N : ν → Prop) (B C : β → Prop) (R : ρ → Prop) (X : Ex → ξ → Prop) : Prop := match m with
  | .nx x => N x
  | .bk x => B x
  | .ct x => C x
  | .rt x => R x
  | .exc e x => X e x
  | .bad => False
section
variable {N : ν → Prop} {N' : ν' → Prop} {B C : β → Prop} {R : ρ → Prop} {X : Ex → ξ → Prop} {P : α → Prop} {P' : γ → Prop} {E : Ex → Prop}
theorem oz_nx {x : ν} : Oz (.nx x : Out ν β ρ ξ) N B C R X ↔ N x := Iff.rfl
theorem oz_bk {x : β} : Oz (.bk x : Out ν β ρ ξ) N B C R X ↔ B x := Iff.rfl
theorem oz_ct {x : β} : Oz (.ct x : Out ν β ρ ξ) N B C R X ↔ C x := Iff.rfl
theorem oz_rt {x : ρ} : Oz (.rt x : Out ν β ρ ξ) N B C R X ↔ R x := Iff.rfl
theorem oz_exc {e : Ex} {x : ξ} : Oz (.exc e x : Out ν β ρ ξ) N B C R X ↔ X e x := Iff.rfl
theorem oz_then {m : Out ν' β ρ ξ} {k : ν' → Out ν β ρ ξ} : Oz (m.then k) N B C R X ↔ Oz m (fun x => Oz (k x) N B C R X) B C R X := by cases m <;> exact Iff.rfl
theorem oz_to {m : Res α} {x : ξ} {k : α → Out ν β ρ ξ} : Oz (m.to x k) N B C R X ↔ Rz m (fun y => Oz (k y) N B C R X) (fun e => X e x) := by cases m <;> exact Iff.rfl
theorem oz_gdO {b : Bool} {m : Out ν β ρ ξ} : Oz (gdO b m) N B C R X ↔ b = true ∧ Oz m N B C R X := by
  cases b with
  | true => exact ⟨fun h => ⟨rfl, h⟩, fun h => h.2⟩
  | false => exact ⟨fun h => h.elim, fun h => nomatch h.1⟩
theorem oz_cond {b : Bool} {m n : Out ν β ρ ξ} : Oz (cond b m n) N B C R X ↔ (b = true → Oz m N B C R X) ∧ (b = false → Oz n N B C R X) := by cases b <;> simp
theorem oz_noEO {m : Out ν β ρ ξ} : Oz (noEO m) N B C R X ↔ Oz m N B C R (fun _ _ => False) := by cases m <;> exact Iff.rfl
theorem oz_catO {cs : List Nat} {p : Nat → Bool} {m : Out ν β ρ η} {h : Ex → η → Out ν β ρ ξ} {o : η → ξ} : Oz (catO cs p m h o) N B C R X ↔ Oz m N B C R (fun e y => e.c ∈ cs ∧ (p e.c = true → Oz (h e y) N B C R X) ∧ (p e.c = false → X e (o y))) := by
  cases m with
  | exc e y =>
    show Oz (cond (decide (e.c ∈ cs)) (cond (p e.c) (h e y) (.exc e (o y))) .bad) N B C R X ↔ _
    rw [oz_cond, oz_cond]
    show (_ → (_ → _) ∧ (_ → X e (o y))) ∧ (_ → False) ↔ e.c ∈ cs ∧ (_ → _) ∧ (_ → X e (o y))
    by_cases q : e.c ∈ cs <;> simp [q]
  | _ => exact Iff.rfl
theorem rz_okI {x : α} : Rz (.ok x) P E ↔ P x := Iff.rfl
theorem rz_excI {e : Ex} : Rz (.exc e) P E ↔ E e := Iff.rfl
theorem rz_gd {b : Bool} {m : Res α} : Rz (gd b m) P E ↔ b = true ∧ Rz m P E := by
  cases b with
  | true => exact ⟨fun h => ⟨rfl, h⟩, fun h => h.2⟩
  | false => exact ⟨fun h => h.elim, fun h => nomatch h.1⟩
theorem rz_cond {b : Bool} {m n : Res α} : Rz (cond b m n) P E ↔ (b = true → Rz m P E) ∧ (b = false → Rz n P E) := by cases b <;> simp
theorem rz_andR {m n : Res Bool} {P : Bool → Prop} : Rz (andR m n) P E ↔ Rz m (fun b => (b = true → Rz n P E) ∧ (b = false → P false)) E := by
  unfold andR
  rw [rz_bind]
  simp only [rz_cond, rz_okI]
theorem rz_orR {m n : Res Bool} {P : Bool → Prop} : Rz (orR m n) P E ↔ Rz m (fun b => (b = true → P true) ∧ (b = false → Rz n P E)) E := by
  unfold orR
  rw [rz_bind]
  simp only [rz_cond, rz_okI]
theorem rz_iteR {m : Res Bool} {a b : Res α} : Rz (iteR m a b) P E ↔ Rz m (fun c => (c = true → Rz a P E) ∧ (c = false → Rz b P E)) E := by
  unfold iteR
  rw [rz_bind]
  simp only [rz_cond]
theorem rz_getR {x : Option α} : Rz (getR x) P E ↔ ∃ y, x = some y ∧ P y := by
  cases x with
  | none => exact ⟨fun h => h.elim, fun ⟨_, h, _⟩ => nomatch h⟩
  | some x => exact ⟨fun h => ⟨x, rfl, h⟩, fun ⟨y, h, k⟩ => by cases h; exact k⟩
theorem rz_outR {o : Out Unit Unit ρ ξ} {P : ρ → Prop} : Rz (outR o) P E ↔ Oz o (fun _ => False) (fun _ => False) (fun _ => False) P (fun e _ => E e) := by cases o <;> exact Iff.rfl
theorem rz_ex {m : Res α} (h : Rz m P (fun _ => False)) : ∃ x, m = .ok x ∧ P x := by
  cases m with
  | ok x => exact ⟨x, rfl, h⟩
  | exc e => exact h.elim
  | bad => exact h.elim
theorem rz_eq {m : Res α} {x : α} (h : Rz m (· = x) (fun _ => False)) : m = .ok x := by
  obtain ⟨y, h1, h2⟩ := rz_ex h
  rw [h1, h2]
theorem oz_rteq {m : Out ν β ρ ξ} {r : ρ} (h : Oz m (fun _ => False) (fun _ => False) (fun _ => False) (· = r) (fun _ _ => False)) : m = .rt r := by
  cases m <;> first | exact h.elim | skip
  cases h; rfl
theorem oz_nxex {m : Out ν β ρ ξ} (h : Oz m N (fun _ => False) (fun _ => False) (fun _ => False) (fun _ _ => False)) : ∃ x, m = .nx x ∧ N x := by
  cases m <;> first | exact h.elim | exact ⟨_, rfl, h⟩
theorem oz_imp {m : Out ν β ρ ξ} {N1 : ν → Prop} {B1 C1 : β → Prop} {R1 : ρ → Prop} {X1 : Ex → ξ → Prop} (h : Oz m N B C R X) (n : ∀ x, N x → N1 x) (b : ∀ x, B x → B1 x) (c : ∀ x, C x → C1 x) (r : ∀ x, R x → R1 x) (x : ∀ e y, X e y → X1 e y) : Oz m N1 B1 C1 R1 X1 := by
  cases m with
  | nx y => exact n y h
  | bk y => exact b y h
  | ct y => exact c y h
  | rt y => exact r y h
  | exc e y => exact x e y h
  | bad => exact h
/-- a loop by an invariant of the items behind -/
theorem oz_loop {f : α → ν → Out ν ν ρ ξ} (I : List α → ν → Prop) {xs : List α} {s : ν} (h0 : I xs s) (h1 : ∀ s, I [] s → N s)
    (hs : ∀ x xs s, I (x :: xs) s → Oz (f x s) (I xs) N (I xs) R X) : Oz (loopO f xs s : Out ν β ρ ξ) N B C R X := by
  induction xs generalizing s with
  | nil => exact h1 s h0
  | cons x xs ih =>
    have := hs x xs s h0
    unfold loopO
    cases q : f x s with
    | nx s' => rw [q] at this; exact ih this
    | ct s' => rw [q] at this; exact ih this
    | bk s' => rw [q] at this; exact this
    | rt r => rw [q] at this; exact this
    | exc e y => rw [q] at this; exact this
    | bad => rw [q] at this; exact this
end
end
end Q
/-! Q28: own things changed in place; lists put together; texts joined and split; range with a step. -/
namespace Q
open PySem L2 PySem.Spec
section
variable {T : Tb} {cs : List Nat} {C : Kc} {Γ : Cx0} {α β γ ν ν' ρ ξ : Type}
/-- the thing of one name is changed, the others stay -/
theorem Oks.chg {σ : L2.St} {B Z H : Hp} {fp : List Addr} {i : Nat} {o : Ow} (k : Oks Γ σ B Z H fp) (hi : Γ[i]? = some (some o)) :
    ∃ v f, σ[i]? = some (some v) ∧ o.rel B H v f ∧ f.Nodup ∧ (∀ a ∈ f, Z a = none ∧ B a = none) ∧
      ∀ (o' : Ow) (H' : Hp) (f' : List Addr), o'.rel B H' v f' → f'.Nodup → (∀ a, a ∉ f → (H a).isSome = true → H' a = H a) → (∀ a ∈ f', a ∈ f ∨ H a = none) → ∃ fp', Oks (Γ.set i (some o')) σ B Z H' fp' := by
  obtain ⟨v, f, g, q1, q2, q3, q4⟩ := k.env.focus hi
  have al : ∀ a ∈ fp, (H a).isSome = true := k.env.al
  have inf : ∀ a ∈ f, a ∈ fp := fun a ha => q3.mem_iff.mp (List.mem_append_left _ ha)
  have ing : ∀ a ∈ g, a ∈ fp := fun a ha => q3.mem_iff.mp (List.mem_append_right _ ha)
  obtain ⟨n1, n2, n3⟩ := List.nodup_append.mp (q3.nodup_iff.mpr k.nd)
  have ff : ∀ a ∈ f, Z a = none ∧ B a = none := fun a ha => k.fr a (inf a ha)
  refine ⟨v, f, q1, q2, n1, ff, fun o' H' f' r nd ch fr => ?_⟩
  obtain ⟨fp', z1, z2⟩ := q4 B H' o' f' (sm_refl _) (fun a ha => ch a (fun z => n3 a z a ha rfl) (al a (ing a ha))) r
  have up : ∀ (M : Hp), Same M H → (∀ a ∈ f, M a = none) → Same M H' := fun M s n a u e => by
    have h := s a u e
    rw [ch a (fun z => by rw [n a z] at e; cases e) (by rw [h]; rfl)]
    exact h
  refine ⟨fp', z1, z2.nodup_iff.mp (List.nodup_append.mpr ⟨nd, n2, fun a ha b hb e => ?_⟩), fun a ha => ?_, up B k.b fun a ha => (ff a ha).2, up Z k.z fun a ha => (ff a ha).1⟩
  · subst e
    rcases fr a ha with h | h
    · exact n3 a h a hb rfl
    · have := al a (ing a hb)
      rw [h] at this; cases this
  · rcases List.mem_append.mp (z2.mem_iff.mpr ha) with h | h
    · rcases fr a h with h | h
      · exact ff a h
      · exact ⟨none_back k.z h, none_back k.b h⟩
    · exact k.fr a (ing a h)
theorem owl_oV_inv {τ : α → Vw} {B H : Hp} : ∀ {xs : List α} {vs : List V} {f : List Addr}, OwL B H vs (xs.map fun x => oV (τ x)) f → VwL B vs (xs.map τ) ∧ f = []
  | [], [], f, h => ⟨.nil, h⟩
  | [], v :: vs, f, h => h.elim
  | x :: xs, [], f, h => h.elim
  | x :: xs, v :: vs, f, ⟨a, b, h1, h2, h3⟩ => by
    obtain ⟨k1, k2⟩ := owl_oV_inv h3
    exact ⟨.cons h2.1 k1, by rw [h1, h2.2, k2]; rfl⟩
theorem owl_oV' {τ : α → Vw} {B H : Hp} {xs : List α} {vs : List V} (h : VwL B vs (xs.map τ)) : OwL B H vs (xs.map fun x => oV (τ x)) [] := by
  have := owl_oV (B := B) (H := H) h
  rw [List.map_map] at this
  exact this
/-- the own list of a name -/
theorem Oks.list {σ : L2.St} {B Z H : Hp} {fp : List Addr} {i : Nat} {q : V → Prop} {τ : α → Vw} {xs : List α} (k : Oks Γ σ B Z H fp) (hi : Γ[i]? = some (some (oQ q (oL C (fun x => oV (τ x)) xs)))) :
    ∃ l vs, σ[i]? = some (some (.ref l)) ∧ H l = some (.lst vs) ∧ VwL B vs (xs.map τ) ∧ ∀ vs' (ys : List α), VwL B vs' (ys.map τ) → ∃ fp', Oks (Γ.set i (some (oQ q (oL C (fun x => oV (τ x)) ys)))) σ B Z (upd H l (.lst vs')) fp' := by
  obtain ⟨v, f, q1, ⟨qv, l, vs, f0, rfl, hl, ho, rfl⟩, n, fr, up⟩ := k.chg hi
  obtain ⟨h1, rfl⟩ := owl_oV_inv ho
  refine ⟨l, vs, q1, hl, h1, fun vs' ys h => up _ _ [l] ⟨qv, l, vs', [], rfl, upd_same, owl_oV' h, rfl⟩ n (fun a ha _ => upd_ne fun z => ha (by rw [z]; exact List.mem_cons_self)) fun a ha => .inl ha⟩
theorem vwl_app {H : Hp} {τ : α → Vw} {vs us : List V} {xs ys : List α} (h : VwL H vs (xs.map τ)) (k : VwL H us (ys.map τ)) : VwL H (vs ++ us) ((xs ++ ys).map τ) := by
  rw [List.map_append]; exact vwl_append h k
/-- xs.extend(ys), ys new -/
theorem b_ext {D : Ds ν β ρ ξ} {i : Nat} {e : E} {s : S} {q : V → Prop} {τ : α → Vw} {xs : List α} {m : Res (List α)} {x0 : ξ} {k : List α → Out ν β ρ ξ} (hi : Γ[i]? = some (some (oQ q (oL C (fun x => oV (τ x)) xs)))) (h : EvO T C Γ e (oL C fun x => oV (τ x)) m) (w : Wk Γ (D.x x0))
    (hs : ∀ ys, Blk T cs C D (Γ.set i (some (oQ q (oL C (fun x => oV (τ x)) (xs ++ ys))))) s (k ys)) : Blk T cs C D Γ (.seq (.exp (.bm .lExt (.var i) (.cons e .nil))) s) (m.to x0 fun ys => gdO (decide (xs.length + ys.length ≤ sizeLine)) (k ys)) := fun W E σ B Z H fp o p => by
  obtain ⟨l, vs, q1, hl, _, _⟩ := o.list hi
  refine ⟨.ref l, q1, .inl ⟨rfl, vs, .inl (.inl hl)⟩, ?_⟩
  show (rd T C e W).E σ H _
  refine evo_post h w o p fun ys v B1 H1 fq g1 r o1 p1 => ?_
  obtain ⟨b, us, f0, rfl, hb, ho, _⟩ := r
  obtain ⟨h2, _⟩ := owl_oV_inv ho
  obtain ⟨l', vs', q1', hl', h1, up⟩ := o1.list hi
  rw [q1] at q1'
  cases q1'
  cases hz : decide (xs.length + ys.length ≤ sizeLine) with
  | false => rw [hz] at p1; exact p1.elim
  | true =>
    rw [hz] at p1
    have e1 := h1.len
    have e2 := h2.len
    rw [List.length_map] at e1 e2
    refine ⟨l, b, vs', us, rfl, rfl, hl', hb, by rw [e1, e2]; exact of_decide_eq_true hz, ?_⟩
    obtain ⟨fp', o2⟩ := up (vs' ++ us) (xs ++ ys) (vwl_app h1 h2)
    exact hs ys W E σ B1 Z _ fp' o2 p1
/-- xs.insert(j, y) -/
theorem b_ins {D : Ds ν β ρ ξ} {i : Nat} {e e' : E} {s : S} {q : V → Prop} {τ : α → Vw} {xs : List α} {m : Res Int} {m' : Res α} {x0 : ξ} {k : Int → α → Out ν β ρ ξ} (hi : Γ[i]? = some (some (oQ q (oL C (fun x => oV (τ x)) xs)))) (h : EvB T C Γ e vInt m) (h' : EvO T C Γ e' (fun x => oV (τ x)) m') (w : Wk Γ (D.x x0))
    (hs : ∀ j y, Blk T cs C D (Γ.set i (some (oQ q (oL C (fun x => oV (τ x)) (xs.take j.toNat ++ [y] ++ xs.drop j.toNat))))) s (k j y)) :
    Blk T cs C D Γ (.seq (.exp (.bm .lIns (.var i) (.cons e (.cons e' .nil)))) s) (m.to x0 fun j => m'.to x0 fun y => gdO (decide (xs.length < sizeLine) && decide (0 ≤ j) && decide (j < 2 ^ 63)) (k j y)) := fun W E σ B Z H fp o p => by
  obtain ⟨l, vs, q1, hl, _, _⟩ := o.list hi
  refine ⟨.ref l, q1, .inl ⟨rfl, vs, .inl (.inl hl)⟩, ?_⟩
  show (rd T C e W).E σ H _
  refine evo_post (ev_flat h) w o p fun j v B0 H0 fq0 g0 r0 o0 p0 => ?_
  obtain ⟨rfl, rfl⟩ := r0
  show (rd T C e' W).E σ H0 _
  refine evo_post h' w o0 p0 fun y v B1 H1 fq g1 r o1 p1 => ?_
  obtain ⟨l', vs', q1', hl', h1, up⟩ := o1.list hi
  rw [q1] at q1'
  cases q1'
  cases hz : (decide (xs.length < sizeLine) && decide (0 ≤ j) && decide (j < 2 ^ 63)) with
  | false => rw [hz] at p1; exact p1.elim
  | true =>
    rw [hz] at p1
    simp only [Bool.and_eq_true, decide_eq_true_eq] at hz
    have e1 := h1.len
    rw [List.length_map] at e1
    refine ⟨l, vs', j, v, rfl, rfl, hl', by rw [e1]; exact hz.1.1, hz.1.2, hz.2, ?_⟩
    have k1 : VwL B1 (vs'.take j.toNat) ((xs.take j.toNat).map τ) := by rw [List.map_take]; exact vwl_take _ h1
    have k2 : VwL B1 (vs'.drop j.toNat) ((xs.drop j.toNat).map τ) := by rw [List.map_drop]; exact vwl_drop _ h1
    obtain ⟨fp', o2⟩ := up _ (xs.take j.toNat ++ [y] ++ xs.drop j.toNat) (vwl_app (vwl_app k1 (.cons r.1 .nil)) k2)
    exact hs j y W E σ B1 Z _ fp' o2 p1
/-- xs.clear() -/
theorem b_clr {D : Ds ν β ρ ξ} {i : Nat} {s : S} {q : V → Prop} {τ : α → Vw} {xs : List α} {m : Out ν β ρ ξ} (hi : Γ[i]? = some (some (oQ q (oL C (fun x => oV (τ x)) xs))))
    (hs : Blk T cs C D (Γ.set i (some (oQ q (oL C (fun x => oV (τ x)) [])))) s m) : Blk T cs C D Γ (.seq (.exp (.bm .lClr (.var i) .nil)) s) m := fun W E σ B Z H fp o p => by
  obtain ⟨l, vs, q1, hl, _, up⟩ := o.list hi
  obtain ⟨fp', o2⟩ := up [] [] .nil
  exact ⟨.ref l, q1, .inl ⟨rfl, vs, .inl (.inl hl)⟩, l, vs, rfl, rfl, hl, hs W E σ B Z _ fp' o2 p⟩
/-- xs[j] = y -/
def setI (xs : List α) (j : Int) (y : α) : Option (List α) := (ixN xs.length j).map fun n => xs.set n y
theorem vwl_set {H : Hp} {τ : α → Vw} {y : α} {u : V} (hu : (τ y).rel H u) : ∀ {vs : List V} {xs : List α} (n : Nat), VwL H vs (xs.map τ) → VwL H (vs.set n u) ((xs.set n y).map τ)
  | _, [], n, .nil => .nil
  | _, x :: xs, 0, .cons h l => .cons hu l
  | _, x :: xs, n + 1, .cons h l => .cons h (vwl_set hu n l)
theorem b_setl {D : Ds ν β ρ ξ} {i : Nat} {e e' : E} {s : S} {q : V → Prop} {τ : α → Vw} {xs : List α} {m : Res Int} {m' : Res α} {x0 : ξ} {k : List α → Out ν β ρ ξ} (hi : Γ[i]? = some (some (oQ q (oL C (fun x => oV (τ x)) xs)))) (h : EvB T C Γ e vInt m) (h' : EvO T C Γ e' (fun x => oV (τ x)) m') (w : Wk Γ (D.x x0))
    (hs : ∀ ys, Blk T cs C D (Γ.set i (some (oQ q (oL C (fun x => oV (τ x)) ys)))) s (k ys)) :
    Blk T cs C D Γ (.seq (.setl (.var i) e e') s) (m'.to x0 fun y => m.to x0 fun j => (getR (setI xs j y)).to x0 k) := fun W E σ B Z H fp o p => by
  show (rd T C e' W).E σ H _
  refine evo_post h' w o p fun y v B0 H0 fq0 g0 r0 o0 p0 => ?_
  obtain ⟨l, vs, q1, hl, _, _⟩ := o0.list hi
  refine ⟨.ref l, q1, ?_⟩
  show (rd T C e W).E σ H0 _
  refine evo_post (ev_flat h) w o0 p0 fun j u B1 H1 fq g1 r o1 p1 => ?_
  obtain ⟨rfl, rfl⟩ := r
  obtain ⟨l', vs', q1', hl', h1, up⟩ := o1.list hi
  rw [q1] at q1'
  cases q1'
  cases hz : ixN xs.length j with
  | none =>
    have : setI xs j y = none := by unfold setI; rw [hz]; rfl
    rw [this] at p1
    exact p1.elim
  | some n =>
    have : setI xs j y = some (xs.set n y) := by unfold setI; rw [hz]; rfl
    rw [this] at p1
    have e1 := h1.len
    rw [List.length_map] at e1
    refine ⟨l, vs', j, n, rfl, rfl, hl', by rw [e1]; exact hz, ?_⟩
    obtain ⟨fp', o2⟩ := up _ (xs.set n y) (vwl_set ((τ y).mono g1.b r0.1) n h1)
    exact hs _ W E σ B1 Z _ fp' o2 p1
/-- xs + ys -/
theorem ev_cat {a b : E} {τ : α → Vw} {ma mb : Res (List α)} (ha : EvO T C Γ a (fun xs => oV (vL C τ xs)) ma) (hb : EvO T C Γ b (fun xs => oV (vL C τ xs)) mb) :
    EvO T C Γ (.bin .Add a b) (oL C fun x => oV (τ x)) (ma >>= fun xs => mb >>= fun ys => gd (decide (xs.length + ys.length ≤ sizeLine)) (.ok (xs ++ ys))) := fun W σ B H Q g z => by
  show (rd T C a W).E σ H _
  refine ha W σ B H _ g (rz_imp (rz_bind.mp z) (fun xs z v B1 H1 g1 ⟨fp, ⟨⟨p, vs, hv, h2, h3⟩, _⟩, _, _⟩ => ?_) fun _ z => z)
  subst hv
  show (rd T C b W).E σ H1 _
  refine hb W σ B1 H1 _ (g.up g1.b g1.h g1.s) (rz_imp (rz_bind.mp z) (fun ys z u B2 H2 g2 ⟨fp', ⟨⟨p', us, hu, k2, k3⟩, _⟩, _, _⟩ => ?_) fun _ z => z.up g1.h)
  subst hu
  cases hz : decide (xs.length + ys.length ≤ sizeLine) with
  | false => rw [hz] at z; exact z.elim
  | true =>
    rw [hz] at z
    have e1 := h3.len
    have e2 := k3.len
    rw [List.length_map] at e1 e2
    refine .inr (.inr (.inr (.inr ⟨p, p', vs, us, rfl, rfl, sm_sqL (sm_trans g2.b g2.s) h2, sm_sqL g2.s k2, by rw [e1, e2]; exact of_decide_eq_true hz, fun q hq => ?_⟩)))
    have ho := owl_oV' (B := B2) (H := H2) (vwl_app (h3.mono g2.b) k3)
    obtain ⟨k1, k2, k3, k4⟩ := new_ls (C := C) g2.s hq ho
    have g0 := g1.trans g2
    exact z (.ref q) B2 _ (g0.trans k1) ⟨[q], k2, k3, fun b hb => ⟨none_back g0.h (k4 b hb).1, (k4 b hb).2⟩⟩
/-- 'x'.join(ys) -/
theorem ev_join {s : Str} {e : E} {m : Res (List Str)} (h : EvB T C Γ e (vL C vStr) m) : EvB T C Γ (.join s e) vStr (m >>= fun ys => gd (decide ((ys.map (·.length)).sum + ys.length * s.length ≤ 16777216)) (.ok (Txt.join s ys))) := fun W σ B H Q g z => by
  refine ⟨⟨s, rfl⟩, ?_⟩
  refine h W σ B H _ g (rz_imp (rz_bind.mp z) (fun ys z v B1 H1 g1 ⟨p, vs, hv, h2, h3⟩ => ?_) fun _ z => z)
  subst hv
  rw [vl_strs h3] at h2
  obtain ⟨q1, q2⟩ := rz_gd.mp z
  exact ⟨s, p, ys, rfl, rfl, .inl h2, of_decide_eq_true q1, q2 _ B1 H1 g1 rfl⟩
theorem bm_split : Op2 (fun v w H Q => rBm C.K .sSplit v [w] H Q) vStr vStr (pO (oL C fun x => oV (vStr x))) fun a b => gd (!(b.length == 0) && decide (a.length + 2 ≤ sizeLine)) (.ok (Txt.split a b)) where
  no := fun _ _ => nox_gd nox_ok
  run := fun a b B H v w Q s h1 h2 q => by
    obtain ⟨q1, q2⟩ := say_gd q
    simp only [Bool.and_eq_true, Bool.not_eq_true', decide_eq_true_eq] at q1
    exact ⟨a, b, h1, by rw [show w = .str b from h2], q1.1, q1.2, fun p hp => say_new (C := C) s rfl q2 (owl_strs _) p hp⟩
/-- for j in range(lo, hi, c) -/
def r3B (lo hi c : Int) : Bool := decide (c ≠ 0) && decide (c.natAbs < 1073741824) && Builtin.Range.small lo hi c
def rng3 (lo hi c : Int) : List Int := (List.range (Builtin.Range.rangeSize lo hi c).toNat).map fun i : Nat => lo + (i : Int) * c
theorem rng3_nth {lo hi c : Int} {i : Nat} {x : Int} (h : (rng3 lo hi c)[i]? = some x) : i < (Builtin.Range.rangeSize lo hi c).toNat ∧ x = lo + i * c := by
  unfold rng3 at h
  rw [List.getElem?_map] at h
  by_cases q : i < (Builtin.Range.rangeSize lo hi c).toNat
  · rw [List.getElem?_range q] at h
    cases h
    exact ⟨q, rfl⟩
  · rw [List.getElem?_eq_none (by simpa using q)] at h
    cases h
theorem b_forR3 {D : Ds ν' β ρ ξ} {Γ0 : ν → Cx0} {e1 e2 e3 : E} {j : Nat} {b s : S} {f : Int → ν → Out ν ν ρ ξ} {k : ν → Out ν' β ρ ξ} {m1 m2 m3 : Res Int} {x0 : ξ} {s0 : ν} (h1 : EvB T C Γ e1 vInt m1) (h2 : EvB T C Γ e2 vInt m2) (h3 : EvB T C Γ e3 vInt m3) (w : Wk Γ (D.x x0)) (w0 : Wk Γ (Γ0 s0))
    (l : ∀ st, j < (Γ0 st).length) (hb : ∀ x st, Blk T cs C ({ n := Γ0, b := Γ0, t := D.t, r := D.r, x := D.x } : Ds ν ν ρ ξ) ((Γ0 st).set j (some (oV (vInt x)))) b (f x st)) (hs : ∀ st, Blk T cs C D (Γ0 st) s (k st)) :
    Blk T cs C D Γ (.seq (.for [j] (.iR3 e1 e2 e3) b) s) (m1.to x0 fun lo => m2.to x0 fun hi => m3.to x0 fun c => gdO (r3B lo hi c) ((loopO f (rng3 lo hi c) s0).then k)) := fun W E σ B Z H fp o p => by
  show (rd T C e1 W).E σ H _
  refine evo_post (ev_flat h1) w o p fun lo v B1 H1 fq g1 r o1 p1 => ?_
  show (rd T C e2 W).E σ H1 _
  refine evo_post (ev_flat h2) w o1 p1 fun hi v' B2 H2 fq' g2 r' o2 p2 => ?_
  show (rd T C e3 W).E σ H2 _
  refine evo_post (ev_flat h3) w o2 p2 fun c v'' B3 H3 fq'' g3 r'' o3 p3 => ?_
  obtain ⟨rfl, rfl⟩ := r
  obtain ⟨rfl, rfl⟩ := r'
  obtain ⟨rfl, rfl⟩ := r''
  cases hc : r3B lo hi c with
  | false => rw [hc] at p3; exact p3.elim
  | true =>
    rw [hc] at p3
    unfold r3B at hc
    simp only [Bool.and_eq_true, decide_eq_true_eq] at hc
    obtain ⟨fr, o4⟩ := o3.wk w0
    refine ⟨lo, hi, c, (Builtin.Range.rangeSize lo hi c).toNat, rfl, ⟨hc.1.1, hc.1.2, hc.2, PyProof.Rows.rangeSize_toNat lo hi c⟩, ?_⟩
    exact for_core (α := Int) (E := { E with nx := rs T cs s C W E }) (xs := rng3 lo hi c) (J := Itc lo c (Builtin.Range.rangeSize lo hi c).toNat) (js := [j]) (Γ1 := fun x st => (Γ0 st).set j (some (oV (vInt x)))) (fun i x hx B' H g s => (rng3_nth hx).1) (fun B' H g s => by
      show (Builtin.Range.rangeSize lo hi c).toNat ≤ (rng3 lo hi c).length
      simp [rng3]) (fun i x hx σ B' H fp st v H' Q g o y q => by
        obtain ⟨rfl, rfl⟩ := y
        obtain ⟨fp', o'⟩ := o.setV (w := vInt x) (v := .int (lo + i * c)) (by rw [(rng3_nth hx).2]; rfl) (l st)
        exact q _ _ o') hb (post_then p3 hs) o4
theorem ev_catP {a b : E} {τ : α → Vw} {x y : List α} (ha : EvO T C Γ a (fun xs => oV (vL C τ xs)) (.ok x)) (hb : EvO T C Γ b (fun xs => oV (vL C τ xs)) (.ok y)) : EvO T C Γ (.bin .Add a b) (oL C fun x => oV (τ x)) (gd (decide (x.length + y.length ≤ sizeLine)) (.ok (x ++ y))) := ev_cat ha hb
theorem ev_catL {a b : E} {τ : α → Vw} {x : List α} {mb : Res (List α)} (ha : EvO T C Γ a (fun xs => oV (vL C τ xs)) (.ok x)) (hb : EvO T C Γ b (fun xs => oV (vL C τ xs)) mb) : EvO T C Γ (.bin .Add a b) (oL C fun x => oV (τ x)) (mb >>= fun ys => gd (decide (x.length + ys.length ≤ sizeLine)) (.ok (x ++ ys))) := ev_cat ha hb
theorem ev_catR {a b : E} {τ : α → Vw} {ma : Res (List α)} {y : List α} (ha : EvO T C Γ a (fun xs => oV (vL C τ xs)) ma) (hb : EvO T C Γ b (fun xs => oV (vL C τ xs)) (.ok y)) : EvO T C Γ (.bin .Add a b) (oL C fun x => oV (τ x)) (ma >>= fun xs => gd (decide (xs.length + y.length ≤ sizeLine)) (.ok (xs ++ y))) := ev_cat ha hb
theorem ev_joinP {s : Str} {e : E} {x : List Str} (h : EvB T C Γ e (vL C vStr) (.ok x)) : EvB T C Γ (.join s e) vStr (gd (decide ((x.map (·.length)).sum + x.length * s.length ≤ 16777216)) (.ok (Txt.join s x))) := ev_join h
theorem bl_lenT {ws : α → List Vw} {n : Nat} (h : ∀ x, (ws x).length = n) : Op1 (fun v H Q => rBlt C.K .len [v] H Q) (fun x => vTup C (ws x)) (pB vInt) fun x => .ok ((n : Nat) : Int) where
  no := fun _ => nox_ok
  run := fun x B H v Q s ⟨p, vs, h1, h2, h3⟩ q => .inl ⟨v, n, rfl, by rw [h1]; exact .inr ⟨vs, h2, by rw [h3.len, h]⟩, say_ok s q rfl⟩
/-- for over a text, an error at hand -/
theorem b_forSH {D : Ds ν' β ρ ξ} {Γ0 : ν → Cx0} {e : E} {j : Nat} {b s : S} {f : Str → ν → Out ν ν ρ ξ} {k : ν → Out ν' β ρ ξ} {m : Res Str} {x0 : ξ} {s0 : ν} (h : EvB T C Γ e vStr m) (w : Wk Γ (D.x x0)) (w0 : Wk Γ (Γ0 s0))
    (l : ∀ st, j < (Γ0 st).length) (hb : ∀ x st, Blk T cs C ({ n := Γ0, b := Γ0, t := D.t, r := D.r, x := D.x } : Ds ν ν ρ ξ) ((Γ0 st).set j (some (oV (vStr x)))) b (f x st)) (hs : ∀ st, Blk T cs C D (Γ0 st) s (k st)) :
    Blk T cs C D Γ (.seq (.forH j e b) s) (m.to x0 fun z => (loopO f (signs z) s0).then k) := b_forS h w w0 l hb hs
end
end Q
/-! Q29: texts of numbers and of names, read. -/
namespace Q
open PySem L2 PySem.Spec
theorem lit_ok (x : Str) (n : Nat) (h : (decide (x.length ≤ n) && x.cps.toList.all (fun c => decide (c < 128))) = true) : tOk n x := by
  simp only [Bool.and_eq_true, decide_eq_true_eq, List.all_eq_true] at h
  exact h
theorem sl_of {n : Nat} {x : Str} (h : tOk n x) (l : n ≤ 16777216 := by decide) : decide (x.length ≤ sizeLine) = true := decide_eq_true (by have := h.1; unfold sizeLine; omega)
theorem sl2_of {n m : Nat} {x y : Str} (h : tOk n x) (k : tOk m y) (l : n + m ≤ 16777216 := by decide) : decide (x.length + y.length ≤ sizeLine) = true := decide_eq_true (by have := h.1; have := k.1; unfold sizeLine; omega)
theorem fm_lt (a b : Int) (h : 0 < b) : 0 ≤ Int.fmod a b ∧ Int.fmod a b < b := ⟨Int.fmod_nonneg_of_pos _ h, Int.fmod_lt_of_pos _ h⟩
theorem ftoN {a b : Int} (h : 0 < b) : ((Int.fmod a b).toNat : Int) = Int.fmod a b := by have := (fm_lt a b h).1; omega
theorem then_nx {ν ν' β ρ ξ : Type} {m : Out ν β ρ ξ} {k : ν → Out ν' β ρ ξ} {P : ν → Prop} {N : ν' → Prop} {B C : β → Prop} {R : ρ → Prop} {X : Ex → ξ → Prop} (h : Oz m P (fun _ => False) (fun _ => False) (fun _ => False) (fun _ _ => False)) (hk : ∀ x, P x → Oz (k x) N B C R X) : Oz (m.then k) N B C R X := by
  obtain ⟨x, rfl, hx⟩ := oz_nxex h
  exact hk x hx
def dig (c : Nat) : Bool := decide (48 ≤ c) && decide (c ≤ 57)
def bodyN (cs : List Nat) : List Nat := if cs.take 1 = [45] then cs.drop 1 else cs
theorem cut_t1 (a : List Nat) : cutS (tS a) none (some 1) = tS (a.take 1) := cut_take a 1
theorem cut_d1 (a : List Nat) : cutS (tS a) (some 1) none = tS (a.drop 1) := cut_drop a 1
theorem lit_m : ("-" : Str) = tS [45] := rfl
theorem lit_0 : ("0" : Str) = tS [48] := rfl
theorem lit_e : ("" : Str) = tS [] := rfl
theorem dig_mem (c : Nat) : c ∈ ("0123456789" : Str).cps.toList ↔ dig c = true := by
  rw [show ("0123456789" : Str).cps.toList = [48, 49, 50, 51, 52, 53, 54, 55, 56, 57] from by decide]
  unfold dig
  simp only [List.mem_cons, List.not_mem_nil, or_false, Bool.and_eq_true, decide_eq_true_eq]
  omega
theorem signs_S (cs : List Nat) : signs (tS cs) = cs.map fun c => tS [c] := rfl
theorem loop9 {ρ : Type} {n : Nat} (P : Str) (p : Nat → Bool) (hp : ∀ c, c ∈ P.cps.toList ↔ p c = true) : ∀ (cs : List Nat), (loopO (fun (x178 : Str) (s177 : Unit) =>
  ((chNin x178 P).to () fun b180 => cond b180
  (.exc ⟨n, []⟩ ())
  (.nx ()))) (signs (tS cs)) () : Out Unit Unit ρ Unit) = if cs.all p = true then .nx () else .exc ⟨n, []⟩ ()
  | [] => rfl
  | c :: cs => by
    rw [signs_S, List.map_cons]
    have e : chNin (tS [c]) P = .ok (!p c) := by
      show getR (some (!decide (c ∈ P.cps.toList))) = _
      rw [getR_some]
      congr 2
      rw [Bool.eq_iff_iff, decide_eq_true_eq, hp]
    by_cases h : p c = true
    · rw [loopO_nx (s' := ())]
      · rw [← signs_S, loop9 P p hp cs, List.all_cons, h]; rfl
      · rw [e, h]; rfl
    · rw [loopO_exc (e := ⟨n, []⟩) (y := ())]
      · rw [List.all_cons, Bool.eq_false_iff.mpr h]; rfl
      · rw [e, Bool.eq_false_iff.mpr h]; rfl
def badN (cs : List Nat) : Bool := decide ((bodyN cs).length < 1) || decide (60 < (bodyN cs).length) || !(bodyN cs).all dig || ((bodyN cs).head? == some 48 && !decide (cs = [48]))
def valN (cs : List Nat) : Int := if cs.take 1 = [45] then 0 - ((NumText.digitsVal (bodyN cs) : Nat) : Int) else ((NumText.digitsVal (bodyN cs) : Nat) : Int)
theorem body_ok {n : Nat} {cs : List Nat} (h : tOk n (tS cs)) : tOk n (tS (bodyN cs)) := by
  unfold bodyN
  split
  · exact h.dropS
  · exact h
theorem head_at {b : List Nat} {n : Nat} (h : tOk n (tS b)) (hn : n ≤ 16777216) (hb : 1 ≤ b.length) : (strAt (tS b) 0 >>= fun x161 => (eqR (PyData.str x161) (PyData.str ("0" : Str)))) = .ok (b.head? == some 48) := by
  cases b with
  | nil => simp at hb
  | cons c b =>
    rw [show strAt (tS (c :: b)) 0 = .ok (tS [c]) from strAt_ok (i := 0) (Nat.le_trans h.1 hn) rfl]
    simp only [Res.ok_bind]
    rw [lit_0, eqR_str (tOk.one (h.2 c List.mem_cons_self)).ok (lit_ok (tS [48]) 1 (by decide)).ok]
    simp only [tS_inj]
    congr 1
    rw [Bool.eq_iff_iff]
    simp
theorem digits_of_all {b : List Nat} (h : b.all dig = true) : NumText.AllDigits b := fun c hc => by
  have := List.all_eq_true.mp h c hc
  unfold dig at this
  simpa using this
/-- read_number, its error of class n -/
def RN (n : Nat) (a0 : Str) : Out Unit Unit Int Unit :=
  (Res.ok a0).to () fun v170 =>
  (((gd (decide (a0.length ≤ sizeLine)) (Res.ok (cutS a0 none (some 1))) >>= fun x171 => (eqR (PyData.str x171) (PyData.str ("-" : Str))))).to () fun b172 => cond b172
  ((gd (decide (a0.length ≤ sizeLine)) (Res.ok (cutS a0 (some 1) none))).to () fun v173 =>
  .nx v173)
  (.nx v170)).then fun s174 : Str =>
  (orR (eqR (PyData.str s174) (PyData.str ("" : Str))) ((gd (decide (s174.length ≤ sizeLine)) (Res.ok (s174.length : Int)) >>= fun x175 => (Res.ok (decide (60 < x175)))))).to () fun b176 => cond b176
  (.exc ⟨n, []⟩ ())
  ((Res.ok s174).to () fun l179 => (loopO (fun (x178 : Str) (s177 : Unit) =>
  ((chNin x178 ("0123456789" : Str)).to () fun b180 => cond b180
  (.exc ⟨n, []⟩ ())
  (.nx ()))) (signs l179) ()).then fun s177 : Unit =>
  (andR ((strAt s174 0 >>= fun x181 => (eqR (PyData.str x181) (PyData.str ("0" : Str))))) (neR (PyData.str a0) (PyData.str ("0" : Str)))).to () fun b182 => cond b182
  (.exc ⟨n, []⟩ ())
  ((gd (decide (a0.length ≤ 640)) (getR (PySem.intText? a0))).to () fun r183 => .rt r183))
theorem RN_eq (n : Nat) (cs : List Nat) (h : tOk 640 (tS cs)) : RN n (tS cs) = if badN cs = true then .exc ⟨n, []⟩ () else .rt (valN cs) := by
  unfold RN
  have e1 : (cond (decide (cs.take 1 = [45])) ((gd (decide ((tS cs).length ≤ sizeLine)) (Res.ok (cutS (tS cs) (some 1) none))).to () fun v146 => .nx v146) (.nx (tS cs)) : Out Str Unit Int Unit) = .nx (tS (bodyN cs)) := by
    unfold bodyN
    by_cases hm : cs.take 1 = [45]
    · rw [decide_eq_true hm, if_pos hm, gd_t (sl_of h), cut_d1]; rfl
    · rw [decide_eq_false hm, if_neg hm]; rfl
  rw [cut_t1, lit_m, gd_t (sl_of h)]
  simp only [Res.ok_bind, Res.ok_to]
  rw [eqR_str h.takeS.ok (lit_ok (tS [45]) 1 (by decide)).ok]
  simp only [tS_inj, Res.ok_to]
  rw [e1]
  simp only [Out.nx_then]
  have hb := (body_ok h)
  rw [lit_e, eqR_str hb.ok (lit_ok (tS []) 0 (by decide)).ok]
  simp only [tS_inj]
  have hbad : badN cs = (decide ((bodyN cs).length < 1) || decide (60 < (bodyN cs).length) || !(bodyN cs).all dig || ((bodyN cs).head? == some 48 && !decide (cs = [48]))) := rfl
  rw [gd_t (sl_of hb), tS_len]
  simp only [Res.ok_bind]
  by_cases c1 : bodyN cs = []
  · rw [decide_eq_true c1, if_pos (by rw [hbad, c1]; rfl)]; rfl
  have c1' : ¬ (bodyN cs).length < 1 := by
    intro z
    exact c1 (List.length_eq_zero_iff.mp (by omega))
  rw [decide_eq_false c1]
  by_cases c2 : 60 < (bodyN cs).length
  · rw [if_pos (by rw [hbad, decide_eq_true c2]; simp), decide_eq_true (show (60 : Int) < (bodyN cs).length by omega)]; rfl
  rw [decide_eq_false (show ¬ (60 : Int) < (bodyN cs).length by omega)]
  simp only [orR_f, Res.ok_to, cond_false]
  rw [loop9 ("0123456789" : Str) dig dig_mem]
  by_cases c3 : (bodyN cs).all dig = true
  · rw [if_pos c3]
    simp only [Out.nx_then]
    rw [head_at hb (by decide) (by omega), lit_0, neR_str h.ok (lit_ok (tS [48]) 1 (by decide)).ok]
    simp only [tS_inj]
    rw [hbad, decide_eq_false c1', decide_eq_false c2, c3]
    simp only [Bool.false_or, Bool.not_true]
    have hl : (tS cs).length ≤ 640 := h.1
    cases q : ((bodyN cs).head? == some 48 && !decide (cs = [48])) with
    | true =>
      simp only [Bool.and_eq_true] at q
      rw [q.1, q.2]; rfl
    | false =>
      have e : andR (Res.ok ((bodyN cs).head? == some 48)) (Res.ok (!decide (cs = [48]))) = .ok false := by
        rw [← q]
        cases (bodyN cs).head? == some 48 <;> rfl
      rw [e, gd_t (decide_eq_true hl)]
      have hd := digits_of_all c3
      have : intText? (tS cs) = some (valN cs) := by
        unfold valN
        by_cases hm : cs.take 1 = [45]
        · have hbd : bodyN cs = cs.drop 1 := if_pos hm
          have hcs : cs = 45 :: bodyN cs := by
            rw [hbd]
            cases cs with
            | nil => simp at hm
            | cons c l =>
              simp only [List.take_succ_cons, List.take_zero, List.cons.injEq, and_true] at hm
              rw [hm]; rfl
          rw [if_pos hm, intText_neg (x := tS cs) (cs := bodyN cs) hcs hd c1 (by omega)]
          congr 1
          omega
        · have hbd : bodyN cs = cs := if_neg hm
          rw [if_neg hm]
          rw [hbd] at hd c1 ⊢
          exact intText_digits (x := tS cs) hd c1 (by omega)
      rw [this]; rfl
  · rw [if_neg c3, if_pos (by rw [hbad, Bool.eq_false_iff.mpr c3]; simp)]; rfl
def letter (c : Nat) : Bool := decide (97 ≤ c) && decide (c ≤ 122)
theorem let_mem (c : Nat) : c ∈ ("abcdefghijklmnopqrstuvwxyz" : Str).cps.toList ↔ letter c = true := by
  rw [show ("abcdefghijklmnopqrstuvwxyz" : Str).cps.toList = [97, 98, 99, 100, 101, 102, 103, 104, 105, 106, 107, 108, 109, 110, 111, 112, 113, 114, 115, 116, 117, 118, 119, 120, 121, 122] from by decide]
  unfold letter
  simp only [List.mem_cons, List.not_mem_nil, or_false, Bool.and_eq_true, decide_eq_true_eq]
  omega
def badL (cs : List Nat) : Bool := decide (cs.length < 1) || decide (8 < cs.length) || !cs.all letter
/-- read_name -/
def RM (n : Nat) (a0 : Str) : Out Unit Unit Str Unit :=
  (orR (eqR (PyData.str a0) (PyData.str ("" : Str))) ((gd (decide (a0.length ≤ sizeLine)) (Res.ok (a0.length : Int)) >>= fun x201 => (Res.ok (decide (8 < x201)))))).to () fun b202 => cond b202
  (.exc ⟨n, []⟩ ())
  ((Res.ok a0).to () fun l205 => (loopO (fun (x204 : Str) (s203 : Unit) =>
  ((chNin x204 ("abcdefghijklmnopqrstuvwxyz" : Str)).to () fun b206 => cond b206
  (.exc ⟨n, []⟩ ())
  (.nx ()))) (signs l205) ()).then fun s203 : Unit =>
  (Res.ok a0).to () fun r207 => .rt r207)
theorem RM_eq (n : Nat) (cs : List Nat) (h : tOk 640 (tS cs)) : RM n (tS cs) = if badL cs = true then .exc ⟨n, []⟩ () else .rt (tS cs) := by
  unfold RM
  rw [lit_e, eqR_str h.ok (lit_ok (tS []) 0 (by decide)).ok, gd_t (sl_of h), tS_len]
  simp only [tS_inj, Res.ok_bind]
  have hbad : badL cs = (decide (cs.length < 1) || decide (8 < cs.length) || !cs.all letter) := rfl
  by_cases c1 : cs = []
  · rw [decide_eq_true c1, if_pos (by rw [hbad, c1]; rfl)]; rfl
  rw [decide_eq_false c1]
  have c1' : ¬ cs.length < 1 := by
    intro z
    exact c1 (List.length_eq_zero_iff.mp (by omega))
  by_cases c2 : 8 < cs.length
  · rw [if_pos (by rw [hbad, decide_eq_true c2]; simp), decide_eq_true (show (8 : Int) < cs.length by omega)]; rfl
  rw [decide_eq_false (show ¬ (8 : Int) < cs.length by omega)]
  simp only [orR_f, Res.ok_to, cond_false]
  rw [loop9 ("abcdefghijklmnopqrstuvwxyz" : Str) letter let_mem, hbad, decide_eq_false c1', decide_eq_false c2]
  cases cs.all letter <;> rfl
theorem num_ok (i : Int) (h : i.natAbs.log2 < 1920) : tOk 1921 (toString i : Str) := by
  refine ⟨PyProof.Rows.int_text_len_1921 h, fun c hc => ?_⟩
  rcases Nat.lt_or_ge c 128 with q | q
  · exact q
  · exact absurd hc (PyProof.Rows.int_text_free' c ⟨by omega, .inr (by omega)⟩ i)
theorem int_codes (i : Int) : (toString i : Str).cps.toList = if i < 0 then 45 :: TL.numL i.natAbs else TL.numL i.natAbs := by
  cases i with
  | ofNat n =>
    rw [if_neg (show ¬ (Int.ofNat n) < 0 from Int.not_lt.mpr (Int.natCast_nonneg n))]
    exact TL.tl_num n
  | negSucc n =>
    rw [if_pos (Int.negSucc_lt_zero n)]
    have h : (toString (Int.negSucc n) : String) = "-" ++ toString ((n + 1 : Nat) : Int) := rfl
    have h2 : (Str.ofString (toString (Int.negSucc n))).cps.toList = 45 :: (Str.ofString (toString ((n + 1 : Nat) : Int))).cps.toList := by
      rw [h, PySem.Str.ofString_eq_toList, PySem.Str.ofString_eq_toList, String.toList_append, List.map_append]
      rfl
    rw [h2]
    congr 1
    exact TL.tl_num (n + 1)
theorem numL_head {n : Nat} (h : (TL.numL n).head? = some 48) : n = 0 := by
  induction n using Nat.strongRecOn with
  | ind n ih =>
    by_cases hn : n < 10
    · rw [TL.numL_lt hn] at h
      simp at h
      omega
    · rw [TL.numL_step (by omega)] at h
      have : (TL.numL (n / 10)).head? = some 48 := by
        cases q : TL.numL (n / 10) with
        | nil => exact absurd q (TL.numL_ne _)
        | cons c l => rw [q] at h; exact h
      have := ih (n / 10) (by omega) this
      omega
theorem all_dig {l : List Nat} (h : NumText.AllDigits l) : l.all dig = true := List.all_eq_true.mpr fun c hc => by
  have := h c hc
  unfold dig
  simpa using this
/-- a number's text is read back -/
theorem num_good (i : Int) (h : i.natAbs < 10 ^ 60) : badN (toString i : Str).cps.toList = false ∧ valN (toString i : Str).cps.toList = i := by
  rw [int_codes]
  have hl := TL.numL_len (n := i.natAbs) (k := 60) (by decide) h
  have hd := all_dig (TL.numL_digits i.natAbs)
  have hv := TL.numL_val i.natAbs
  have hne := TL.numL_ne i.natAbs
  have h1 : ¬ (TL.numL i.natAbs).length < 1 := fun z => hne (List.length_eq_zero_iff.mp (by omega))
  by_cases hi : i < 0
  · rw [if_pos hi]
    have hb : bodyN (45 :: TL.numL i.natAbs) = TL.numL i.natAbs := if_pos rfl
    refine ⟨?_, ?_⟩
    · unfold badN
      rw [hb, decide_eq_false h1, decide_eq_false (by omega), hd, decide_eq_false (by intro z; cases z)]
      cases q : ((TL.numL i.natAbs).head? == some 48) with
      | false => rfl
      | true => have := numL_head (eq_of_beq q); omega
    · unfold valN
      rw [hb, if_pos (show (45 :: TL.numL i.natAbs).take 1 = [45] from rfl), hv]
      omega
  · rw [if_neg hi]
    have ht : ¬ (TL.numL i.natAbs).take 1 = [45] := fun z => by
      cases q : TL.numL i.natAbs with
      | nil => exact hne q
      | cons c l =>
        have hc := TL.numL_digits i.natAbs c (by rw [q]; exact List.mem_cons_self)
        rw [q] at z
        simp at z
        omega
    have hb : bodyN (TL.numL i.natAbs) = TL.numL i.natAbs := if_neg ht
    refine ⟨?_, ?_⟩
    · unfold badN
      rw [hb, decide_eq_false h1, decide_eq_false (by omega), hd]
      cases q : ((TL.numL i.natAbs).head? == some 48) with
      | false => rfl
      | true =>
        have := numL_head (eq_of_beq q)
        rw [this]
        decide
    · unfold valN
      rw [hb, if_neg ht, hv]
      omega
end Q
/-! Q30: dicts by ints or texts. -/
namespace Q
open PySem L2 PySem.Spec
/-- the keys of a kind -/
class KeyC (κ : Type) where
  kk : κ → Key
  inj : ∀ {a b : κ}, kk a = kk b → a = b
instance : KeyC Int := ⟨Sum.inl, fun h => Sum.inl.inj h⟩
instance : KeyC Str := ⟨Sum.inr, fun h => Sum.inr.inj h⟩
/-- the view of a key -/
class KeyV (κ : Type) [KeyC κ] (τk : outParam (κ → Vw)) : Prop where
  kv : ∀ x H v, (τk x).rel H v → v = kV (KeyC.kk x)
  vk : ∀ x H, (τk x).rel H (kV (KeyC.kk x))
instance : KeyV Int vInt := ⟨fun x H v h => h, fun x H => rfl⟩
instance : KeyV Str vStr := ⟨fun x H v h => h, fun x H => rfl⟩
section
variable {κ α β γ ν ν' ρ ξ : Type} [DecidableEq κ]
def dget (kvs : List (κ × α)) (k : κ) : Option α := (kvs.find? fun p => decide (p.1 = k)).map (·.2)
def dput (kvs : List (κ × α)) (k : κ) (v : α) : List (κ × α) := if (kvs.any fun p => decide (p.1 = k)) = true then kvs.map (fun p => if p.1 = k then (p.1, v) else p) else kvs ++ [(k, v)]
def dmerge (kvs more : List (κ × α)) : List (κ × α) := more.foldl (fun acc p => dput acc p.1 p.2) kvs
end
section
variable {κ α β : Type} [DecidableEq κ]
theorem map_if_set {v : α} {k : κ} : ∀ {l : List (κ × α)} {n : Nat} {x : α}, (l.map (·.1)).Nodup → l[n]? = some (k, x) → l.map (fun p => if p.1 = k then (p.1, v) else p) = l.set n (k, v)
  | [], _, _, _, h => by simp at h
  | p :: l, 0, x, nd, h => by
    simp only [List.getElem?_cons_zero, Option.some.injEq] at h
    subst h
    simp only [List.map_cons, List.nodup_cons] at nd
    rw [List.map_cons, if_pos rfl, List.set_cons_zero]
    congr 1
    have : ∀ q ∈ l, (if q.1 = k then (q.1, v) else q) = q := fun q hq => if_neg fun z => nd.1 (List.mem_map.mpr ⟨q, hq, z⟩)
    rw [List.map_congr_left this, List.map_id']
  | p :: l, n + 1, x, nd, h => by
    simp only [List.getElem?_cons_succ] at h
    simp only [List.map_cons, List.nodup_cons] at nd
    have ne : ¬ p.1 = k := fun z => nd.1 (List.mem_map.mpr ⟨(k, x), List.mem_of_getElem? h, z.symm⟩)
    rw [List.map_cons, if_neg ne, List.set_cons_succ, map_if_set nd.2 h]
theorem dget_at {kvs : List (κ × α)} {k : κ} {x : α} (h : dget kvs k = some x) : ∃ n : Nat, kvs[n]? = some (k, x) := by
  unfold dget at h
  cases e : kvs.find? fun p => decide (p.1 = k) with
  | none => rw [e] at h; cases h
  | some p =>
    rw [e] at h
    cases h
    have h1 := List.find?_some e
    have h2 := List.mem_of_find?_eq_some e
    obtain ⟨n, hn⟩ := List.mem_iff_getElem?.mp h2
    exact ⟨n, by rw [hn, ← of_decide_eq_true h1]⟩
theorem dget_any {kvs : List (κ × α)} {k : κ} : (kvs.any fun p => decide (p.1 = k)) = (dget kvs k).isSome := by
  induction kvs with
  | nil => rfl
  | cons p l ih =>
    rw [List.any_cons]
    unfold dget
    rw [List.find?_cons]
    by_cases h : p.1 = k
    · rw [decide_eq_true h]; rfl
    · rw [decide_eq_false h, Bool.false_or, ih]; rfl
theorem dput_pres {kvs : List (κ × α)} {k : κ} {x y : α} (h : dget kvs k = some x) : dput kvs k y = kvs.map (fun p => if p.1 = k then (p.1, y) else p) := by
  unfold dput
  rw [if_pos (by rw [dget_any, h]; rfl)]
theorem dput_abs {kvs : List (κ × α)} {k : κ} {y : α} (h : dget kvs k = none) : dput kvs k y = kvs ++ [(k, y)] := by
  unfold dput
  rw [if_neg (by rw [dget_any, h]; simp)]
theorem dput_keys {kvs : List (κ × α)} {k : κ} {x y : α} (h : dget kvs k = some x) : (dput kvs k y).map (·.1) = kvs.map (·.1) := by
  rw [dput_pres h, List.map_map]
  refine List.map_congr_left fun p _ => ?_
  show (if p.1 = k then (p.1, y) else p).1 = p.1
  split <;> rfl
theorem dget_none_keys {kvs : List (κ × α)} {k : κ} (h : dget kvs k = none) : k ∉ kvs.map (·.1) := fun z => by
  obtain ⟨p, hp, e⟩ := List.mem_map.mp z
  have : (kvs.any fun p => decide (p.1 = k)) = true := List.any_eq_true.mpr ⟨p, hp, decide_eq_true e⟩
  rw [dget_any, h] at this
  cases this
theorem nodup_dput {kvs : List (κ × α)} {k : κ} {y : α} (nd : (kvs.map (·.1)).Nodup) : ((dput kvs k y).map (·.1)).Nodup := by
  cases h : dget kvs k with
  | some x => rw [dput_keys h]; exact nd
  | none =>
    rw [dput_abs h, List.map_append]
    exact List.nodup_append.mpr ⟨nd, by simp, fun a ha b hb e => by
      simp only [List.map_cons, List.map_nil, List.mem_singleton] at hb
      exact dget_none_keys h (by rw [← hb, ← e]; exact ha)⟩
def ddrop (kvs : List (κ × α)) (k : κ) : List (κ × α) := kvs.filter fun p => decide (p.1 ≠ k)
end
/-- a thing of which something holds besides -/
def vN (P : Prop) (w : Vw) : Vw := ⟨fun B v => P ∧ w.rel B v, fun e h => ⟨h.1, w.mono e h.2⟩, fun e h => ⟨h.1, w.lk e h.2⟩⟩
def oN (P : Prop) (o : Ow) : Ow where
  rel := fun B H v fp => P ∧ o.rel B H v fp
  mono := fun e n h => ⟨h.1, o.mono e n h.2⟩
  al := fun h => o.al h.2
  nt := fun h => o.nt h.2
  lk := fun e n h => ⟨h.1, o.lk e n h.2⟩
  vw := vN P o.vw
  sub := fun e n h => ⟨h.1, o.sub e n h.2⟩
section
variable {T : Tb} {cs : List Nat} {C : Kc} {Γ : Cx0} {κ α β γ ν ν' ρ ξ : Type} [KeyC κ] [DecidableEq κ]
def vD (τ : α → Vw) (kvs : List (κ × α)) : Vw := vN (kvs.map (·.1)).Nodup (vDc (kvs.map fun p => (KeyC.kk p.1, τ p.2)))
abbrev dO (τ : α → Ow) (kvs : List (κ × α)) : List (Key × Ow) := kvs.map fun p => (KeyC.kk p.1, τ p.2)
/-- an own dict, no key twice -/
def oDO (τ : α → Ow) (kvs : List (κ × α)) : Ow := oN (kvs.map (·.1)).Nodup (oDc (dO τ kvs))
instance {τ : α → Ow} {w : α → Vw} [i : OwV τ w] : OwV (fun kvs : List (κ × α) => oDO τ kvs) (fun kvs => vD w kvs) := ⟨fun kvs => by
  show vN _ (vDc ((kvs.map fun p => (KeyC.kk p.1, τ p.2)).map fun q => (q.1, q.2.vw))) = vN _ (vDc (kvs.map fun p => (KeyC.kk p.1, w p.2)))
  rw [List.map_map]
  congr 2
  refine List.map_congr_left fun p _ => ?_
  show (KeyC.kk p.1, (τ p.2).vw) = _
  rw [i.eq]⟩
abbrev oD (τ : α → Vw) (kvs : List (κ × α)) : Ow := oDO (fun x => oV (τ x)) kvs
abbrev DRel (B : Hp) (τ : α → Vw) (vs : List (Key × V)) (kvs : List (κ × α)) : Prop := VwF B vs (kvs.map fun p => (KeyC.kk p.1, τ p.2))
theorem kk_iff {a b : κ} : decide (KeyC.kk a = KeyC.kk b) = decide (a = b) := by
  by_cases h : a = b
  · rw [h, decide_eq_true rfl, decide_eq_true rfl]
  · rw [decide_eq_false h, decide_eq_false fun z => h (KeyC.inj z)]
theorem drel_get {H : Hp} {τ : α → Vw} (k : κ) : ∀ {vs : List (Key × V)} {kvs : List (κ × α)}, DRel H τ vs kvs → (valV vs (KeyC.kk k) = none ∧ dget kvs k = none) ∨ ∃ v x, valV vs (KeyC.kk k) = some v ∧ dget kvs k = some x ∧ (τ x).rel H v
  | _, [], .nil => .inl ⟨rfl, rfl⟩
  | (k', v) :: vs, (j, x) :: kvs, .cons h l => by
    have e : k' = KeyC.kk j := h.1
    by_cases q : j = k
    · right
      exact ⟨v, x, valV_pos (by rw [e, q]), by unfold dget; rw [List.find?_cons, decide_eq_true q]; rfl, h.2⟩
    · have n : ¬ k' = KeyC.kk k := fun z => q (KeyC.inj (e.symm.trans z))
      have dn : dget ((j, x) :: kvs) k = dget kvs k := by unfold dget; rw [List.find?_cons, decide_eq_false q]
      rcases drel_get k l with ⟨h1, h2⟩ | ⟨w, y, h1, h2, h3⟩
      · exact .inl ⟨by rw [show valV ((k', v) :: vs) (KeyC.kk k) = valV vs (KeyC.kk k) from valV_neg n]; exact h1, by rw [dn]; exact h2⟩
      · exact .inr ⟨w, y, by rw [show valV ((k', v) :: vs) (KeyC.kk k) = valV vs (KeyC.kk k) from valV_neg n]; exact h1, by rw [dn]; exact h2, h3⟩
theorem drel_len {H : Hp} {τ : α → Vw} {vs : List (Key × V)} {kvs : List (κ × α)} (h : DRel H τ vs kvs) : vs.length = kvs.length := by
  have := Paired.length h
  rw [List.length_map] at this
  exact this
theorem drel_any {H : Hp} {τ : α → Vw} (k : κ) : ∀ {vs : List (Key × V)} {kvs : List (κ × α)}, DRel H τ vs kvs → (vs.any fun p => decide (p.1 = KeyC.kk k)) = kvs.any fun p => decide (p.1 = k)
  | _, [], .nil => rfl
  | (k', v) :: vs, (j, x) :: kvs, .cons h l => by
    have e : k' = KeyC.kk j := h.1
    rw [List.any_cons, List.any_cons, drel_any k l]
    show (decide (k' = KeyC.kk k) || _) = (decide (j = k) || _)
    rw [e, kk_iff]
theorem drel_snoc {H : Hp} {τ : α → Vw} {k : κ} {u : V} {y : α} (hu : (τ y).rel H u) : ∀ {vs : List (Key × V)} {kvs : List (κ × α)}, DRel H τ vs kvs → DRel H τ (vs ++ [(KeyC.kk k, u)]) (kvs ++ [(k, y)])
  | _, [], .nil => .cons ⟨rfl, hu⟩ .nil
  | p :: vs, q :: kvs, .cons h l => .cons h (drel_snoc hu l)
theorem drel_set {H : Hp} {τ : α → Vw} {k : κ} {u : V} {y : α} (hu : (τ y).rel H u) : ∀ {vs : List (Key × V)} {kvs : List (κ × α)}, DRel H τ vs kvs → DRel H τ (vs.map fun p => if p.1 = KeyC.kk k then (p.1, u) else p) (kvs.map fun p => if p.1 = k then (p.1, y) else p)
  | _, [], .nil => .nil
  | (k', v) :: vs, (j, x) :: kvs, .cons h l => by
    have e : k' = KeyC.kk j := h.1
    refine .cons ?_ (drel_set hu l)
    show (if k' = KeyC.kk k then (k', u) else (k', v)).1 = KeyC.kk (if j = k then (j, y) else (j, x)).1 ∧ (τ (if j = k then (j, y) else (j, x)).2).rel H (if k' = KeyC.kk k then (k', u) else (k', v)).2
    by_cases q : j = k
    · rw [if_pos (show (j, x).1 = k from q), if_pos (show (k', v).1 = KeyC.kk k by show k' = _; rw [e, q])]
      exact ⟨e, hu⟩
    · rw [if_neg (show ¬ (j, x).1 = k from q), if_neg (show ¬ (k', v).1 = KeyC.kk k from fun z => q (KeyC.inj (e.symm.trans z)))]
      exact h
theorem drel_put {H : Hp} {τ : α → Vw} {k : κ} {u : V} {y : α} (hu : (τ y).rel H u) {vs : List (Key × V)} {kvs : List (κ × α)} (h : DRel H τ vs kvs) : DRel H τ (putK vs (KeyC.kk k) u) (dput kvs k y) := by
  unfold putK dput
  rw [drel_any k h]
  split
  · exact drel_set hu h
  · exact drel_snoc hu h
theorem drel_merge {H : Hp} {τ : α → Vw} : ∀ {ws : List (Key × V)} {more : List (κ × α)}, DRel H τ ws more → ∀ {vs : List (Key × V)} {kvs : List (κ × α)}, DRel H τ vs kvs → DRel H τ (mergeK vs ws) (dmerge kvs more)
  | _, [], .nil, _, _, h => h
  | (k', v) :: ws, (j, x) :: more, .cons g l, vs, kvs, h => by
    have e : k' = KeyC.kk j := g.1
    subst e
    have g2 : (τ x).rel H v := g.2
    exact drel_merge l (drel_put (k := j) g2 h)
theorem owf_inv {τ : α → Vw} {B H : Hp} {kvs : List (κ × α)} {vs : List (Key × V)} {f : List Addr} (h : OwF B H vs (kvs.map fun p => (KeyC.kk p.1, oV (τ p.2))) f) : DRel B τ vs kvs ∧ f = [] := by
  obtain ⟨h1, h2⟩ := h
  rw [List.map_map] at h1 h2
  obtain ⟨k1, k2⟩ := owl_oV_inv (xs := kvs) (τ := fun p => τ p.2) h2
  refine ⟨vwF_of (by rw [h1, List.map_map]; rfl) ?_, k2⟩
  rw [List.map_map]
  exact k1
theorem owf_of {τ : α → Vw} {B H : Hp} {kvs : List (κ × α)} {vs : List (Key × V)} (h : DRel B τ vs kvs) : OwF B H vs (kvs.map fun p => (KeyC.kk p.1, oV (τ p.2))) [] := by
  have key : ∀ {vs : List (Key × V)} {kvs : List (κ × α)}, DRel B τ vs kvs → vs.map (·.1) = kvs.map (fun p => KeyC.kk p.1) ∧ VwL B (vs.map (·.2)) (kvs.map fun p => τ p.2) := fun {vs kvs} => by
    induction kvs generalizing vs with
    | nil => intro h; cases h; exact ⟨rfl, .nil⟩
    | cons p kvs ih =>
      intro h
      cases h with
      | cons a l =>
        obtain ⟨i1, i2⟩ := ih l
        exact ⟨by rw [List.map_cons, List.map_cons, i1, a.1], .cons a.2 i2⟩
  obtain ⟨k1, k2⟩ := key h
  refine ⟨by rw [k1, List.map_map]; rfl, ?_⟩
  rw [List.map_map]
  exact owl_oV' k2
/-- {} -/
theorem ev_dctD {τ : α → Vw} : EvO T C Γ .dct (fun kvs : List (κ × α) => oD τ kvs) (.ok []) := fun W σ B H Q c z => fun p hp => by
  have hpB := none_back c.sub hp
  exact z (.ref p) B _ ⟨sm_refl _, sm_new hp, sm_trans c.sub (sm_new hp), newB_refl _ _⟩ ⟨[p], ⟨List.nodup_nil, p, [], [], rfl, upd_same, ⟨rfl, rfl⟩, rfl⟩, by simp, fun a ha => by
    rw [List.mem_singleton.mp ha]; exact ⟨hp, hpB⟩⟩
/-- d.get(k, z) -/
theorem ev_dget {d ke ze : E} {τk : κ → Vw} [KeyV κ τk] {τ : α → Vw} {md : Res (List (κ × α))} {mk : Res κ} {mz : Res α} (hd : EvB T C Γ d (fun kvs => vD τ kvs) md) (hk : EvB T C Γ ke τk mk) (hz : EvB T C Γ ze τ mz) :
    EvB T C Γ (.dget d ke ze) τ (md >>= fun kvs => mk >>= fun k => mz >>= fun z => .ok ((dget kvs k).getD z)) := fun W σ B H Q g z => by
  show (tDGet2 _ _ _) σ H Q
  refine hd W σ B H _ g (rz_imp (rz_bind.mp z) (fun kvs z v B1 H1 g1 p1 => ?_) fun _ z => z)
  obtain ⟨nd, p, vs, rfl, h2, h3⟩ := p1
  refine ⟨p, rfl, .inl ⟨vs, h2⟩, ?_⟩
  refine hk W σ B1 H1 _ (g.up g1.b g1.h g1.s) (rz_imp (rz_bind.mp z) (fun k z u B2 H2 g2 p2 => ?_) fun _ z => z.up g1.h)
  refine hz W σ B2 H2 _ (g.up (g1.trans g2).b (g1.trans g2).h g2.s) (rz_imp (rz_bind.mp z) (fun y z w B3 H3 g3 p3 => ?_) fun _ z => z.up (g1.trans g2).h)
  have s13 := sm_trans g2.h g3.h
  refine ⟨_, .inl ⟨vs, KeyC.kk k, sm_rd s13 h2, KeyV.kv k H2 u p2, rfl⟩, z _ B3 H3 ((g1.trans g2).trans g3) ?_⟩
  rcases drel_get k (h3.mono s13) with ⟨e1, e2⟩ | ⟨v, x, e1, e2, r⟩
  · rw [e1, e2]; exact p3
  · rw [e1, e2]; exact r
theorem ev_dgetP {d ke ze : E} {τk : κ → Vw} [KeyV κ τk] {τ : α → Vw} {kvs : List (κ × α)} {k : κ} {z : α} (hd : EvB T C Γ d (fun kvs => vD τ kvs) (.ok kvs)) (hk : EvB T C Γ ke τk (.ok k)) (hz : EvB T C Γ ze τ (.ok z)) : EvB T C Γ (.dget d ke ze) τ (.ok ((dget kvs k).getD z)) := ev_dget hd hk hz
theorem evb_post {D : Ds ν β ρ ξ} {e : E} {τ : α → Vw} {m : Res α} {x0 : ξ} {k : α → Out ν β ρ ξ} (h : EvB T C Γ e τ m) (w : Wk Γ (D.x x0)) {W : WX} {E : Ends} {σ : L2.St} {B Z H : Hp} {fp : List Addr} {Q : VK} (o : Oks Γ σ B Z H fp) (p : Post C D (m.to x0 k) W E B Z)
    (q : ∀ x v B' H', Gon B H B' H' → (τ x).rel H' v → Oks Γ σ B' Z H' fp → Post C D (k x) W E B' Z → Q v H') : (rd T C e W).E σ H Q := by
  refine h W σ B H Q o.envC ?_
  cases m with
  | ok x => exact fun v B' H' g r => q x v B' H' g r (o.gon g) (p.up (g.gz o.z))
  | exc e =>
    intro cls d H' s r
    exact exc_post o w p s r
  | bad => exact p
/-- k in d -/
theorem op_inD' {τk : κ → Vw} [KeyV κ τk] {τ : α → Vw} : Op2 (rCmp C.K .In) τk (fun kvs : List (κ × α) => vD τ kvs) (pB vBl) fun k kvs => .ok (dget kvs k).isSome where
  no := fun _ _ => nox_ok
  run := fun k kvs B H v w Q s h1 ⟨_, p, vs, h2, h3, h4⟩ q => by
    refine .inr (.inr (.inl ⟨p, valV vs (KeyC.kk k), h2, .inl ⟨vs, KeyC.kk k, h3, KeyV.kv k H v h1, rfl⟩, say_ok s q ?_⟩))
    rcases drel_get k h4 with ⟨e1, e2⟩ | ⟨v, x, e1, e2, r⟩ <;> (rw [e1, e2]; rfl)
theorem op_ninD' {τk : κ → Vw} [KeyV κ τk] {τ : α → Vw} : Op2 (rCmp C.K .NotIn) τk (fun kvs : List (κ × α) => vD τ kvs) (pB vBl) fun k kvs => .ok (!(dget kvs k).isSome) where
  no := fun _ _ => nox_ok
  run := fun k kvs B H v w Q s h1 ⟨_, p, vs, h2, h3, h4⟩ q => by
    refine .inr (.inr (.inl ⟨p, valV vs (KeyC.kk k), h2, .inl ⟨vs, KeyC.kk k, h3, KeyV.kv k H v h1, rfl⟩, say_ok s q ?_⟩))
    rcases drel_get k h4 with ⟨e1, e2⟩ | ⟨v, x, e1, e2, r⟩ <;> (rw [e1, e2]; rfl)
/-- list(d.items()) of an own dict: the pairs are frozen -/
theorem ev_items {i : Nat} {q : V → Prop} {τk : κ → Vw} [KeyV κ τk] {τ : α → Vw} {kvs : List (κ × α)} {ws : κ × α → Vw} (hw : ∀ p, ws p = vTup C [τk p.1, τ p.2]) (hi : Γ[i]? = some (some (oQ q (oD τ kvs)))) : EvO T C Γ (.ditm (.var i)) (oL C fun p => oV (ws p)) (.ok kvs) := fun W σ B H Q g z => by
  obtain ⟨v, f, h1, qv, nd, l, vs, f0, rfl, hl, ho, rfl⟩ := g.get i _ hi
  obtain ⟨h2, _⟩ := owf_inv ho
  refine ⟨.ref l, h1, l, vs, rfl, hl, fun H' p ts k1 k2 k3 k4 k5 k6 => ?_⟩
  have sH : Same H H' := k1
  let B' : Hp := fun a => if a ∈ ts then H' a else B a
  have bi : ∀ a, a ∈ ts → B' a = H' a := fun a ha => if_pos ha
  have bo : ∀ a, a ∉ ts → B' a = B a := fun a ha => if_neg ha
  have sB : Same B B' := fun a u e => by
    rw [bo a fun z => by have := g.sub a u e; rw [k3 a z] at this; cases this]; exact e
  have sBH : Same B' H' := fun a u e => by
    by_cases ha : a ∈ ts
    · rw [bi a ha] at e; exact e
    · rw [bo a ha] at e; exact sH a u (g.sub a u e)
  have key : ∀ {ts' : List Addr} {vs' : List (Key × V)} {ls : List (κ × α)}, (∀ t ∈ ts', t ∈ ts) → Paired (fun (t : Addr) (q : Key × V) => H' t = some (.tup [kV q.1, q.2])) ts' vs' → DRel B τ vs' ls → VwL B' (ts'.map V.ref) (ls.map ws) := fun {ts' vs' ls} => by
    induction ls generalizing ts' vs' with
    | nil => intro _ a b; cases b; cases a; exact .nil
    | cons x ls ih =>
      intro m a b
      cases b with
      | cons b1 b2 =>
        cases a with
        | cons a1 a2 =>
          refine .cons ?_ (ih (fun t ht => m t (List.mem_cons_of_mem _ ht)) a2 b2)
          rw [hw]
          refine ⟨_, _, rfl, SqT.of (by rw [bi _ (m _ List.mem_cons_self)]; exact a1), .cons ?_ (.cons ((τ x.2).mono sB b1.2) .nil)⟩
          rw [b1.1]
          exact KeyV.vk x.1 B'
  have pB : B' p = none := by
    rw [bo p k4]
    exact none_back g.sub k2
  refine z (.ref p) B' H' ⟨sB, sH, sBH, fun a u e => ?_⟩ ⟨[p], ⟨p, ts.map V.ref, [], rfl, k5, owl_oV' (key (fun t ht => ht) k6 h2), rfl⟩, by simp, fun a ha => ?_⟩
  · by_cases ha : a ∈ ts
    · exact .inr (.inl (k3 a ha))
    · rw [bo a ha] at e; exact .inl e
  · rw [List.mem_singleton.mp ha]; exact ⟨k2, pB⟩
theorem nodup_merge : ∀ {more kvs : List (κ × α)}, (kvs.map (·.1)).Nodup → ((dmerge kvs more).map (·.1)).Nodup
  | [], _, h => h
  | p :: more, kvs, h => nodup_merge (more := more) (nodup_dput (k := p.1) (y := p.2) h)
/-- dict(pairs) -/
theorem bl_dictP {τk : κ → Vw} [KeyV κ τk] {τ : α → Vw} {ws : κ × α → Vw} (hw : ∀ p, ws p = vTup C [τk p.1, τ p.2]) {e : E} {m : Res (List (κ × α))} (h : EvO T C Γ e (fun xs => oV (vL C ws xs)) m) : EvO T C Γ (.blt .dict (.cons e .nil)) (fun kvs : List (κ × α) => oD τ kvs) (m >>= fun ps => .ok (dmerge [] ps)) := fun W σ B H Q g z => by
  show (rd T C e W).E σ H _
  refine h W σ B H _ g (rz_imp (rz_bind.mp z) (fun ps z v B1 H1 g1 ⟨fp, ⟨⟨p, vs, hv, h2, h3⟩, _⟩, _, _⟩ => ?_) fun _ z => z)
  subst hv
  have key : ∀ {vs : List V} {ls : List (κ × α)}, VwL B1 vs (ls.map ws) → ∃ (ts : List Addr) (kvs : List (Key × V)), vs = ts.map V.ref ∧ Paired (fun t kv => SqT C.K H1 t [kV kv.1, kv.2]) ts kvs ∧ DRel B1 τ kvs ls := fun {vs ls} => by
    induction ls generalizing vs with
    | nil => intro a; cases a; exact ⟨[], [], rfl, .nil, .nil⟩
    | cons x ls ih =>
      intro a
      cases a with
      | cons a1 a2 =>
        obtain ⟨ts, kvs, e1, e2, e3⟩ := ih a2
        rw [hw] at a1
        obtain ⟨t, us, rfl, u1, u2⟩ := a1
        cases u2 with
        | cons b1 b2 =>
          cases b2 with
          | cons c1 c2 =>
            cases c2
            have e0 := KeyV.kv x.1 B1 _ b1
            subst e0
            exact ⟨t :: ts, (KeyC.kk x.1, _) :: kvs, by rw [e1]; rfl, .cons (sm_sqT g1.s u1) e2, .cons ⟨rfl, c1⟩ e3⟩
  obtain ⟨ts, kvs, e1, e2, e3⟩ := key h3
  refine .inr ⟨p, ts, kvs, rfl, by rw [← e1]; exact sm_sqL g1.s h2, e2, fun q hq => ?_⟩
  have hqB := none_back g1.s hq
  refine z (.ref q) B1 _ ⟨g1.b, sm_trans g1.h (sm_new hq), sm_trans g1.s (sm_new hq), g1.n⟩ ⟨[q], ⟨nodup_merge List.nodup_nil, q, mergeK [] kvs, [], rfl, upd_same, owf_of (drel_merge e3 .nil), rfl⟩, by simp, fun a ha => ?_⟩
  rw [List.mem_singleton.mp ha]
  exact ⟨none_back g1.h hq, hqB⟩
theorem bl_dictPP {τk : κ → Vw} [KeyV κ τk] {τ : α → Vw} {ws : κ × α → Vw} (hw : ∀ p, ws p = vTup C [τk p.1, τ p.2]) {e : E} {x : List (κ × α)} (h : EvO T C Γ e (fun xs => oV (vL C ws xs)) (.ok x)) : EvO T C Γ (.blt .dict (.cons e .nil)) (fun kvs : List (κ × α) => oD τ kvs) (.ok (dmerge [] x)) := bl_dictP hw h
end
end Q
/-! Q31: errors with fields: made, raised, read. -/
namespace Q
open PySem L2 PySem.Spec
/-- self.f = a, one field behind another -/
def ostB : List (Str × Nat) → S
  | [] => .nop
  | p :: r => .seq (.ost (.var 0) p.1 (.var p.2)) (ostB r)
/-- __init__: the base's by name with a text, then the fields -/
def iniB (c : Nat) (msg : Str) (fs : List (Str × Nat)) : S := .seq (.vini c (.cons (.var 0) (.cons (.str msg) .nil))) (ostB fs)
def fsAcc (vs : List V) : List (Str × Nat) → List (Str × V) → List (Str × V)
  | [], acc => acc
  | p :: r, acc => fsAcc vs r ((p.1, vs.getD (p.2 - 1) .non) :: acc)
/-- the fields, the last first -/
def fsOf (fs : List (Str × Nat)) (vs : List V) : List (Str × V) := fsAcc vs fs []
structure IniOk (T : Tb) (C : Kc) (c n : Nat) (fs : List (Str × Nat)) : Prop where
  ar : (T.f (T.ini c)).ar = n + 1
  run : ∀ (vs : List V) (a : Addr) (H : Hp) (Q : VK) (E : XK), vs.length = n → H a = none →
    (∀ d H2, H2 a = some (exo a (C.cl c) (some d)) → H2 d = some (exd d (fsOf fs vs)) → H d = none → d ≠ a → (∀ b, b ≠ a → b ≠ d → H2 b = H b) → Q .non H2) → (T.f (T.ini c)).sp C (.ref a :: vs) (upd H a (exo a (C.cl c) none)) Q E
section
variable {T : Tb} {cs : List Nat} {C : Kc} {Γ : Cx0} {α β γ κ ν ρ ξ : Type}
theorem ost_more {C : Kc} {c : Nat} {a : Addr} {vs : List V} {N : Nat} {W : WX} {E : Ends} (oc : OexC C.K (C.cl c)) : ∀ (r : List (Str × Nat)) (acc : List (Str × V)) (d : Addr) (H2 : Hp), d ≠ a → (∀ p ∈ r, PySem.W.findIn C.K (.ref (C.cl c)) p.1 = some none ∧ 1 ≤ p.2 ∧ p.2 ≤ vs.length) → acc.length + r.length ≤ 900 →
    H2 a = some (exo a (C.cl c) (some d)) → H2 d = some (exd d acc) → (∀ H3, H3 a = some (exo a (C.cl c) (some d)) → H3 d = some (exd d (fsAcc vs r acc)) → (∀ b, b ≠ a → b ≠ d → H3 b = H2 b) → E.nx ((V.ref a :: vs).map some ++ List.replicate N none) H3) →
    rs T cs (ostB r) C W E ((V.ref a :: vs).map some ++ List.replicate N none) H2
  | [], acc, d, H2, hd, hp, hl, ha, he, k => k H2 ha he fun _ _ _ => rfl
  | p :: r, acc, d, H2, hd, hp, hl, ha, he, k => by
    obtain ⟨p1, p2, p3⟩ := hp p List.mem_cons_self
    rw [List.length_cons] at hl
    show tOst C.K p.1 (tVar 0) (tVar p.2) { E with nx := rs T cs (ostB r) C W E } _ H2
    refine ⟨vs.getD (p.2 - 1) .non, ?_, .ref a, rfl, a, C.cl c, rfl, oc, p1, .inr ⟨d, acc, ha, he, by omega, ?_⟩⟩
    · obtain ⟨j, hj⟩ : ∃ j, p.2 = j + 1 := ⟨p.2 - 1, by omega⟩
      rw [hj, List.map_cons, List.cons_append, List.getElem?_cons_succ, List.getElem?_append_left (by rw [List.length_map]; omega), List.getElem?_map, List.getD_eq_getElem?_getD, show j + 1 - 1 = j from rfl, List.getElem?_eq_getElem (show j < vs.length by omega)]
      rfl
    · refine ost_more oc r ((p.1, vs.getD (p.2 - 1) .non) :: acc) d _ hd (fun q hq => hp q (List.mem_cons_of_mem _ hq)) (by rw [List.length_cons]; omega) (by rw [upd_ne hd.symm]; exact ha) upd_same fun H3 h1 h2 h3 => k H3 h1 h2 fun b b1 b2 => by rw [h3 b b1 b2, upd_ne b2]
theorem iniOk {T' : Tb} {c n k N : Nat} {msg : Str} {p : Str × Nat} {r : List (Str × Nat)} (hr : (T.f (T.ini c)).ar = n + 1) (hs : ∀ C, (T.f (T.ini c)).sp C = spB T' cs (n + 1) N (iniB k msg (p :: r)) C) (oc : OexC C.K (C.cl c))
    (hf : ∀ q ∈ p :: r, PySem.W.findIn C.K (.ref (C.cl c)) q.1 = some none ∧ 1 ≤ q.2 ∧ q.2 ≤ n) (hn : n ≤ 900) (hl : r.length ≤ 800) : IniOk T C c n (p :: r) where
  ar := hr
  run := fun vs a H Q E hv ha q => by
    rw [hs]
    refine ⟨by rw [List.length_cons, hv], ?_⟩
    obtain ⟨p1, p2, p3⟩ := hf p List.mem_cons_self
    generalize N - (V.ref a :: vs).length = M
    show (tDrop (tVeI C.K (tCons (tVar 0) (tCons (tC (.str msg)) tNil)))) _ _ _
    refine ⟨.ref a, rfl, a, C.cl c, [V.str msg], rfl, Nat.le_of_ble_eq_true rfl, oc, upd_same, ?_⟩
    show tOst C.K p.1 (tVar 0) (tVar p.2) _ _ _
    refine ⟨vs.getD (p.2 - 1) .non, ?_, .ref a, rfl, a, C.cl c, rfl, oc, p1, .inl ⟨upd_same, fun d hd hda => ?_⟩⟩
    · obtain ⟨j, hj⟩ : ∃ j, p.2 = j + 1 := ⟨p.2 - 1, by omega⟩
      rw [hj, List.map_cons, List.cons_append, List.getElem?_cons_succ, List.getElem?_append_left (by rw [List.length_map]; omega), List.getElem?_map, List.getD_eq_getElem?_getD, show j + 1 - 1 = j from rfl, List.getElem?_eq_getElem (show j < vs.length by omega)]
      rfl
    · have hd0 : H d = none := by rw [upd_ne hda] at hd; exact hd
      refine ost_more (T := T') oc r [(p.1, vs.getD (p.2 - 1) .non)] d _ hda (fun q hq => by rw [hv]; exact hf q (List.mem_cons_of_mem _ hq)) (by simp; omega) upd_same (by rw [upd_ne hda]; exact upd_same) fun H3 h1 h2 h3 => ?_
      exact q d H3 h1 h2 hd0 hda fun b b1 b2 => by rw [h3 b b1 b2, upd_ne b1, upd_ne b2, upd_ne b1]
/-- raise C(..), C's own __init__ -/
theorem b_rse {D : Ds ν β ρ ξ} {c n : Nat} {es : E} {s : S} {ws : κ → List Vw} {g : κ → List V} {m : Res (List V)} {x0 : ξ} {fs : List (Str × Nat)} (hI : IniOk T C c n fs) (hn : elen es = n) (h : EvLV T C Γ es ws (fun k => .ok (g k)) m) (hg : ∀ k H vs, VwL H vs (ws k) → vs = g k) (hw : ∀ k, (ws k).length = n) (hl : n ≤ 1000) (w : Wk Γ (D.x x0)) :
    Blk T cs C D Γ (.seq (.rse c es) s) (m.to x0 fun vs => .exc ⟨c, fsOf fs vs⟩ x0) := fun W E σ B Z H fp o p => by
  show (if elen es + 1 = (T.f (T.ini c)).ar then tMkO (C.cl c) ((T.f (T.ini c)).sp C) [] (rd T C es W).L σ H (fun cls d H' => W cls d σ H') else False)
  rw [hn, if_pos hI.ar.symm]
  refine h W σ B H (fun vs => Post C D (.exc ⟨c, fsOf fs vs⟩ x0 : Out ν β ρ ξ) W E B Z) _ o.envC ?_ fun k vs B1 H1 g1 p1 z1 => ?_
  · cases m with
    | ok vs => exact p
    | exc e =>
      intro cls d H' s r
      exact exc_post o w p s r
    | bad => exact p
  · have hv := hg k H1 vs p1
    have hlen : vs.length = n := by rw [p1.len, hw]
    have z2 : Post C D (.exc ⟨c, fsOf fs vs⟩ x0 : Out ν β ρ ξ) W E B Z := by rw [hv]; exact z1
    refine ⟨by rw [hlen]; exact hl, fun a ha => ?_⟩
    rw [List.append_nil]
    refine hI.run vs a H1 _ _ hlen ha fun d H2 e1 e2 e3 e4 e5 => ⟨rfl, d, fsOf fs vs, e1, e2, e3, ?_⟩
    refine exc_post o w z2 (sm_trans g1.h fun b u hb => ?_) ⟨rfl, .inr ⟨d, rfl, upd_same, none_back g1.h e3⟩⟩
    have bd : b ≠ d := fun q => by rw [q, e3] at hb; cases hb
    have ba : b ≠ a := fun q => by rw [q, ha] at hb; cases hb
    rw [upd_ne bd, del_ne ba, e5 b ba bd]
    exact hb
/-! fields of the error at hand -/
def fldS (fs : List (Str × V)) (f : Str) : Res Str := match fs.lookup f with
  | some (.str x) => .ok x
  | _ => .bad
def fldI (fs : List (Str × V)) (f : Str) : Res Int := match fs.lookup f with
  | some (.int x) => .ok x
  | _ => .bad
theorem ev_exfS {i m : Nat} {f : Str} {a : Addr} {dx : Option Addr} {fs : List (Str × V)} (hi : Γ[i]? = some (some (oV (vX a dx fs)))) (hf : PySem.W.findIn C.K (.ref (C.cl m)) f = some none) : EvB T { C with ex := some (m, a, dx) } Γ (.exf i f) vStr (fldS fs f) := fun W σ B H Q g z => by
  refine ev_exf hi hf W σ B H Q g ?_
  unfold fldR
  unfold fldS at z
  cases q : fs.lookup f with
  | none => rw [q] at z; exact z.elim
  | some v =>
    rw [q] at z
    cases v <;> first | exact z.elim | exact fun u B' H' g r => z u B' H' g r
theorem ev_exfI {i m : Nat} {f : Str} {a : Addr} {dx : Option Addr} {fs : List (Str × V)} (hi : Γ[i]? = some (some (oV (vX a dx fs)))) (hf : PySem.W.findIn C.K (.ref (C.cl m)) f = some none) : EvB T { C with ex := some (m, a, dx) } Γ (.exf i f) vInt (fldI fs f) := fun W σ B H Q g z => by
  refine ev_exf hi hf W σ B H Q g ?_
  unfold fldR
  unfold fldI at z
  cases q : fs.lookup f with
  | none => rw [q] at z; exact z.elim
  | some v =>
    rw [q] at z
    cases v <;> first | exact z.elim | exact fun u B' H' g r => z u B' H' g r
end
end Q
/-! Q32: what the top must have written of errors with their own __init__. -/
namespace Q
open PySem L2 PySem.Spec
/-- C.__init__ by name, where it is ValueError's -/
theorem vin_of {P : Program} {w : World} {K : Frag} {C : Addr} (rd : PySem.W.readsIn K C (.type "type") = true) (ga : PySem.W.specialIn K (.ref C) "__getattribute__" = some (some (.builtin "type.__getattribute__")))
    (fc : PySem.W.findCls K (.ref C) (.type "type") "__init__" = some (.val (.builtin "ValueError.__init__"))) (pl : Sem Bool) (A : Around) (s : Shared) (Q : Value × List Value → Shared → Prop) (E' : Value → Shared → Prop) (X : K.In s.heap) (h : Q (.builtin "ValueError.__init__", []) { s with toks := s.toks + 1 }) :
    wpAny (model P w) A (getMethod (.ref C) "__init__" pl) Q E' s := PySem.W.method_cls X ga (PySem.W.cls_value X rd fc rfl h)
/-- the class of an error with its own __init__, at f -/
structure OexW (K : Frag) (C f : Addr) : Prop where
  oc : OexC K C
  fi : PySem.W.findIn K (.ref C) "__init__" = some (some (.ref f))
  ty : PySem.W.typeIn K (.ref f) = some (.type "function")
structure Wd1 (K : Frag) (cl : Nat → Addr) (ini : Nat → Nat) (iad : Nat → Addr) (rs1 : List Nat) (bas : List Nat) : Prop where
  ow : ∀ n ∈ rs1, OexW K (cl n) (iad n)
  rd : ∀ n ∈ bas, PySem.W.readsIn K (cl n) (.type "type") = true ∧ PySem.W.specialIn K (.ref (cl n)) "__getattribute__" = some (some (.builtin "type.__getattribute__")) ∧ PySem.W.findCls K (.ref (cl n)) (.type "type") "__init__" = some (.val (.builtin "ValueError.__init__"))
section
variable {L : Lw} {T T' : Tb} {P : Program} {w : World} {K : Frag} {mg : Str → Option Value} {base : Heap} {cl : Nat → Addr} {gl : Nat → V}
/-- a def that raises errors of both kinds, or is itself such an __init__ -/
theorem Wd.world1 (W : Wd L K mg cl gl) {ini : Nat → Nat} {iad : Nat → Addr} {rs1 bas : List Nat} (W1 : Wd1 K cl ini iad rs1 bas) {k : Nat} {rs : List Nat}
    (h : rs.all (fun n => decide (n ∈ L.cs) && (decide (n ∈ L.rs0 ∧ T.ini n = 0) || decide (n ∈ rs1 ∧ T.ini n ≠ 0) || decide (T.mt n "#vini" = 1 ∧ n ∈ bas ∧ n ∈ L.rs0 ∧ T.ini n = 0)) && (decide (T.mt n "#vini" ≠ 1) || decide (n ∈ bas))) = true)
    (hi : ∀ n ∈ rs, n ∈ rs1 → T.ini n ≠ 0 → ∃ k', k' + 1 ≤ k ∧ FnC (gx L T P w K mg base cl gl) k' (T.f (T.ini n)) (iad n)) (hs : T.sub = L.sub) : WorldT (gx L T P w K mg base cl gl) k rs :=
  have H : ∀ n ∈ rs, n ∈ L.cs ∧ ((n ∈ L.rs0 ∧ T.ini n = 0) ∨ (n ∈ rs1 ∧ T.ini n ≠ 0)) ∧ (T.mt n "#vini" = 1 → n ∈ bas) := fun n hn => by
    have := List.all_eq_true.mp h n hn
    simp only [Bool.and_eq_true, Bool.or_eq_true, decide_eq_true_eq] at this
    refine ⟨this.1.1, ?_, fun z => this.2.elim (fun q => absurd z q) id⟩
    rcases this.1.2 with (q | q) | q
    · exact .inl q
    · exact .inr q
    · exact .inl q.2.2
  { cls :=
      { mg := fun n h => (W.one n h).mg
        sub := fun n h => (H n h).1
        kp := fun n h => (W.one n (H n h).1).kp
        bs := fun n h => (W.one n (H n h).1).bs
        ty := fun n h => (W.one n (H n h).1).ty
        exI := fun n h z => W.ex n ((H n h).2.1.elim (fun q => q.1) fun q => absurd z q.2)
        exO := fun n h z => by
          have q := (H n h).2.1.resolve_left fun q => z q.2
          obtain ⟨k', hk, hf⟩ := hi n h q.1 z
          exact ⟨(W1.ow n q.1).oc, iad n, k', hk, hf, (W1.ow n q.1).fi, (W1.ow n q.1).ty⟩
        vin := fun n h z => by
          obtain ⟨r1, r2, r3⟩ := W1.rd n ((H n h).2.2 z)
          exact fun pl A s Q E' X q => vin_of r1 r2 r3 pl A s Q E' X q
        exm := fun m hm n hn => by
          rw [show (gx L T P w K mg base cl gl).T.sub m n = L.sub m n from congrFun (congrFun hs m) n]
          exact PySem.W.exm_ref (W.one n hn).bs (W.one n hn).hd (W.one n hn).ty (W.pr m hm n hn)
        kit := fun m hm n hn => by
          rw [show (gx L T P w K mg base cl gl).T.sub m n = L.sub m n from congrFun (congrFun hs m) n]
          exact kit_ref (W.one n hn).hd (W.one n hn).ty (W.pr m hm n hn) fun e => W.rf m hm n hn (Value.ref.inj (beq_iff_eq.mp e))
        exc := fun n h => (W.one n h).exc
        ve := fun n h => kit_ve (W.one n h).ve }
    ex := rfl
    blt := W.blt
    glo := W.glo }
end
/-- a class's j-th def -/
def clsSt : Stmt → Nat → Stmt
  | .ClassDef (body := b) .., j => b.getD j (.Pass ⟨0, 0, 0, 0⟩)
  | s, _ => s
theorem wkl_ev {T : Tb} {C : Kc} {Γ Γ' : Cx0} {κ γ : Type} {es : E} {ws : κ → List Vw} {f : κ → Res γ} {m : Res γ} (w : Wk Γ Γ') (h : EvLV T C Γ' es ws f m) : EvLV T C Γ es ws f m := fun W σ B H P Q g z q => h W σ B H P Q (wk_envC w g) z q
theorem ev_someF {T : Tb} {C : Kc} {Γ : Cx0} {α : Type} {τ : α → Vw} {e : E} {m : Res α} (h : EvO T C Γ e (fun x => oV (τ x)) m) : EvO T C Γ e (fun x => oV (vOpt τ x)) (m >>= fun x => .ok (some x)) := fun W σ B H Q g z => h W σ B H Q g (rz_bind.mp z)
theorem ev_someFP {T : Tb} {C : Kc} {Γ : Cx0} {α : Type} {τ : α → Vw} {e : E} {x : α} (h : EvO T C Γ e (fun x => oV (τ x)) (.ok x)) : EvO T C Γ e (fun x => oV (vOpt τ x)) (.ok (some x)) := ev_someF h
theorem ev_noneF {T : Tb} {C : Kc} {Γ : Cx0} {α : Type} {τ : α → Vw} : EvO T C Γ .non (fun x => oV (vOpt τ x)) (.ok none) := fun W σ B H Q g z => z _ B H (.refl g.sub) ⟨[], ⟨rfl, rfl⟩, List.nodup_nil, fun _ z => nomatch z⟩
theorem elv_nilE {T : Tb} {C : Kc} {Γ : Cx0} {γ : Type} {f : Unit → Res γ} {n : Res γ} (h : f () = n) : EvLV T C Γ .nil (fun _ => []) f n := h ▸ elv_nil
theorem elo_nilE {T : Tb} {C : Kc} {Γ : Cx0} {γ : Type} {f : Unit → Res γ} {n : Res γ} (h : f () = n) : EvLO T C Γ .nil (fun _ => []) f n := h ▸ elo_nil
/-- xs[i] of an own list -/
theorem ev_ixO {T : Tb} {C : Kc} {Γ : Cx0} {α : Type} {i : Nat} {b : E} {q : V → Prop} {τ : α → Vw} {xs : List α} {mb : Res Int} (hi : Γ[i]? = some (some (oQ q (oL C (fun x => oV (τ x)) xs)))) (hb : EvB T C Γ b vInt mb) : EvO T C Γ (.ix (.var i) b) (fun x => oV (τ x)) (mb >>= fun j => ixR xs j) := fun W σ B H Q g z => by
  obtain ⟨v, f, h1, qv, l, vs, f0, rfl, hl, ho, rfl⟩ := g.get i _ hi
  obtain ⟨h2, _⟩ := owl_oV_inv ho
  refine ⟨.ref l, h1, ?_⟩
  refine hb W σ B H _ g (rz_imp (rz_bind.mp z) (fun j z w B2 H2 g2 p2 => ?_) fun _ z => z)
  unfold ixR at z
  cases e : atI xs j with
  | none => rw [e] at z; exact z.elim
  | some x =>
    rw [e] at z
    obtain ⟨u, e2, r⟩ := h2.at e
    exact .inl (.inl ⟨l, vs, j, u, rfl, p2, .inl (.inl (g2.h l _ hl)), e2, z u B2 H2 g2 ⟨[], ⟨(τ x).mono g2.b r, rfl⟩, List.nodup_nil, fun _ z => nomatch z⟩⟩)
theorem ev_ixOP {T : Tb} {C : Kc} {Γ : Cx0} {α : Type} {i : Nat} {b : E} {q : V → Prop} {τ : α → Vw} {xs : List α} {j : Int} (hi : Γ[i]? = some (some (oQ q (oL C (fun x => oV (τ x)) xs)))) (hb : EvB T C Γ b vInt (.ok j)) : EvO T C Γ (.ix (.var i) b) (fun x => oV (τ x)) (ixR xs j) := ev_ixO hi hb
theorem ev_slLP {T : Tb} {C : Kc} {Γ : Cx0} {α : Type} {a lo hi : E} {τ : α → Vw} {xs : List α} {i j : Option Int} (ha : EvO T C Γ a (fun xs => oV (vL C τ xs)) (.ok xs)) (hl : EvOp T C Γ lo (.ok i)) (hh : EvOp T C Γ hi (.ok j)) :
    EvO T C Γ (.sl a lo hi) (oL C fun x => oV (τ x)) (.ok (cutL xs i j)) := ev_slL ha hl hh
/-- these views tell these values -/
def VwEq (ws : List Vw) (vs : List V) : Prop := ∀ H us, VwL H us ws → us = vs
theorem vweq_nil : VwEq [] [] := fun _ _ h => by cases h; rfl
theorem vweq_str {ws : List Vw} {vs : List V} {x : Str} (h : VwEq ws vs) : VwEq (vStr x :: ws) (.str x :: vs) := fun H us q => by
  cases q with
  | cons a b => rw [h H _ b, show _ = V.str x from a]
theorem vweq_int {ws : List Vw} {vs : List V} {x : Int} (h : VwEq ws vs) : VwEq (vInt x :: ws) (.int x :: vs) := fun H us q => by
  cases q with
  | cons a b => rw [h H _ b, show _ = V.int x from a]
end Q
/-! Q33: more to reckon with: comprehensions, texts joined, data equal to themselves. -/
namespace Q
open PySem L2 PySem.Spec
section
variable {α γ : Type}
theorem lcR_all {f : α → Res γ} {Q : γ → Prop} : ∀ (xs : List α), (∀ x ∈ xs, ∃ y, f x = .ok y ∧ Q y) → ∃ ys, lcR (fun _ => .ok true) f xs = .ok ys ∧ ys.length = xs.length ∧ ∀ y ∈ ys, Q y
  | [], _ => ⟨[], rfl, rfl, fun _ h => nomatch h⟩
  | x :: xs, h => by
    obtain ⟨y, h1, h2⟩ := h x List.mem_cons_self
    obtain ⟨ys, h3, h4, h5⟩ := lcR_all xs fun z hz => h z (List.mem_cons_of_mem _ hz)
    refine ⟨y :: ys, ?_, by rw [List.length_cons, List.length_cons, h4], fun z hz => ?_⟩
    · unfold lcR
      rw [h1, h3]; rfl
    · rcases List.mem_cons.mp hz with rfl | hz
      · exact h2
      · exact h5 z hz
theorem lcR_mem {c : α → Res Bool} {f : α → Res γ} (p : α → Bool) (g : α → γ) : ∀ (xs : List α), (∀ x ∈ xs, c x = .ok (p x) ∧ f x = .ok (g x)) → lcR c f xs = .ok ((xs.filter p).map g)
  | [], _ => rfl
  | x :: xs, h => by
    obtain ⟨h1, h2⟩ := h x List.mem_cons_self
    unfold lcR
    rw [h1, h2, lcR_mem p g xs fun z hz => h z (List.mem_cons_of_mem _ hz)]
    cases q : p x <;> simp [q]
end
theorem join_tk {n m : Nat} {s : Str} (hs : tOk m s) : ∀ ps : List Str, (∀ w ∈ ps, tOk n w) → tOk ((n + m) * ps.length) (Txt.join s ps) := by
  have key : ∀ ps : List Str, (∀ w ∈ ps, tOk n w) → tOk ((n + m) * ps.length) (Str.join s ps) := fun ps => by
    induction ps with
    | nil => exact fun _ => lit_ok "" 0 (by decide)
    | cons x r ih =>
      intro h
      cases r with
      | nil => exact (h x List.mem_cons_self).le (by rw [List.length_cons, List.length_nil]; omega)
      | cons y r =>
        have := ((h x List.mem_cons_self).cat hs).cat (ih fun w hw => h w (List.mem_cons_of_mem _ hw))
        refine tOk.le (n := n + m + (n + m) * (y :: r).length) this ?_
        rw [List.length_cons (a := x), Nat.mul_succ]
        omega
  intro ps h
  rw [TL.join_eq]
  exact key ps h
theorem sumlen_le (ws : List Str) (k : Nat) (h : ∀ w ∈ ws, w.length ≤ k) : List.sum (List.map (fun z => z.length) ws) ≤ k * ws.length := by
  induction ws with
  | nil => exact Nat.zero_le _
  | cons w ws ih =>
    rw [List.map_cons, List.sum_cons, List.length_cons, Nat.mul_succ]
    have := ih fun z hz => h z (List.mem_cons_of_mem _ hz)
    have := h w List.mem_cons_self
    omega
/-- data equal to themselves -/
def okD (k : Nat) (d : PyData) : Prop := d.canLay0 = true ∧ d.depth ≤ k ∧ PyData.eqv d d = true
theorem okD.sh {k : Nat} {d : PyData} (h : okD k d) (hk : k ≤ 64) : SeqAt.shaped d = true := by
  show (d.canLay0 && decide (d.depth ≤ 64)) = true
  rw [h.1, decide_eq_true (Nat.le_trans h.2.1 hk)]; rfl
theorem okD.eq {k : Nat} {d : PyData} (h : okD k d) (hk : k ≤ 64) : eqR d d = .ok true := by rw [eqR_of (h.sh hk) (h.sh hk), h.2.2]
theorem okD.ne {k : Nat} {d : PyData} (h : okD k d) (hk : k ≤ 64) : neR d d = .ok false := by rw [neR_of (h.sh hk) (h.sh hk), h.2.2]; rfl
theorem okD_str {x : Str} (h : PyData.strOk x = true) : okD 0 (.str x) := ⟨h, Nat.le_refl 0, by show (x == x) = true; simp⟩
theorem okD_int (i : Int) : okD 0 (.int i) := ⟨rfl, Nat.le_refl 0, by show (i == i) = true; simp⟩
theorem okD_none : okD 0 .none := ⟨rfl, Nat.le_refl 0, rfl⟩
def okAll (k : Nat) (ds : List PyData) : Prop := PyData.canLayAll0 ds = true ∧ PyData.depthAll ds ≤ k ∧ PyData.eqvAll ds ds = true
theorem okAll_nil (k : Nat) : okAll k [] := ⟨rfl, Nat.zero_le _, rfl⟩
theorem okAll_cons {k : Nat} {d : PyData} {ds : List PyData} (h : okD k d) (g : okAll k ds) : okAll k (d :: ds) :=
  ⟨by show (d.canLay0 && PyData.canLayAll0 ds) = true; rw [h.1, g.1]; rfl, Nat.max_le.mpr ⟨h.2.1, g.2.1⟩, by show (PyData.eqv d d && PyData.eqvAll ds ds) = true; rw [h.2.2, g.2.2]; rfl⟩
theorem okAll_map {α : Type} {k : Nat} {f : α → PyData} : ∀ {xs : List α}, (∀ x ∈ xs, okD k (f x)) → okAll k (xs.map f)
  | [], _ => okAll_nil k
  | x :: xs, h => okAll_cons (h x List.mem_cons_self) (okAll_map fun y hy => h y (List.mem_cons_of_mem _ hy))
theorem okD.up {k m : Nat} {d : PyData} (h : okD k d) (l : k ≤ m) : okD m d := ⟨h.1, Nat.le_trans h.2.1 l, h.2.2⟩
theorem okD_lst {k : Nat} {ds : List PyData} (h : okAll k ds) : okD (k + 1) (.list ds) := ⟨h.1, Nat.succ_le_succ h.2.1, h.2.2⟩
theorem okD_tup {k : Nat} {ds : List PyData} (h : okAll k ds) : okD (k + 1) (.tuple ds) := ⟨h.1, Nat.succ_le_succ h.2.1, h.2.2⟩
/-! sizes -/
theorem bits_lt {i : Int} {k : Nat} (h : Builtin.Int.intBits i ≤ k) : i.natAbs < 2 ^ k := by
  unfold Builtin.Int.intBits at h
  split at h
  · rename_i z
    have : i.natAbs = 0 := by simpa using z
    rw [this]; exact Nat.pow_pos (by decide)
  · have := Nat.lt_log2_self (n := i.natAbs)
    exact Nat.lt_of_lt_of_le this (Nat.pow_le_pow_right (by decide) h)
theorem fdiv_abs (z d : Int) (hd : 0 < d) : (Int.fdiv z d).natAbs ≤ z.natAbs := by
  rw [Int.fdiv_eq_ediv_of_nonneg _ (by omega)]
  rcases Int.lt_or_le z 0 with h | h
  · have h1 : z / d < 0 := Int.ediv_neg_of_neg_of_pos h hd
    have h2 : z ≤ z / d := by
      have := Int.mul_ediv_add_emod z d
      have := Int.emod_nonneg z (show d ≠ 0 by omega)
      have h3 : d * (z / d) ≤ 1 * (z / d) := Int.mul_le_mul_of_nonpos_right (by omega) (by omega)
      have := Int.emod_lt_of_pos z hd
      rcases (show d = 1 ∨ 2 ≤ d by omega) with q | q
      · rw [q]; simp
      · have h4 : d * (z / d) ≤ 2 * (z / d) := Int.mul_le_mul_of_nonpos_right q (by omega)
        have h5 := Int.mul_ediv_self_le (x := z) (k := d) (by omega)
        exact Int.le_ediv_of_mul_le hd (by
          have : z * d ≤ z * 1 := Int.mul_le_mul_of_nonpos_left (by omega) (by omega)
          omega)
    omega
  · have h1 : 0 ≤ z / d := Int.ediv_nonneg h (by omega)
    have h2 : z / d ≤ z := Int.ediv_le_self _ h
    omega
end Q
/-! Q34: own lists of own lists: a name's thing handed over to a list, an inner list cleared. -/
namespace Q
open PySem L2 PySem.Spec
section
variable {T : Tb} {cs : List Nat} {C : Kc} {Γ : Cx0} {α β γ ν ν' ρ ξ : Type}
/-- a name's thing is taken out -/
theorem Oks.take {o : Ow} {σ : L2.St} {B Z H : Hp} {fp : List Addr} {i : Nat} (ok : Oks Γ σ B Z H fp) (h : Γ[i]? = some (some o)) :
    ∃ v f g, σ[i]? = some (some v) ∧ o.rel B H v f ∧ Oks (Γ.set i none) σ B Z H g ∧ f.Nodup ∧ (∀ a ∈ f, Z a = none ∧ B a = none) ∧ ∀ a ∈ f, a ∉ g := by
  have : ∀ {Γ : Cx0} {σ : List (Option V)} {fp : List Addr} {i : Nat}, EnvO B H σ Γ fp → Γ[i]? = some (some o) → ∃ v f g, σ[i]? = some (some v) ∧ o.rel B H v f ∧ EnvO B H σ (Γ.set i none) g ∧ (f ++ g).Perm fp := fun {Γ} => by
    induction Γ with
    | nil => intro σ fp i _ e; simp at e
    | cons a Γ ih =>
      intro σ fp i h e
      cases σ with
      | nil => cases a <;> cases h
      | cons u σ =>
        cases i with
        | zero =>
          simp only [List.getElem?_cons_zero, Option.some.injEq] at e
          subst e
          obtain ⟨v, f, g, h0, h1, h2, h3⟩ := h
          subst h0 h1
          exact ⟨v, f, g, rfl, h2, h3, .refl _⟩
        | succ i =>
          simp only [List.getElem?_cons_succ] at e
          cases a with
          | none =>
            obtain ⟨v, f, g, q1, q2, q3, q4⟩ := ih (σ := σ) h e
            exact ⟨v, f, g, q1, q2, q3, q4⟩
          | some b =>
            obtain ⟨w, f0, g0, h0, h1, h2, h3⟩ := h
            obtain ⟨v, f, g, q1, q2, q3, q4⟩ := ih h3 e
            subst h1
            refine ⟨v, f, f0 ++ g, q1, q2, ⟨w, f0, g, h0, rfl, h2, q3⟩, ?_⟩
            exact (List.perm_append_comm_assoc f f0 g).trans (q4.append_left f0)
  obtain ⟨v, f, g, q1, q2, q3, q4⟩ := this ok.env h
  obtain ⟨n1, n2, n3⟩ := List.nodup_append.mp (q4.nodup_iff.mpr ok.nd)
  exact ⟨v, f, g, q1, q2, ⟨q3, n2, fun a ha => ok.fr a (q4.mem_iff.mp (List.mem_append_right _ ha)), ok.b, ok.z⟩, n1, fun a ha => ok.fr a (q4.mem_iff.mp (List.mem_append_left _ ha)), fun a ha hb => n3 a ha a hb rfl⟩
/-- the thing of one name is changed and takes in what is at fx -/
theorem Oks.chg2 {σ : L2.St} {B Z H : Hp} {fp fx : List Addr} {i : Nat} {o : Ow} (k : Oks Γ σ B Z H fp) (hi : Γ[i]? = some (some o)) (hx : ∀ a ∈ fx, Z a = none ∧ B a = none) (hd : ∀ a ∈ fx, a ∉ fp) :
    ∃ v f, σ[i]? = some (some v) ∧ o.rel B H v f ∧ f.Nodup ∧ (∀ a ∈ f, a ∉ fx) ∧
      ∀ (o' : Ow) (H' : Hp) (f' : List Addr), o'.rel B H' v f' → f'.Nodup → (∀ a, a ∉ f → (H a).isSome = true → H' a = H a) → (∀ a ∈ f', a ∈ f ∨ a ∈ fx) → ∃ fp', Oks (Γ.set i (some o')) σ B Z H' fp' := by
  obtain ⟨v, f, g, q1, q2, q3, q4⟩ := k.env.focus hi
  have al : ∀ a ∈ fp, (H a).isSome = true := k.env.al
  have inf : ∀ a ∈ f, a ∈ fp := fun a ha => q3.mem_iff.mp (List.mem_append_left _ ha)
  have ing : ∀ a ∈ g, a ∈ fp := fun a ha => q3.mem_iff.mp (List.mem_append_right _ ha)
  obtain ⟨n1, n2, n3⟩ := List.nodup_append.mp (q3.nodup_iff.mpr k.nd)
  have ff : ∀ a ∈ f, Z a = none ∧ B a = none := fun a ha => k.fr a (inf a ha)
  refine ⟨v, f, q1, q2, n1, fun a ha z => hd a z (inf a ha), fun o' H' f' r nd ch fr => ?_⟩
  obtain ⟨fp', z1, z2⟩ := q4 B H' o' f' (sm_refl _) (fun a ha => ch a (fun z => n3 a z a ha rfl) (al a (ing a ha))) r
  have up : ∀ (M : Hp), Same M H → (∀ a ∈ f, M a = none) → Same M H' := fun M s n a u e => by
    have h := s a u e
    rw [ch a (fun z => by rw [n a z] at e; cases e) (by rw [h]; rfl)]
    exact h
  refine ⟨fp', z1, z2.nodup_iff.mp (List.nodup_append.mpr ⟨nd, n2, fun a ha b hb e => ?_⟩), fun a ha => ?_, up B k.b fun a ha => (ff a ha).2, up Z k.z fun a ha => (ff a ha).1⟩
  · subst e
    rcases fr a ha with h | h
    · exact n3 a h a hb rfl
    · exact hd a h (ing a hb)
  · rcases List.mem_append.mp (z2.mem_iff.mpr ha) with h | h
    · rcases fr a h with h | h
      · exact ff a h
      · exact hx a h
    · exact k.fr a (ing a h)
/-- xs.append(y), y an own thing that is handed over -/
theorem b_appMv {D : Ds ν β ρ ξ} {i j : Nat} {s : S} {q q' : V → Prop} {τ : α → Ow} {xs : List α} {x : α} {m : Out ν β ρ ξ} (hi : Γ[i]? = some (some (oQ q (oL C τ xs)))) (hj : Γ[j]? = some (some (oQ q' (τ x)))) (ne : j ≠ i)
    (hs : Blk T cs C D ((Γ.set j none).set i (some (oQ q (oL C τ (xs ++ [x]))))) s m) : Blk T cs C D Γ (.seq (.exp (.bm .lApp (.var i) (.cons (.var j) .nil))) s) (gdO (decide (xs.length < sizeLine)) m) := fun W E σ B Z H fp o p => by
  obtain ⟨u, fu, g, u1, ⟨_, u2⟩, o1, nu, fu1, du⟩ := o.take hj
  have hi' : (Γ.set j none)[i]? = some (some (oQ q (oL C τ xs))) := by rw [List.getElem?_set_ne ne]; exact hi
  obtain ⟨v, f, q1, ⟨qv, l, vs, f0, rfl, hl, ho, rfl⟩, nf, df, up⟩ := o1.chg2 hi' fu1 du
  cases hz : decide (xs.length < sizeLine) with
  | false => rw [hz] at p; exact p.elim
  | true =>
    rw [hz] at p
    refine ⟨.ref l, q1, .inl ⟨rfl, vs, .inl (.inl hl)⟩, u, u1, ?_⟩
    have ln := ho.len
    rw [List.length_map] at ln
    refine ⟨l, vs, u, rfl, rfl, hl, by rw [ln]; exact of_decide_eq_true hz, ?_⟩
    obtain ⟨nl, nf0⟩ := List.nodup_cons.mp nf
    have lu : l ∉ fu := df l List.mem_cons_self
    have e1 : ∀ a ∈ f0, upd H l (.lst (vs ++ [u])) a = H a := fun a ha => upd_ne fun z => nl (z ▸ ha)
    have e2 : ∀ a ∈ fu, upd H l (.lst (vs ++ [u])) a = H a := fun a ha => upd_ne fun z => lu (z ▸ ha)
    have hr : (oQ q (oL C τ (xs ++ [x]))).rel B (upd H l (.lst (vs ++ [u]))) (.ref l) (l :: (f0 ++ fu)) := by
      refine ⟨qv, l, vs ++ [u], f0 ++ fu, rfl, upd_same, ?_, rfl⟩
      rw [List.map_append]
      exact OwL.append (OwL.mono (sm_refl _) e1 ho) ⟨fu, [], by rw [List.append_nil], (τ x).mono (sm_refl _) e2 u2, rfl⟩
    obtain ⟨fp', o2⟩ := up _ _ _ hr (List.nodup_cons.mpr ⟨fun z => (List.mem_append.mp z).elim nl lu, List.nodup_append.mpr ⟨nf0, nu, fun a ha b hb e => df a (List.mem_cons_of_mem _ ha) (e ▸ hb)⟩⟩)
      (fun a ha _ => upd_ne fun z => ha (by rw [z]; exact List.mem_cons_self)) (fun a ha => by
        rcases List.mem_cons.mp ha with rfl | ha
        · exact .inl List.mem_cons_self
        · exact (List.mem_append.mp ha).imp (List.mem_cons_of_mem _) id)
    exact hs W E σ B Z _ fp' o2 p
theorem OwL.at {B H : Hp} {τ : α → Ow} : ∀ {xs : List α} {vs : List V} {f : List Addr} {n : Nat} {x : α}, OwL B H vs (xs.map τ) f → xs[n]? = some x →
    ∃ v f1 fx f2, vs[n]? = some v ∧ f = f1 ++ (fx ++ f2) ∧ (τ x).rel B H v fx ∧ ∀ H' y fy, (∀ a ∈ f1, H' a = H a) → (∀ a ∈ f2, H' a = H a) → (τ y).rel B H' v fy → OwL B H' vs ((xs.set n y).map τ) (f1 ++ (fy ++ f2))
  | [], _, _, _, _, _, e => by simp at e
  | x0 :: xs, [], _, _, _, h, _ => h.elim
  | x0 :: xs, v :: vs, f, 0, x, ⟨a, b, h1, h2, h3⟩, e => by
    simp only [List.getElem?_cons_zero, Option.some.injEq] at e
    subst e h1
    exact ⟨v, [], a, b, rfl, rfl, h2, fun H' y fy _ n2 r => ⟨fy, b, rfl, r, OwL.mono (sm_refl _) n2 h3⟩⟩
  | x0 :: xs, v :: vs, f, n + 1, x, ⟨a, b, h1, h2, h3⟩, e => by
    simp only [List.getElem?_cons_succ] at e
    obtain ⟨w, f1, fx, f2, k1, k2, k3, k4⟩ := OwL.at h3 e
    subst h1 k2
    refine ⟨w, a ++ f1, fx, f2, k1, by rw [List.append_assoc], k3, fun H' y fy n1 n2 r => ⟨a, f1 ++ (fy ++ f2), by rw [List.append_assoc], (τ x0).mono (sm_refl _) (fun c hc => n1 c (List.mem_append_left _ hc)) h2, k4 H' y fy (fun c hc => n1 c (List.mem_append_right _ hc)) n2 r⟩⟩
theorem ixN_lt {n : Nat} {i : Int} {k : Nat} (h : ixN n i = some k) : k < n := by
  unfold ixN at h
  split at h
  · split at h
    · cases h; omega
    · cases h
  · split at h
    · cases h; omega
    · cases h
/-- xs[e].clear() -/
theorem b_clrI {D : Ds ν β ρ ξ} {i : Nat} {e : E} {s : S} {q : V → Prop} {τ : α → Vw} {xs : List (List α)} {m : Res Int} {x0 : ξ} {k : List (List α) → Out ν β ρ ξ} (hi : Γ[i]? = some (some (oQ q (oL C (oL C fun x => oV (τ x)) xs)))) (h : EvB T C Γ e vInt m) (w : Wk Γ (D.x x0))
    (hs : ∀ ys, Blk T cs C D (Γ.set i (some (oQ q (oL C (oL C fun x => oV (τ x)) ys)))) s (k ys)) :
    Blk T cs C D Γ (.seq (.exp (.bm .lClr (.ix (.var i) e) .nil)) s) (m.to x0 fun j => (getR (setI xs j [])).to x0 k) := fun W E σ B Z H fp o p => by
  show (rd T C (.ix (.var i) e) W).E σ H _
  obtain ⟨v, f, q1, ⟨_, l, vs, _, rfl, hl, _, _⟩, _, _, _⟩ := o.chg hi
  refine ⟨.ref l, q1, ?_⟩
  show (rd T C e W).E σ H _
  refine evo_post (ev_flat h) w o p fun j u B1 H1 fq g1 r o1 p1 => ?_
  obtain ⟨rfl, rfl⟩ := r
  obtain ⟨v, f, q1', ⟨qv, l', vs', f0, rfl, hl', ho, rfl⟩, nf, _, up⟩ := o1.chg hi
  rw [q1] at q1'
  cases q1'
  cases hz : ixN xs.length j with
  | none =>
    have : setI xs j ([] : List α) = none := by unfold setI; rw [hz]; rfl
    rw [this] at p1
    exact p1.elim
  | some n =>
    have e3 : setI xs j ([] : List α) = some (xs.set n []) := by unfold setI; rw [hz]; rfl
    rw [e3] at p1
    have ln := ho.len
    rw [List.length_map] at ln
    have hn : n < xs.length := ixN_lt hz
    have ex : xs[n]? = some xs[n] := List.getElem?_eq_getElem hn
    obtain ⟨w1, f1, fx, f2, k1, rfl, k3, k4⟩ := OwL.at ho ex
    obtain ⟨p2, us, g, rfl, hp, hg, rfl⟩ := k3
    obtain ⟨_, rfl⟩ := owl_oV_inv hg
    obtain ⟨nl, nf0⟩ := List.nodup_cons.mp nf
    obtain ⟨m1, m2, m3⟩ := List.nodup_append.mp nf0
    obtain ⟨m4, m5⟩ := List.nodup_cons.mp m2
    have lp : l ≠ p2 := fun z => nl (by rw [z]; exact List.mem_append_right _ List.mem_cons_self)
    have hr : (oQ q (oL C (oL C fun x => oV (τ x)) (xs.set n []))).rel B1 (upd H1 p2 (.lst [])) (.ref l) (l :: (f1 ++ ([p2] ++ f2))) := by
      refine ⟨qv, l, vs', _, rfl, by rw [upd_ne lp]; exact hl', k4 (upd H1 p2 (.lst [])) [] [p2] (fun a ha => upd_ne fun z => m3 a ha p2 List.mem_cons_self z) (fun a ha => upd_ne fun z => m4 (z ▸ ha)) ⟨p2, [], [], rfl, upd_same, rfl, rfl⟩, rfl⟩
    obtain ⟨fp', o2⟩ := up _ _ _ hr nf (fun a ha _ => upd_ne fun z => ha (by rw [z]; exact List.mem_cons_of_mem _ (List.mem_append_right _ List.mem_cons_self))) (fun a ha => .inl ha)
    have e2 : atI vs' j = some (.ref p2) := by
      unfold atI
      rw [ln, hz]
      exact k1
    refine .inl (.inl ⟨l, vs', j, .ref p2, rfl, rfl, .inl (.inl hl'), e2, .inl ⟨rfl, us, .inl (.inl hp)⟩, p2, us, rfl, rfl, hp, hs _ W E σ B1 Z _ fp' o2 p1⟩)
/-- xs.clear() of a list of own things -/
theorem b_clrO {D : Ds ν β ρ ξ} {i : Nat} {s : S} {q : V → Prop} {τ : α → Ow} {xs : List α} {m : Out ν β ρ ξ} (hi : Γ[i]? = some (some (oQ q (oL C τ xs))))
    (hs : Blk T cs C D (Γ.set i (some (oQ q (oL C τ [])))) s m) : Blk T cs C D Γ (.seq (.exp (.bm .lClr (.var i) .nil)) s) m := fun W E σ B Z H fp o p => by
  obtain ⟨v, f, q1, ⟨qv, l, vs, f0, rfl, hl, ho, rfl⟩, nf, _, up⟩ := o.chg hi
  have hr : (oQ q (oL C τ [])).rel B (upd H l (.lst [])) (.ref l) [l] := ⟨qv, l, [], [], rfl, upd_same, (rfl : ([] : List Addr) = []), rfl⟩
  obtain ⟨fp', o2⟩ := up _ _ _ hr (List.nodup_cons.mpr ⟨(fun z => nomatch z : l ∉ ([] : List Addr)), List.nodup_nil⟩) (fun a ha _ => upd_ne fun z => ha (by rw [z]; exact List.mem_cons_self)) (fun a ha => .inl (by rw [List.mem_singleton.mp ha]; exact List.mem_cons_self))
  exact ⟨.ref l, q1, .inl ⟨rfl, vs, .inl (.inl hl)⟩, l, vs, rfl, rfl, hl, hs W E σ B Z _ fp' o2 p⟩
end
end Q
/-! Q35: the names that laws k21-k28, k41-k49 draw: unlike one another. -/
namespace Q
open PySem L2 PySem.Spec
theorem nonrfl' {α : Sort _} {a b : α} (h : a = b) : a = b := h
theorem ok_toN {α ν β ρ ξ : Type} (a : α) (x : ξ) (k : α → Out ν β ρ ξ) : (Res.ok a).to x k = k a := nonrfl' rfl
theorem ok_bindN {α β : Type} (x : α) (k : α → Res β) : (Res.ok x >>= k) = k x := nonrfl' rfl
theorem oz_rtex {ν β ρ ξ : Type} {m : Out ν β ρ ξ} {R : ρ → Prop} (h : Oz m (fun _ => False) (fun _ => False) (fun _ => False) R (fun _ _ => False)) : ∃ r, m = .rt r ∧ R r := by
  cases m <;> first | exact h.elim | exact ⟨_, rfl, h⟩
/-! words by their letters -/
abbrev letS : Str := "abcdefghijklmnopqrstuvwxyz"
theorem let_at {z : Int} (h0 : 0 ≤ z) (h1 : z < 26) : strAt letS z = .ok (tS [97 + z.toNat]) := by
  have k : ∀ n : Nat, n < 26 → letS.cps.toList[n]? = some (97 + n) := by decide
  have := strAt_ok (x := letS) (by decide) (k z.toNat (by omega))
  rw [show ((z.toNat : Nat) : Int) = z by omega] at this
  exact this
theorem join_flat : ∀ l : List (List Nat), Txt.join ("" : Str) (l.map tS) = tS l.flatten := fun l => by
  rw [TL.join_eq]
  induction l with
  | nil => rfl
  | cons x r ih =>
    cases r with
    | nil =>
      show tS x = _
      simp
    | cons y r =>
      show tS x ++ (tS []) ++ Str.join "" (List.map tS (y :: r)) = _
      rw [ih, tS_cat, tS_cat, List.append_nil, List.flatten_cons (l := x)]
/-- a word of m letters -/
def wd (cf : Int → Int) (m : Int) : Str := tS ((rng 0 m).map fun x => 97 + (cf x).toNat)
theorem wd_len (cf : Int → Int) (m : Int) : (wd cf m).length = m.toNat := by
  unfold wd
  rw [tS_len, List.length_map, rng_len]
  simp
theorem wd_ok {cf : Int → Int} {m : Int} (hc : ∀ x, 0 ≤ x → x < m → cf x < 26) (h : m ≤ 8) : tOk 8 (wd cf m) := by
  refine ⟨by rw [wd_len]; omega, fun c hc' => ?_⟩
  unfold wd at hc'
  obtain ⟨x, hx, rfl⟩ := List.mem_map.mp hc'
  have := hc x (rng_mem hx).1 (rng_mem hx).2
  omega
theorem wd_inj {cf cg : Int → Int} {m : Int} (h : wd cf m = wd cg m) (x : Int) (hx : x ∈ rng 0 m) : (cf x).toNat = (cg x).toNat := by
  have := List.map_inj_left.mp (tS_inj.mp h) x hx
  omega
theorem word_eq (f : Int → Res Str) (cf : Int → Int) (m : Int) (hm : 0 ≤ m ∧ m ≤ 8) (hf : ∀ x : Int, 0 ≤ x → x < m → f x = Res.ok (tS [97 + (cf x).toNat])) :
    (gd (rngB 0 m && decide (Int.toNat m ≤ sizeLine)) (lcR (fun _ => (Res.ok true)) f (rng 0 m)) >>= fun x30 => (gd (decide ((List.sum (List.map (fun z => z.length) x30)) + x30.length * ("" : Str).length ≤ 16777216)) (Res.ok (Txt.join ("" : Str) x30)))) = Res.ok (wd cf m) := by
  have h1 : lcR (fun _ => (Res.ok true)) f (rng 0 m) = .ok ((rng 0 m).map fun x => tS [97 + (cf x).toNat]) := by
    rw [lcR_mem (fun _ => true) (fun x => tS [97 + (cf x).toNat]) (rng 0 m) fun x hx => ⟨rfl, hf x (rng_mem hx).1 (rng_mem hx).2⟩]
    rw [List.filter_eq_self.mpr fun _ _ => rfl]
  rw [gd_t (show (rngB 0 m && decide (Int.toNat m ≤ sizeLine)) = true by rw [rngB_of (by omega) (by omega) (by omega) (by omega), decide_eq_true (by unfold sizeLine; omega)]; rfl), h1]
  rw [ok_bindN]
  have hs := sumlen_le ((rng 0 m).map fun x => tS [97 + (cf x).toNat]) 1 fun w hw => by
    obtain ⟨x, _, rfl⟩ := List.mem_map.mp hw
    exact Nat.le_of_eq (tS_len _)
  rw [List.length_map, rng_len] at hs
  rw [gd_t (decide_eq_true (by rw [show ("" : Str).length = 0 from rfl]; omega))]
  have e := join_flat ((rng 0 m).map fun x => [97 + (cf x).toNat])
  rw [List.map_map] at e
  refine congrArg Res.ok (e.trans ?_)
  unfold wd
  refine congrArg tS ?_
  induction rng 0 m with
  | nil => rfl
  | cons x r ih => simp [ih]
def cellF (a0 : (List Int)) (a1 : Int) : Out Unit Unit Int Unit :=
  (Res.ok (decide (a1 < (a0.length : Int)))).to () fun b3 => cond b3
  ((ixR a0 a1).to () fun r4 => .rt r4)
  ((Res.ok (0 : Int)).to () fun r5 => .rt r5)
def mixF (a0 : Int) (a1 : Int) : Out Unit Unit Int Unit :=
  (((((gd (!decide ((2147483647 : Int) = 0)) (Res.ok (Int.fmod a0 (2147483647 : Int))) >>= fun x45 => (Res.ok (x45 + (17 : Int)))) >>= fun x46 => (gd (mulB x46 a1) (Res.ok (x46 * a1)))) >>= fun x47 => (gd (!decide ((2147483399 : Int) = 0)) (Res.ok (Int.fmod x47 (2147483399 : Int))))) >>= fun x48 => (gd (divOk (97 : Int)) (Res.ok (Int.fdiv x48 (97 : Int)))))).to () fun r49 => .rt r49
def namesF (a0 : Int) (a1 : Int) : Out Unit Unit (List Str) Unit :=
  (Res.ok ("abcdefghijklmnopqrstuvwxyz" : Str)).to () fun v9 =>
  (gd (!decide ((999983 : Int) = 0)) (Res.ok (Int.fmod a0 (999983 : Int)))).to () fun v10 =>
  (gd (rngB 0 (8 : Int) && decide (Int.toNat (8 : Int) ≤ sizeLine)) (lcR (fun z12 : Int => (Res.ok true)) (fun z12 : Int => (((((gd (mulB z12 z12) (Res.ok (z12 * z12)) >>= fun x13 => (Res.ok (x13 + (3 : Int)))) >>= fun x14 => (gd (mulB v10 x14) (Res.ok (v10 * x14)))) >>= fun x15 => (gd (!decide ((7919 : Int) = 0)) (Res.ok (Int.fmod x15 (7919 : Int))))) >>= fun x16 => (gd (!decide ((26 : Int) = 0)) (Res.ok (Int.fmod x16 (26 : Int))))))) (rng 0 (8 : Int)))).to () fun v11 =>
  (((gd (divOk (3 : Int)) (Res.ok (Int.fdiv v10 (3 : Int))) >>= fun x18 => (gd (!decide ((8 : Int) = 0)) (Res.ok (Int.fmod x18 (8 : Int))))) >>= fun x19 => (Res.ok ((1 : Int) + x19)))).to () fun v17 =>
  ((gd (divOk (24 : Int)) (Res.ok (Int.fdiv v10 (24 : Int))) >>= fun x21 => (gd (!decide (v17 = 0)) (Res.ok (Int.fmod x21 v17))))).to () fun v20 =>
  ((gd (divOk (5 : Int)) (Res.ok (Int.fdiv v10 (5 : Int))) >>= fun x23 => (gd (!decide (a1 = 0)) (Res.ok (Int.fmod x23 a1))))).to () fun v22 =>
  (Res.ok ([] : (List Str))).to () fun v24 =>
  (Res.ok a1).to () fun n41 => gdO (rngB 0 n41) ((loopO (fun (x26 : Int) (s25 : (List Str)) =>
  (((gd (!decide ((3 : Int) = 0)) (Res.ok (Int.fmod v10 (3 : Int))) >>= fun x27 => (Res.ok (decide (x27 = (1 : Int)))))).to () fun b28 => cond b28
  (((gd (rngB 0 (x26 + (1 : Int)) && decide (Int.toNat (x26 + (1 : Int)) ≤ sizeLine)) (lcR (fun z29 : Int => (Res.ok true)) (fun z29 : Int => ((ixR v11 z29 >>= fun x30 => (strAt v9 x30)))) (rng 0 (x26 + (1 : Int)))) >>= fun x31 => (gd (decide ((List.sum (List.map (fun z => z.length) x31)) + x31.length * ("" : Str).length ≤ 16777216)) (Res.ok (Txt.join ("" : Str) x31))))).to () fun v32 => gdO (decide (s25.length < sizeLine))
  (.nx (s25 ++ [v32])))
  (((gd (rngB 0 v17 && decide (Int.toNat v17 ≤ sizeLine)) (lcR (fun z33 : Int => (Res.ok true)) (fun z33 : Int => ((((ixR v11 z33 >>= fun x34 => ((gd (mulB x26 (if (decide (z33 = v20)) then 1 else 0)) (Res.ok (x26 * (if (decide (z33 = v20)) then 1 else 0))) >>= fun x35 => (Res.ok (x34 + x35))))) >>= fun x36 => (gd (!decide ((26 : Int) = 0)) (Res.ok (Int.fmod x36 (26 : Int))))) >>= fun x37 => (strAt v9 x37)))) (rng 0 v17)) >>= fun x38 => (gd (decide ((List.sum (List.map (fun z => z.length) x38)) + x38.length * ("" : Str).length ≤ 16777216)) (Res.ok (Txt.join ("" : Str) x38))))).to () fun v39 => gdO (decide (s25.length < sizeLine))
  (.nx (s25 ++ [v39]))))) (rng 0 n41) v24).then fun s25 : (List Str) =>
  (gd (decide ((cutL s25 (some v22) none).length + (cutL s25 none (some v22)).length ≤ sizeLine)) (Res.ok ((cutL s25 (some v22) none) ++ (cutL s25 none (some v22))))).to () fun r40 => .rt r40)
theorem cell_ok (ns : List Int) (i : Int) (h : 0 ≤ i) : ∃ z, outR (cellF ns i) = .ok z ∧ (z ∈ ns ∨ z = 0) := by
  refine ⟨if i < ns.length then ns.getD i.toNat 0 else 0, rz_eq (rz_outR.mpr ?_), ?_⟩
  · unfold cellF
    simp only [oz_nx, oz_bk, oz_ct, oz_rt, oz_exc, oz_then, oz_to, oz_gdO, oz_cond, oz_noEO, oz_catO, rz_okI, rz_excI, rz_gd, rz_cond, rz_andR, rz_orR, rz_iteR, rz_getR, rz_bind, decide_eq_true_eq, decide_eq_false_iff_not]
    refine ⟨fun h1 => ?_, fun h1 => ?_⟩
    · have h2 : i.toNat < ns.length := by omega
      rw [ixR_int h (List.getElem?_eq_getElem h2), if_pos h1]
      show _ = ns.getD _ _
      rw [List.getD_eq_getElem?_getD, List.getElem?_eq_getElem h2]; rfl
    · rw [if_neg h1]
  · by_cases h1 : i < ns.length
    · have h2 : i.toNat < ns.length := by omega
      rw [if_pos h1, List.getD_eq_getElem?_getD, List.getElem?_eq_getElem h2]
      exact .inl (List.getElem_mem h2)
    · rw [if_neg h1]; exact .inr rfl
theorem mix_ok (c b : Int) (h : 0 ≤ b ∧ b < 2 ^ 40) : ∃ z, outR (mixF c b) = .ok z ∧ 0 ≤ z ∧ z < 2 ^ 40 := by
  refine rz_ex (rz_outR.mpr ?_)
  unfold mixF
  simp only [oz_nx, oz_bk, oz_ct, oz_rt, oz_exc, oz_then, oz_to, oz_gdO, oz_cond, oz_noEO, oz_catO, rz_okI, rz_excI, rz_gd, rz_cond, rz_andR, rz_orR, rz_iteR, rz_getR, rz_bind]
  have q := fm_lt c 2147483647 (by decide)
  have q2 := fm_lt ((Int.fmod c 2147483647 + 17) * b) 2147483399 (by decide)
  rw [Int.fdiv_eq_ediv_of_nonneg _ (by decide)]
  refine ⟨by decide, mulB_of 40 40 (by omega) (by omega) (by decide), by decide, by decide, by omega, by omega⟩
def baseF (v : Int) : Int → Res Int := (fun z12 : Int => (((((gd (mulB z12 z12) (Res.ok (z12 * z12)) >>= fun x13 => (Res.ok (x13 + (3 : Int)))) >>= fun x14 => (gd (mulB v x14) (Res.ok (v * x14)))) >>= fun x15 => (gd (!decide ((7919 : Int) = 0)) (Res.ok (Int.fmod x15 (7919 : Int))))) >>= fun x16 => (gd (!decide ((26 : Int) = 0)) (Res.ok (Int.fmod x16 (26 : Int)))))))
theorem base_one (v : Int) (q9 : 0 ≤ v ∧ v < 999983) (x : Int) (h0 : 0 ≤ x) (h1 : x < 8) : ∃ y : Int, baseF v x = Res.ok y ∧ (0 ≤ y ∧ y < 26) := by
  have b1 : x * x < 64 ∧ 0 ≤ x * x := ⟨by
    have : x * x ≤ 7 * 7 := Int.mul_le_mul (by omega) (by omega) h0 (by decide)
    omega, Int.mul_nonneg h0 h0⟩
  refine rz_ex ?_
  unfold baseF
  simp only [oz_nx, oz_bk, oz_ct, oz_rt, oz_exc, oz_then, oz_to, oz_gdO, oz_cond, oz_noEO, oz_catO, rz_okI, rz_excI, rz_gd, rz_cond, rz_andR, rz_orR, rz_iteR, rz_getR, rz_bind]
  have q := fm_lt (Int.fmod (v * (x * x + 3)) 7919) 26 (by decide)
  exact ⟨mulB_of 6 6 (by omega) (by omega) (by decide), mulB_of 20 10 (by omega) (by omega) (by decide), nz_of (by decide), nz_of (by decide), q.1, q.2⟩
theorem base_ok (v : Int) (q9 : 0 ≤ v ∧ v < 999983) : ∃ bs : List Int, lcR (fun _ => Res.ok true) (baseF v) (rng 0 (8 : Int)) = Res.ok bs ∧ bs.length = 8 ∧ ∀ y ∈ bs, 0 ≤ y ∧ y < 26 := by
  obtain ⟨bs, h1, h2, h3⟩ := lcR_all (f := baseF v) (Q := fun y : Int => 0 ≤ y ∧ y < 26) (rng 0 (8 : Int)) fun x hx => base_one v q9 x (rng_mem hx).1 (rng_mem hx).2
  exact ⟨bs, h1, by rw [h2, rng_len]; decide, h3⟩
/-- the k-th name -/
def nmW (v sz at' : Int) (bs : List Int) (k : Int) : Str := if Int.fmod v 3 = 1 then wd (fun j => bs.getD j.toNat 0) (k + 1) else wd (fun j => Int.fmod (bs.getD j.toNat 0 + k * (if j = at' then 1 else 0)) 26) sz
theorem rng_lt (n : Int) : (rng 0 n).Pairwise (· < ·) := by
  unfold rng
  refine List.pairwise_map.mpr (List.pairwise_lt_range.imp fun {a b} h => ?_)
  omega
theorem nmW_nodup (v n sz at' : Int) (bs : List Int) (hn : n ≤ 8) (hbq : ∀ j : Int, 0 ≤ j → j < 8 → 0 ≤ bs.getD j.toNat 0 ∧ bs.getD j.toNat 0 < 26) (qsz : 1 ≤ sz ∧ sz ≤ 8) (qa : 0 ≤ at' ∧ at' < sz) : ((rng 0 n).map (nmW v sz at' bs)).Nodup := by
  refine List.pairwise_map.mpr ((rng_lt n).imp_of_mem fun {a b} ha hb h e => ?_)
  have ra := rng_mem ha
  have rb := rng_mem hb
  unfold nmW at e
  split at e
  · have := congrArg Str.length e
    rw [wd_len, wd_len] at this
    omega
  · have hm : at' ∈ rng 0 sz := by
      unfold rng
      exact List.mem_map.mpr ⟨at'.toNat, List.mem_range.mpr (by omega), by omega⟩
    have := wd_inj e at' hm
    simp only [if_pos] at this
    have q := hbq at' qa.1 (by omega)
    have f1 := fm_lt (bs.getD at'.toNat 0 + a * 1) 26 (by decide)
    have f2 := fm_lt (bs.getD at'.toNat 0 + b * 1) 26 (by decide)
    rw [Int.fmod_eq_emod_of_nonneg _ (by omega), Int.fmod_eq_emod_of_nonneg _ (by omega)] at this
    omega
theorem nmW_ok (v n sz at' : Int) (bs : List Int) (hn : n ≤ 8) (hbq : ∀ j : Int, 0 ≤ j → j < 8 → 0 ≤ bs.getD j.toNat 0 ∧ bs.getD j.toNat 0 < 26) (qsz : 1 ≤ sz ∧ sz ≤ 8) (k : Int) (hk : 0 ≤ k ∧ k < n) : tOk 8 (nmW v sz at' bs k) := by
  unfold nmW
  split
  · exact wd_ok (fun x h0 h1 => (hbq x h0 (by omega)).2) (by omega)
  · exact wd_ok (fun x h0 h1 => (fm_lt _ 26 (by decide)).2) qsz.2
theorem names_rest (v n sz at' tn : Int) (bs : List Int) (hn : 1 ≤ n ∧ n ≤ 8) (hb8 : bs.length = 8) (hbq : ∀ j : Int, 0 ≤ j → j < 8 → 0 ≤ bs.getD j.toNat 0 ∧ bs.getD j.toNat 0 < 26) (qsz : 1 ≤ sz ∧ sz ≤ 8) (qt : 0 ≤ tn ∧ tn < n) :
    Oz (((loopO (fun (x26 : Int) (s25 : (List Str)) =>
  (((gd (!decide ((3 : Int) = 0)) (Res.ok (Int.fmod v (3 : Int))) >>= fun x27 => (Res.ok (decide (x27 = (1 : Int)))))).to () fun b28 => cond b28
  (((gd (rngB 0 (x26 + (1 : Int)) && decide (Int.toNat (x26 + (1 : Int)) ≤ sizeLine)) (lcR (fun z29 : Int => (Res.ok true)) (fun z29 : Int => ((ixR bs z29 >>= fun x30 => (strAt letS x30)))) (rng 0 (x26 + (1 : Int)))) >>= fun x31 => (gd (decide ((List.sum (List.map (fun z => z.length) x31)) + x31.length * ("" : Str).length ≤ 16777216)) (Res.ok (Txt.join ("" : Str) x31))))).to () fun v32 => gdO (decide (s25.length < sizeLine))
  (.nx (s25 ++ [v32])))
  (((gd (rngB 0 sz && decide (Int.toNat sz ≤ sizeLine)) (lcR (fun z33 : Int => (Res.ok true)) (fun z33 : Int => ((((ixR bs z33 >>= fun x34 => ((gd (mulB x26 (if (decide (z33 = at')) then 1 else 0)) (Res.ok (x26 * (if (decide (z33 = at')) then 1 else 0))) >>= fun x35 => (Res.ok (x34 + x35))))) >>= fun x36 => (gd (!decide ((26 : Int) = 0)) (Res.ok (Int.fmod x36 (26 : Int))))) >>= fun x37 => (strAt letS x37)))) (rng 0 sz)) >>= fun x38 => (gd (decide ((List.sum (List.map (fun z => z.length) x38)) + x38.length * ("" : Str).length ≤ 16777216)) (Res.ok (Txt.join ("" : Str) x38))))).to () fun v39 => gdO (decide (s25.length < sizeLine))
  (.nx (s25 ++ [v39]))))) (rng 0 n) ([] : List Str)).then fun s25 : (List Str) =>
  (gd (decide ((cutL s25 (some tn) none).length + (cutL s25 none (some tn)).length ≤ sizeLine)) (Res.ok ((cutL s25 (some tn) none) ++ (cutL s25 none (some tn))))).to () fun r40 => .rt r40) : Out Unit Unit (List Str) Unit) (fun _ => False) (fun _ => False) (fun _ => False) (fun l => l = ((rng 0 n).map (nmW v sz at' bs)).drop tn.toNat ++ ((rng 0 n).map (nmW v sz at' bs)).take tn.toNat) (fun _ _ => False) := by
  have bat : ∀ x : Int, 0 ≤ x → x < 8 → ixR bs x = Res.ok (bs.getD x.toNat 0) := fun x h0 h1 => by
    have hl : x.toNat < bs.length := by omega
    rw [ixR_int h0 (List.getElem?_eq_getElem hl), List.getD_eq_getElem?_getD, List.getElem?_eq_getElem hl]
    rfl
  refine then_nx (P := fun l : List Str => l = (rng 0 n).map (nmW v sz at' bs)) ?_ fun l hl => ?_
  · refine oz_loop (fun (xs : List Int) (s : List Str) => ∃ done, rng 0 n = done ++ xs ∧ s = done.map (nmW v sz at' bs)) ?_ (fun s h => ?_) ?_
    · exact ⟨[], rfl, rfl⟩
    · obtain ⟨d, h1, h2⟩ := h
      rw [List.append_nil] at h1
      rw [h2, h1]
    · intro x xs s ⟨d, h1, h2⟩
      have hx := rng_mem (show x ∈ rng 0 n by rw [h1]; exact List.mem_append_right _ List.mem_cons_self)
      have hd : d.length ≤ 8 := by
        have := congrArg List.length h1
        rw [rng_len, List.length_append] at this
        omega
      have fin : ∀ w : Str, w = nmW v sz at' bs x → decide (s.length < sizeLine) = true ∧ ∃ done, rng 0 n = done ++ xs ∧ s ++ [w] = done.map (nmW v sz at' bs) := fun w hw => by
        refine ⟨decide_eq_true (by rw [h2, List.length_map]; unfold sizeLine; omega), d ++ [x], by rw [h1, List.append_assoc]; rfl, by rw [h2, hw, List.map_append]; rfl⟩
      have e1 := word_eq (fun z28 : Int => ((ixR bs z28 >>= fun x29 => (strAt letS x29)))) (fun j => bs.getD j.toNat 0) (x + 1) (by omega) fun y h0 h1 => by
        have q := hbq y h0 (by omega)
        rw [bat y h0 (by omega), ok_bindN]
        exact let_at q.1 q.2
      have e2 := word_eq ((fun z33 : Int => ((((ixR bs z33 >>= fun x34 => ((gd (mulB x (if (decide (z33 = at')) then 1 else 0)) (Res.ok (x * (if (decide (z33 = at')) then 1 else 0))) >>= fun x35 => (Res.ok (x34 + x35))))) >>= fun x36 => (gd (!decide ((26 : Int) = 0)) (Res.ok (Int.fmod x36 (26 : Int))))) >>= fun x37 => (strAt letS x37))))) (fun j => Int.fmod (bs.getD j.toNat 0 + x * (if j = at' then 1 else 0)) 26) sz (by omega) fun y h0 h1 => by
        have q := hbq y h0 (by omega)
        rw [bat y h0 (by omega), ok_bindN]
        rw [gd_t (mulB_of 4 4 (by omega) (by split <;> omega) (by omega))]
        rw [ok_bindN, ok_bindN, gd_t (nz_of (show (26 : Int) ≠ 0 by decide)), ok_bindN]
        have f := fm_lt (bs.getD y.toNat 0 + x * (if y = at' then 1 else 0)) 26 (by decide)
        simp only [decide_eq_true_eq]
        exact let_at f.1 f.2
      rw [e1, e2]
      simp only [oz_to, rz_bind, rz_gd, rz_okI, oz_cond, oz_gdO, oz_nx]
      refine ⟨nz_of (by decide), fun h => fin _ ?_, fun h => fin _ ?_⟩
      · unfold nmW
        rw [if_pos (by simpa using h)]
      · unfold nmW
        rw [if_neg (by simpa using h)]
  · obtain ⟨k, rfl⟩ : ∃ k : Nat, tn = k := ⟨tn.toNat, by omega⟩
    have ll : l.length = n.toNat := by rw [hl, List.length_map, rng_len]; simp
    have e1 : cutL l (some (k : Int)) none = l.drop k := by
      unfold cutL
      rw [HT.sIx_none, HT.sIx_nat, Nat.min_eq_left (by omega), List.take_of_length_le (by simp)]
    have e2 : cutL l none (some (k : Int)) = l.take k := by
      unfold cutL
      rw [HT.sIx_none, HT.sIx_nat, Nat.min_eq_left (by omega)]; simp
    rw [e1, e2]
    simp only [oz_nx, oz_bk, oz_ct, oz_rt, oz_exc, oz_then, oz_to, oz_gdO, oz_cond, oz_noEO, oz_catO, rz_okI, rz_excI, rz_gd, rz_cond, rz_andR, rz_orR, rz_iteR, rz_getR, rz_bind]
    refine ⟨decide_eq_true (by rw [List.length_drop, List.length_take]; unfold sizeLine; omega), ?_⟩
    rw [← hl]
    rfl
theorem names_ok (z n : Int) (hn : 1 ≤ n ∧ n ≤ 8) : ∃ l : List Str, outR (namesF z n) = Res.ok l ∧ l.length = Int.toNat n ∧ (∀ x ∈ l, tOk 8 x) ∧ l.Nodup := by
  have q9 := fm_lt z 999983 (by decide)
  have hb := base_ok (Int.fmod z 999983) q9
  unfold namesF
  rw [gd_t (nz_of (show (999983 : Int) ≠ 0 by decide))]
  simp only [ok_toN]
  generalize Int.fmod z 999983 = v at q9 hb
  cases hb with
  | intro bs hh =>
    have g8 : ∀ m : Res (List Int), gd (rngB 0 (8 : Int) && decide (Int.toNat (8 : Int) ≤ sizeLine)) m = m := fun m => gd_t (by rw [rngB_of (by omega) (by omega) (by omega) (by omega), decide_eq_true (by unfold sizeLine; omega)]; rfl)
    rw [g8]
    rw [show (lcR (fun z11 : Int => (Res.ok true)) ((fun z12 : Int => (((((gd (mulB z12 z12) (Res.ok (z12 * z12)) >>= fun x13 => (Res.ok (x13 + (3 : Int)))) >>= fun x14 => (gd (mulB v x14) (Res.ok (v * x14)))) >>= fun x15 => (gd (!decide ((7919 : Int) = 0)) (Res.ok (Int.fmod x15 (7919 : Int))))) >>= fun x16 => (gd (!decide ((26 : Int) = 0)) (Res.ok (Int.fmod x16 (26 : Int)))))))) (rng 0 (8 : Int))) = Res.ok bs from hh.1]
    simp only [ok_toN]
    rw [gd_t (show divOk 3 = true by decide), gd_t (show divOk 24 = true by decide), gd_t (show divOk 5 = true by decide)]
    simp only [ok_bindN, ok_toN]
    rw [gd_t (nz_of (show (8 : Int) ≠ 0 by decide))]
    simp only [ok_bindN, ok_toN]
    have qs := fm_lt (Int.fdiv v 3) 8 (by decide)
    have qt := fm_lt (Int.fdiv v 5) n (by omega)
    have qa := fm_lt (Int.fdiv v 24) (1 + Int.fmod (Int.fdiv v 3) 8) (by omega)
    have hbq : ∀ j : Int, 0 ≤ j → j < 8 → 0 ≤ bs.getD j.toNat 0 ∧ bs.getD j.toNat 0 < 26 := fun j h0 h1 => by
      have hl : j.toNat < bs.length := by have := hh.2.1; omega
      rw [List.getD_eq_getElem?_getD, List.getElem?_eq_getElem hl]
      exact hh.2.2 _ (List.getElem_mem hl)
    have nr := names_rest v n (1 + Int.fmod (Int.fdiv v 3) 8) (Int.fmod (Int.fdiv v 24) (1 + Int.fmod (Int.fdiv v 3) 8)) (Int.fmod (Int.fdiv v 5) n) bs hn hh.2.1 hbq (by omega) qt
    rw [gd_t (nz_of (show (1 : Int) + Int.fmod (Int.fdiv v 3) 8 ≠ 0 by omega)), gd_t (nz_of (show n ≠ 0 by omega))]
    simp only [ok_toN]
    rw [gdO_t (rngB_of (by omega) (by omega) (by omega) (by omega))]
    obtain ⟨l, h1, h2⟩ := oz_rtex nr
    have hw : ∀ x ∈ (rng 0 n).map (nmW v (1 + Int.fmod (Int.fdiv v 3) 8) (Int.fmod (Int.fdiv v 24) (1 + Int.fmod (Int.fdiv v 3) 8)) bs), tOk 8 x := fun x hx => by
      obtain ⟨k, hk, rfl⟩ := List.mem_map.mp hx
      exact nmW_ok v n _ _ bs hn.2 hbq (by omega) k (rng_mem hk)
    refine ⟨l, by rw [h1]; rfl, ?_, fun x hx => ?_, ?_⟩
    · rw [h2, List.length_append, List.length_drop, List.length_take, List.length_map, rng_len]
      omega
    · rw [h2] at hx
      rcases List.mem_append.mp hx with hx | hx
      · exact hw x (List.mem_of_mem_drop hx)
      · exact hw x (List.mem_of_mem_take hx)
    · rw [h2, List.perm_append_comm.nodup_iff, List.take_append_drop]
      exact nmW_nodup v n _ _ bs hn.2 hbq (by omega) qa
end Q
/-! Q36: the firms, strangers and rows that laws k41-k49 draw. -/
namespace Q
open PySem L2 PySem.Spec
def peopleF (a0 : (List Int)) : Out Unit Unit ((List Str) × (List Str)) Unit :=
  (outR (cellF a0 (0 : Int))).to () fun v2 =>
  (outR (namesF v2 (8 : Int))).to () fun v8 =>
  (((outR (mixF v2 (40014 : Int)) >>= fun x52 => (gd (!decide ((4 : Int) = 0)) (Res.ok (Int.fmod x52 (4 : Int))))) >>= fun x53 => (Res.ok ((1 : Int) + x53)))).to () fun v44 =>
  ((((outR (mixF v2 (69621 : Int)) >>= fun x56 => (gd (!decide ((8 : Int) = 0)) (Res.ok (Int.fmod x56 (8 : Int))))) >>= fun x57 => (Res.ok (decide (x57 = (5 : Int)))))).to () fun b58 => cond b58
  ((Res.ok (6 : Int)).to () fun v59 =>
  .nx v59)
  (.nx v44)).then fun s60 : Int =>
  (((outR (mixF v2 (39373 : Int)) >>= fun x64 => (gd (!decide ((if ((8 : Int) - s60) < (3 : Int) then ((8 : Int) - s60) else (3 : Int)) = 0)) (Res.ok (Int.fmod x64 (if ((8 : Int) - s60) < (3 : Int) then ((8 : Int) - s60) else (3 : Int)))))) >>= fun x65 => (Res.ok ((1 : Int) + x65)))).to () fun v61 =>
  (Res.ok ((cutL v8 none (some s60)), (cutL v8 (some s60) (some (s60 + v61))))).to () fun r68 => .rt r68
def sharesF (a0 : Int) : Out Unit Unit Int Unit :=
  ((gd (!decide ((2 : Int) = 0)) (Res.ok (Int.fmod a0 (2 : Int))) >>= fun x99 => (Res.ok (decide (x99 = (0 : Int)))))).to () fun b100 => cond b100
  ((((gd (divOk (2 : Int)) (Res.ok (Int.fdiv a0 (2 : Int))) >>= fun x101 => (gd (!decide ((9 : Int) = 0)) (Res.ok (Int.fmod x101 (9 : Int))))) >>= fun x102 => (Res.ok (x102 + (1 : Int))))).to () fun r103 => .rt r103)
  (((((gd (divOk (2 : Int)) (Res.ok (Int.fdiv a0 (2 : Int))) >>= fun x104 => (gd (mulB x104 (7919 : Int)) (Res.ok (x104 * (7919 : Int))))) >>= fun x105 => ((gd (powB (10 : Int) (6 : Int)) (Res.ok ((10 : Int) ^ Int.toNat (6 : Int))) >>= fun x106 => (gd (!decide (x106 = 0)) (Res.ok (Int.fmod x105 x106)))))) >>= fun x107 => (Res.ok (x107 + (1 : Int))))).to () fun r108 => .rt r108)
def goodF (a0 : (List Int)) (a1 : (List Str)) (a2 : (List Str)) : Out Unit Unit (List (Str × Str × Int)) Unit :=
  (outR (cellF a0 (1 : Int))).to () fun v74 =>
  ((outR (mixF v74 (48271 : Int)) >>= fun x80 => (gd (!decide ((a1.length : Int) = 0)) (Res.ok (Int.fmod x80 (a1.length : Int)))))).to () fun v77 =>
  (gd (decide ((cutL a1 (some v77) none).length + (cutL a1 none (some v77)).length ≤ sizeLine)) (Res.ok ((cutL a1 (some v77) none) ++ (cutL a1 none (some v77))))).to () fun v81 =>
  (Res.ok ([] : (List (Str × Str × Int)))).to () fun v82 =>
  (Res.ok (v81.length : Int)).to () fun n152 => gdO (rngB 0 n152) ((loopO (fun (x84 : Int) (s83 : (List (Str × Str × Int))) =>
  ((((gd (mulB (2 : Int) x84) (Res.ok ((2 : Int) * x84)) >>= fun x86 => (Res.ok ((30269 : Int) + x86))) >>= fun x87 => (outR (mixF v74 x87)))).to () fun v85 =>
  ((gd (!decide ((a2.length : Int) = 0)) (Res.ok (Int.fmod v85 (a2.length : Int))) >>= fun x91 => (ixR a2 x91))).to () fun v90 =>
  ((andR (Res.ok (decide ((0 : Int) < x84))) (((gd (divOk (7 : Int)) (Res.ok (Int.fdiv v85 (7 : Int))) >>= fun x92 => (gd (!decide ((3 : Int) = 0)) (Res.ok (Int.fmod x92 (3 : Int))))) >>= fun x93 => (Res.ok (!decide (x93 = (0 : Int))))))).to () fun b94 => cond b94
  ((((gd (divOk (21 : Int)) (Res.ok (Int.fdiv v85 (21 : Int))) >>= fun x96 => (gd (!decide (x84 = 0)) (Res.ok (Int.fmod x96 x84)))) >>= fun x97 => (ixR v81 x97))).to () fun v95 =>
  .nx v95)
  (.nx v90)).then fun s98 : Str =>
  ((ixR v81 x84 >>= fun x115 => (((((gd (mulB (2 : Int) x84) (Res.ok ((2 : Int) * x84)) >>= fun x109 => (Res.ok ((40692 : Int) + x109))) >>= fun x110 => (outR (mixF v74 x110))) >>= fun x113 => (outR (sharesF x113))) >>= fun x116 => (Res.ok (s98, x115, x116)))))).to () fun v120 => gdO (decide (s83.length < sizeLine))
  (.nx (s83 ++ [v120])))) (rng 0 n152) v82).then fun s83 : (List (Str × Str × Int)) =>
  (Res.ok (cutL a0 (some (4 : Int)) (some (52 : Int)))).to () fun v121 =>
  (gd (decide (a1.length + a2.length ≤ sizeLine)) (Res.ok (a1 ++ a2))).to () fun v122 =>
  (gd (divOk (2 : Int)) (Res.ok (Int.fdiv (v121.length : Int) (2 : Int)))).to () fun n151 => gdO (rngB 0 n151) ((loopO (fun (x124 : Int) (s123 : (List (Str × Str × Int))) =>
  (((gd (mulB (2 : Int) x124) (Res.ok ((2 : Int) * x124)) >>= fun x126 => (ixR v121 x126))).to () fun v125 =>
  (((outR (mixF v125 (48271 : Int)) >>= fun x130 => (gd (!decide ((v122.length : Int) = 0)) (Res.ok (Int.fmod x130 (v122.length : Int))))) >>= fun x131 => (ixR v122 x131))).to () fun v127 =>
  (((outR (mixF v125 (69621 : Int)) >>= fun x135 => (gd (!decide ((a1.length : Int) = 0)) (Res.ok (Int.fmod x135 (a1.length : Int))))) >>= fun x136 => (ixR a1 x136))).to () fun v132 =>
  ((outR (mixF v125 (16807 : Int)) >>= fun x140 => (gd (!decide (((s123.length : Int) + (1 : Int)) = 0)) (Res.ok (Int.fmod x140 ((s123.length : Int) + (1 : Int))))))).to () fun v137 =>
  (Res.ok v137).to () fun j149 => (((((gd (mulB (2 : Int) x124) (Res.ok ((2 : Int) * x124)) >>= fun x141 => (Res.ok (x141 + (1 : Int)))) >>= fun x142 => (ixR v121 x142)) >>= fun x143 => (outR (sharesF x143))) >>= fun x145 => (Res.ok (v127, v132, x145)))).to () fun v150 => gdO (decide (s123.length < sizeLine) && decide (0 ≤ j149) && decide (j149 < 2 ^ 63))
  (.nx (s123.take (Int.toNat j149) ++ [v150] ++ s123.drop (Int.toNat j149))))) (rng 0 n151) s83).then fun s123 : (List (Str × Str × Int)) =>
  .rt s123))
theorem nx_thenN {ν ν' β ρ ξ : Type} (x : ν) (k : ν → Out ν' β ρ ξ) : (Out.nx x).then k = k x := nonrfl' rfl
theorem outR_rtN {ρ ξ : Type} (x : ρ) : outR (.rt x : Out Unit Unit ρ ξ) = .ok x := nonrfl' rfl
theorem small_bits {z : Int} (h : 0 ≤ z ∧ z < 2 ^ 40) : Builtin.Int.intBits z ≤ 1048576 := Nat.le_trans (PyProof.Rows.intBits_le (show z.natAbs < 2 ^ 40 by omega)) (by decide)
theorem people_ok8 (ns : List Int) : ∃ fs ss : List Str, outR (peopleF ns) = Res.ok (fs, ss) ∧ (1 ≤ fs.length ∧ fs.length ≤ 6) ∧ (1 ≤ ss.length ∧ ss.length ≤ 3) ∧ (∀ x ∈ fs ++ ss, tOk 8 x) ∧ (fs ++ ss).Nodup ∧ fs.length + ss.length ≤ 8 := by
  obtain ⟨w, hw, _⟩ := cell_ok ns 0 (by decide)
  obtain ⟨l, hl, hl1, hl2, hl3⟩ := names_ok w 8 (by decide)
  obtain ⟨m, hm, m0, _⟩ := mix_ok w 40014 (by decide)
  obtain ⟨m2, hm2, m20, _⟩ := mix_ok w 69621 (by decide)
  obtain ⟨m3, hm3, m30, _⟩ := mix_ok w 39373 (by decide)
  have q := fm_lt m 4 (by decide)
  have hl8 : l.length = 8 := by rw [hl1]; rfl
  obtain ⟨k, hk, k1, k2⟩ : ∃ k : Nat, (if Int.fmod m2 8 = 5 then (6 : Int) else 1 + Int.fmod m 4) = k ∧ 1 ≤ k ∧ k ≤ 6 := by
    split
    · exact ⟨6, rfl, by decide, by decide⟩
    · exact ⟨(1 + Int.fmod m 4).toNat, by omega, by omega, by omega⟩
  have q3 := fm_lt m3 (if (8 : Int) - k < 3 then 8 - (k : Int) else 3) (by split <;> omega)
  obtain ⟨j, hj, j1, j2⟩ : ∃ j : Nat, (1 : Int) + Int.fmod m3 (if (8 : Int) - k < 3 then 8 - (k : Int) else 3) = j ∧ 1 ≤ j ∧ j ≤ 3 := ⟨((1 : Int) + Int.fmod m3 (if (8 : Int) - k < 3 then 8 - (k : Int) else 3)).toNat, by omega, by omega, by have := q3.2; split at this <;> omega⟩
  have jk : k + j ≤ 8 := by have := q3.2; split at this <;> omega
  have ec : cutL l none (some (k : Int)) = l.take k := by
    unfold cutL
    rw [HT.sIx_none, HT.sIx_nat, Nat.min_eq_left (by omega)]; simp
  have ed : cutL l (some (k : Int)) (some ((k : Int) + (j : Int))) = (l.drop k).take j := by
    unfold cutL
    rw [show ((k : Int) + (j : Int)) = ((k + j : Nat) : Int) by omega, HT.sIx_nat, HT.sIx_nat, Nat.min_eq_left (by omega), Nat.min_eq_left (by omega)]
    rw [show k + j - k = j by omega]
  have sl : (l.take k ++ (l.drop k).take j).Sublist l := by
    have := (List.Sublist.refl (l.take k)).append (List.take_sublist j (l.drop k))
    rw [List.take_append_drop] at this
    exact this
  refine ⟨l.take k, (l.drop k).take j, ?_, by rw [List.length_take]; omega, by rw [List.length_take, List.length_drop]; omega, fun x hx => hl2 x (sl.subset hx), sl.nodup hl3, by rw [List.length_take, List.length_take, List.length_drop]; omega⟩
  unfold peopleF
  rw [hw]
  simp only [ok_toN]
  rw [hl, hm, hm2]
  simp only [ok_bindN, ok_toN]
  rw [gd_t (nz_of (show (4 : Int) ≠ 0 by decide)), gd_t (nz_of (show (8 : Int) ≠ 0 by decide))]
  simp only [ok_bindN, ok_toN]
  have e1 : (cond (decide (Int.fmod m2 8 = 5)) (Out.nx (6 : Int)) (Out.nx (1 + Int.fmod m 4)) : Out Int Unit (List Str × List Str) Unit) = .nx (k : Int) := by
    rw [← hk]
    by_cases h : Int.fmod m2 8 = 5 <;> simp [h]
  rw [e1]
  rw [nx_thenN]
  rw [hm3]
  simp only [ok_bindN]
  rw [gd_t (nz_of (show (if (8 : Int) - k < 3 then 8 - (k : Int) else 3) ≠ 0 by split <;> omega))]
  simp only [ok_bindN, ok_toN]
  rw [hj, ec, ed, outR_rtN]
theorem people_ok (ns : List Int) : ∃ fs ss : List Str, outR (peopleF ns) = Res.ok (fs, ss) ∧ (1 ≤ fs.length ∧ fs.length ≤ 6) ∧ (1 ≤ ss.length ∧ ss.length ≤ 3) ∧ (∀ x ∈ fs ++ ss, tOk 8 x) ∧ (fs ++ ss).Nodup := by
  obtain ⟨fs, ss, h1, h2, h3, h4, h5, _⟩ := people_ok8 ns
  exact ⟨fs, ss, h1, h2, h3, h4, h5⟩
theorem shares_ok (z : Int) (h : Builtin.Int.intBits z ≤ 1048576) : ∃ v : Int, outR (sharesF z) = Res.ok v ∧ 1 ≤ v ∧ v < 2 ^ 20 := by
  have k0 := bits_lt h
  have k1 : Builtin.Int.intBits (Int.fdiv z 2) ≤ 1048576 := PyProof.Rows.intBits_le (Nat.lt_of_le_of_lt (fdiv_abs z 2 (by decide)) k0)
  have p1 : powB (10 : Int) (6 : Int) = true := by decide
  have m1 : mulB (Int.fdiv z 2) (7919 : Int) = true := mulB_big 200 (Nat.le_trans k1 (by decide)) (by decide) (by decide)
  have q9 := fm_lt (Int.fdiv z 2) 9 (by decide)
  have q6 := fm_lt (Int.fdiv z 2 * 7919) ((10 : Int) ^ Int.toNat (6 : Int)) (by decide)
  have e6 : (10 : Int) ^ Int.toNat (6 : Int) < 2 ^ 20 - 1 := by decide
  unfold sharesF
  rw [gd_t (nz_of (show (2 : Int) ≠ 0 by decide)), gd_t (show divOk 2 = true by decide), gd_t p1]
  simp only [ok_bindN, ok_toN]
  rw [gd_t (nz_of (show (9 : Int) ≠ 0 by decide)), gd_t m1]
  simp only [ok_bindN, ok_toN]
  rw [gd_t (nz_of (show (10 : Int) ^ Int.toNat (6 : Int) ≠ 0 by decide))]
  simp only [ok_bindN, ok_toN]
  generalize (10 : Int) ^ Int.toNat (6 : Int) = t at *
  generalize Int.fmod (Int.fdiv z 2 * 7919) t = u at *
  generalize Int.fmod (Int.fdiv z 2) 9 = u9 at *
  generalize decide (Int.fmod z 2 = 0) = b
  cases b with
  | true => exact ⟨_, rfl, by omega, by omega⟩
  | false => exact ⟨_, rfl, by omega, by omega⟩
abbrev Rw3 := Str × Str × Int
def rowOk (fs ss : List Str) (r : Rw3) : Prop := r.1 ∈ fs ++ ss ∧ r.2.1 ∈ fs ∧ 1 ≤ r.2.2 ∧ r.2.2 < 2 ^ 20
theorem ix_md {α : Type} (l : List α) (hl : 1 ≤ l.length) (z : Int) : ∃ x, ixR l (Int.fmod z (l.length : Int)) = Res.ok x ∧ x ∈ l := by
  have q := fm_lt z (l.length : Int) (by omega)
  have h : (Int.fmod z (l.length : Int)).toNat < l.length := by omega
  exact ⟨_, ixR_int q.1 (List.getElem?_eq_getElem h), List.getElem_mem h⟩
theorem cut_rot {α : Type} (l : List α) (k : Nat) (h : k ≤ l.length) : cutL l (some (k : Int)) none = l.drop k ∧ cutL l none (some (k : Int)) = l.take k := by
  constructor
  · unfold cutL
    rw [HT.sIx_none, HT.sIx_nat, Nat.min_eq_left (by omega), List.take_of_length_le (by simp)]
  · unfold cutL
    rw [HT.sIx_none, HT.sIx_nat, Nat.min_eq_left (by omega)]; simp
theorem good1_ok (w : Int) (fs ss od : List Str) (hs : 1 ≤ ss.length) (ho : od.length ≤ 6) (hm : ∀ x ∈ od, x ∈ fs) :
    Oz ((loopO (fun (x84 : Int) (s83 : (List (Str × Str × Int))) =>
  ((((gd (mulB (2 : Int) x84) (Res.ok ((2 : Int) * x84)) >>= fun x86 => (Res.ok ((30269 : Int) + x86))) >>= fun x87 => (outR (mixF w x87)))).to () fun v85 =>
  ((gd (!decide ((ss.length : Int) = 0)) (Res.ok (Int.fmod v85 (ss.length : Int))) >>= fun x91 => (ixR ss x91))).to () fun v90 =>
  ((andR (Res.ok (decide ((0 : Int) < x84))) (((gd (divOk (7 : Int)) (Res.ok (Int.fdiv v85 (7 : Int))) >>= fun x92 => (gd (!decide ((3 : Int) = 0)) (Res.ok (Int.fmod x92 (3 : Int))))) >>= fun x93 => (Res.ok (!decide (x93 = (0 : Int))))))).to () fun b94 => cond b94
  ((((gd (divOk (21 : Int)) (Res.ok (Int.fdiv v85 (21 : Int))) >>= fun x96 => (gd (!decide (x84 = 0)) (Res.ok (Int.fmod x96 x84)))) >>= fun x97 => (ixR od x97))).to () fun v95 =>
  .nx v95)
  (.nx v90)).then fun s98 : Str =>
  ((ixR od x84 >>= fun x115 => (((((gd (mulB (2 : Int) x84) (Res.ok ((2 : Int) * x84)) >>= fun x109 => (Res.ok ((40692 : Int) + x109))) >>= fun x110 => (outR (mixF w x110))) >>= fun x113 => (outR (sharesF x113))) >>= fun x116 => (Res.ok (s98, x115, x116)))))).to () fun v120 => gdO (decide (s83.length < sizeLine))
  (.nx (s83 ++ [v120])))) (rng 0 (od.length : Int)) ([] : List (Str × Str × Int))) : Out (List Rw3) Unit (List Rw3) Unit) (fun s => s.length ≤ 6 ∧ ∀ r ∈ s, rowOk fs ss r) (fun _ => False) (fun _ => False) (fun _ => False) (fun _ _ => False) := by
  refine oz_loop (fun (xs : List Int) (s : List Rw3) => s.length + xs.length ≤ 6 ∧ (∀ x ∈ xs, 0 ≤ x ∧ x < (od.length : Int)) ∧ ∀ r ∈ s, rowOk fs ss r) ?_ (fun s h => ⟨by have := h.1; simpa using this, h.2.2⟩) ?_
  · exact ⟨by rw [rng_len]; simp; omega, fun x hx => rng_mem hx, fun _ h => nomatch h⟩
  · intro x xs s ⟨h1, h2, h3⟩
    obtain ⟨x0, x1⟩ := h2 x List.mem_cons_self
    rw [List.length_cons] at h1
    have mb : mulB (2 : Int) x = true := mulB_of 3 8 (by decide) (by omega) (by decide)
    obtain ⟨m, hm1, hm2, _⟩ := mix_ok w (30269 + 2 * x) (by omega)
    obtain ⟨m', hm3, hm4⟩ := mix_ok w (40692 + 2 * x) (by omega)
    obtain ⟨v, hv1, hv2⟩ := shares_ok m' (small_bits hm4)
    obtain ⟨h0, e0, i0⟩ := ix_md ss hs m
    have k0 : x.toNat < od.length := by omega
    rw [gd_t mb]
    simp only [ok_bindN]
    rw [hm1, hm3]
    simp only [ok_toN, ok_bindN]
    rw [gd_t (nz_of (show (ss.length : Int) ≠ 0 by omega))]
    simp only [ok_bindN]
    rw [e0, hv1]
    simp only [ok_toN]
    refine then_nx (P := fun h => h ∈ fs ++ ss) ?_ fun h hh => ?_
    · simp only [oz_nx, oz_bk, oz_ct, oz_rt, oz_exc, oz_then, oz_to, oz_gdO, oz_cond, oz_noEO, oz_catO, rz_okI, rz_excI, rz_gd, rz_cond, rz_andR, rz_orR, rz_iteR, rz_getR, rz_bind, decide_eq_true_eq]
      refine ⟨fun hx => ⟨by decide, nz_of (by decide), fun _ => ⟨by decide, nz_of (by omega), ?_⟩, fun _ => List.mem_append_right _ i0⟩, fun hx => ⟨(fun z => nomatch z), fun _ => List.mem_append_right _ i0⟩⟩
      have q := fm_lt (Int.fdiv m 21) x hx
      have kk : (Int.fmod (Int.fdiv m 21) x).toNat < od.length := by omega
      rw [ixR_int q.1 (List.getElem?_eq_getElem kk)]
      exact List.mem_append_left _ (hm _ (List.getElem_mem kk))

    · rw [ixR_int x0 (List.getElem?_eq_getElem k0)]
      simp only [ok_bindN, ok_toN]
      rw [gdO_t (decide_eq_true (by unfold sizeLine; omega))]
      refine ⟨by rw [List.length_append]; simp; omega, fun y hy => h2 y (List.mem_cons_of_mem _ hy), fun y hy => ?_⟩
      rcases List.mem_append.mp hy with hy | hy
      · exact h3 y hy
      · rw [List.mem_singleton.mp hy]; exact ⟨hh, hm _ (List.getElem_mem k0), hv2⟩
theorem good2_ok (fs ss : List Str) (cells : List Int) (L : Nat) (s0 : List Rw3) (hf : 1 ≤ fs.length) (hL : L ≤ 24) (hL2 : 2 * L ≤ cells.length) (hc : ∀ z ∈ cells, Builtin.Int.intBits z ≤ 1048576) (h0 : s0.length ≤ 6) (hr : ∀ r ∈ s0, rowOk fs ss r) :
    Oz ((loopO (fun (x124 : Int) (s123 : (List (Str × Str × Int))) =>
  (((gd (mulB (2 : Int) x124) (Res.ok ((2 : Int) * x124)) >>= fun x126 => (ixR cells x126))).to () fun v125 =>
  (((outR (mixF v125 (48271 : Int)) >>= fun x130 => (gd (!decide (((fs ++ ss).length : Int) = 0)) (Res.ok (Int.fmod x130 ((fs ++ ss).length : Int))))) >>= fun x131 => (ixR (fs ++ ss) x131))).to () fun v127 =>
  (((outR (mixF v125 (69621 : Int)) >>= fun x135 => (gd (!decide ((fs.length : Int) = 0)) (Res.ok (Int.fmod x135 (fs.length : Int))))) >>= fun x136 => (ixR fs x136))).to () fun v132 =>
  ((outR (mixF v125 (16807 : Int)) >>= fun x140 => (gd (!decide (((s123.length : Int) + (1 : Int)) = 0)) (Res.ok (Int.fmod x140 ((s123.length : Int) + (1 : Int))))))).to () fun v137 =>
  (Res.ok v137).to () fun j149 => (((((gd (mulB (2 : Int) x124) (Res.ok ((2 : Int) * x124)) >>= fun x141 => (Res.ok (x141 + (1 : Int)))) >>= fun x142 => (ixR cells x142)) >>= fun x143 => (outR (sharesF x143))) >>= fun x145 => (Res.ok (v127, v132, x145)))).to () fun v150 => gdO (decide (s123.length < sizeLine) && decide (0 ≤ j149) && decide (j149 < 2 ^ 63))
  (.nx (s123.take (Int.toNat j149) ++ [v150] ++ s123.drop (Int.toNat j149))))) (rng 0 (L : Int)) s0) : Out (List Rw3) Unit (List Rw3) Unit) (fun s => s.length ≤ 30 ∧ ∀ r ∈ s, rowOk fs ss r) (fun _ => False) (fun _ => False) (fun _ => False) (fun _ _ => False) := by
  refine oz_loop (fun (xs : List Int) (s : List Rw3) => s.length + xs.length ≤ 30 ∧ (∀ x ∈ xs, 0 ≤ x ∧ x < (L : Int)) ∧ ∀ r ∈ s, rowOk fs ss r) ?_ (fun s h => ⟨by have := h.1; simpa using this, h.2.2⟩) ?_
  · exact ⟨by rw [rng_len]; omega, fun x hx => rng_mem hx, hr⟩
  · intro x xs s ⟨h1, h2, h3⟩
    obtain ⟨x0, x1⟩ := h2 x List.mem_cons_self
    rw [List.length_cons] at h1
    have mb : mulB (2 : Int) x = true := mulB_of 3 8 (by decide) (by omega) (by decide)
    have k0 : (2 * x).toNat < cells.length := by omega
    have k1 : (2 * x + 1).toNat < cells.length := by omega
    have i0 := ixR_int (i := 2 * x) (by omega) (List.getElem?_eq_getElem k0)
    have i1 := ixR_int (i := 2 * x + 1) (by omega) (List.getElem?_eq_getElem k1)
    obtain ⟨v, hv1, hv2⟩ := shares_ok (cells[(2 * x + 1).toNat]) (hc _ (List.getElem_mem k1))
    generalize cells[(2 * x).toNat] = c at i0
    generalize cells[(2 * x + 1).toNat] = c' at i1 hv1
    obtain ⟨a, ha1, ha2, _⟩ := mix_ok c 48271 (by decide)
    obtain ⟨b, hb1, hb2, _⟩ := mix_ok c 69621 (by decide)
    obtain ⟨d, hd1, hd2, _⟩ := mix_ok c 16807 (by decide)
    obtain ⟨y, e1, i1'⟩ := ix_md (fs ++ ss) (by rw [List.length_append]; omega) a
    obtain ⟨f, e2, i2⟩ := ix_md fs hf b
    rw [gd_t mb]
    simp only [ok_bindN]
    rw [i0, i1]
    simp only [ok_bindN, ok_toN]
    rw [ha1, hb1, hd1, hv1]
    simp only [ok_bindN]
    rw [gd_t (nz_of (show ((fs ++ ss).length : Int) ≠ 0 by rw [List.length_append]; omega)), gd_t (nz_of (show (fs.length : Int) ≠ 0 by omega)), gd_t (nz_of (show (s.length : Int) + 1 ≠ 0 by omega))]
    simp only [ok_bindN]
    rw [e1, e2]
    simp only [ok_toN]
    have q := fm_lt d ((s.length : Int) + 1) (by omega)
    generalize Int.fmod d ((s.length : Int) + 1) = j at q
    rw [gdO_t (show (decide (s.length < sizeLine) && decide (0 ≤ j) && decide (j < 2 ^ 63)) = true by rw [decide_eq_true (show s.length < sizeLine by unfold sizeLine; omega), decide_eq_true q.1, decide_eq_true (show j < 2 ^ 63 by omega)]; rfl)]
    have hl : (s.take j.toNat ++ [(y, f, v)] ++ s.drop j.toNat).length = s.length + 1 := by simp; omega
    refine ⟨by rw [hl]; omega, fun y hy => h2 y (List.mem_cons_of_mem _ hy), fun r hy => ?_⟩
    rcases List.mem_append.mp hy with hy | hy
    · rcases List.mem_append.mp hy with hy | hy
      · exact h3 r (List.mem_of_mem_take hy)
      · rw [List.mem_singleton.mp hy]; exact ⟨i1', i2, hv2⟩
    · exact h3 r (List.mem_of_mem_drop hy)
theorem cutI_ok (ns : List Int) (i j : Nat) : (cutL ns (some (i : Int)) (some (j : Int))).length ≤ j - i ∧ ∀ x ∈ cutL ns (some (i : Int)) (some (j : Int)), x ∈ ns := by
  unfold cutL
  rw [HT.sIx_nat, HT.sIx_nat]
  exact ⟨by rw [List.length_take, List.length_drop]; omega, fun x hx => List.mem_of_mem_drop (List.mem_of_mem_take hx)⟩
theorem good_ok (ns : List Int) (hz : ∀ z ∈ ns, Builtin.Int.intBits z ≤ 1048576) (fs ss : List Str) (hf : 1 ≤ fs.length ∧ fs.length ≤ 6) (hs : 1 ≤ ss.length ∧ ss.length ≤ 3) : ∃ rows : List Rw3, outR (goodF ns fs ss) = Res.ok rows ∧ rows.length ≤ 30 ∧ ∀ r ∈ rows, rowOk fs ss r := by
  obtain ⟨w, hw, _⟩ := cell_ok ns 1 (by decide)
  obtain ⟨m, hm, _⟩ := mix_ok w 48271 (by decide)
  have q := fm_lt m (fs.length : Int) (by omega)
  obtain ⟨k, hk⟩ : ∃ k : Nat, Int.fmod m (fs.length : Int) = k := ⟨(Int.fmod m (fs.length : Int)).toNat, by omega⟩
  obtain ⟨e1, e2⟩ := cut_rot fs k (by omega)
  obtain ⟨c1, c2⟩ := cutI_ok ns 4 52
  unfold goodF
  rw [hw]
  simp only [ok_toN]
  rw [hm]
  simp only [ok_bindN]
  rw [gd_t (nz_of (show (fs.length : Int) ≠ 0 by omega)), hk]
  simp only [ok_toN]
  rw [e1, e2, gd_t (decide_eq_true (by rw [List.length_drop, List.length_take]; unfold sizeLine; omega))]
  simp only [ok_toN]
  have hol : (fs.drop k ++ fs.take k).length = fs.length := by rw [List.length_append, List.length_drop, List.length_take]; omega
  have hom : ∀ x ∈ fs.drop k ++ fs.take k, x ∈ fs := fun x hx => (List.mem_append.mp hx).elim List.mem_of_mem_drop List.mem_of_mem_take
  generalize fs.drop k ++ fs.take k = od at hol hom
  rw [gdO_t (rngB_of (by omega) (by omega) (by omega) (by omega))]
  obtain ⟨s0, g1, g2, g3⟩ := oz_nxex (good1_ok w fs ss od hs.1 (by omega) hom)
  rw [g1, nx_thenN]
  replace c1 : (cutL ns (some (4 : Int)) (some (52 : Int))).length ≤ 48 := c1
  replace c2 : ∀ x ∈ cutL ns (some (4 : Int)) (some (52 : Int)), x ∈ ns := c2
  generalize cutL ns (some (4 : Int)) (some (52 : Int)) = cells at c1 c2
  rw [gd_t (decide_eq_true (by unfold sizeLine; omega)), gd_t (show divOk 2 = true by decide)]
  simp only [ok_toN]
  obtain ⟨L, hL⟩ : ∃ L : Nat, Int.fdiv (cells.length : Int) 2 = L := ⟨(Int.fdiv (cells.length : Int) 2).toNat, by rw [Int.fdiv_eq_ediv_of_nonneg _ (by omega)]; omega⟩
  have hL2 : 2 * L ≤ cells.length := by rw [Int.fdiv_eq_ediv_of_nonneg _ (by omega)] at hL; omega
  rw [hL, gdO_t (rngB_of (by omega) (by omega) (by omega) (by omega))]
  have g4 := good2_ok fs ss cells L s0 hf.1 (by omega) hL2 (fun z hz' => hz z (c2 z hz')) g2 g3
  simp only [ok_toN, ok_bindN] at g4
  obtain ⟨s1, r1, r2, r3⟩ := oz_nxex g4
  rw [r1, nx_thenN]
  exact ⟨s1, outR_rtN s1, r2, r3⟩
end Q
/-! Q37: places: own things within own things. -/
namespace Q
open PySem L2 PySem.Spec
section
variable {T : Tb} {cs : List Nat} {C : Kc} {Γ Γ' Γ'' : Cx0} {α β γ κ ν ν' ρ ξ : Type}
/-- the names, known otherwise -/
def Cv (Γ Γ' : Cx0) : Prop := ∀ σ B Z H fp, Oks Γ σ B Z H fp → ∃ fq, Oks Γ' σ B Z H fq
theorem Cv.refl (Γ : Cx0) : Cv Γ Γ := fun _ _ _ _ fp o => ⟨fp, o⟩
theorem Cv.trans (a : Cv Γ Γ') (b : Cv Γ' Γ'') : Cv Γ Γ'' := fun σ B Z H fp o => by
  obtain ⟨fq, o2⟩ := a σ B Z H fp o
  exact b σ B Z H fq o2
theorem Cv.wk (w : Wk Γ Γ') : Cv Γ Γ' := fun _ _ _ _ _ o => o.wk w
/-- a term put into a continuation -/
def ap (k : α → β) (x : α) : β := k x
theorem b_cv {D : Ds ν β ρ ξ} {s : S} {m : Out ν β ρ ξ} (c : Cv Γ Γ') (h : Blk T cs C D Γ' s m) : Blk T cs C D Γ s m := fun W E σ B Z H fp o p => by
  obtain ⟨fq, o2⟩ := c σ B Z H fp o
  exact h W E σ B Z H fq o2 p
theorem EnvO.envC {B H : Hp} {σ : L2.St} {fp : List Addr} (h : EnvO B H σ Γ fp) (s : Same B H) : EnvC Γ σ B H := ⟨fun i o e => by
  obtain ⟨v, f, h1, h2, _⟩ := h.get e
  exact ⟨v, f, h1, h2⟩, s, h.len⟩
theorem perm_cnt {a b : List Addr} : a.Perm b ↔ ∀ x, a.count x = b.count x := List.perm_iff_count
/-- a place: e (if told) reads it; what stands there, what it is when another thing stands there -/
structure Pl (T : Tb) (C : Kc) (Γ : Cx0) (oe : Option E) (τ : α → Ow) (x : α) (put : Ow → Cx0) (pt : α → Cx0) : Prop where
  run : ∀ (σ : L2.St) (B H : Hp) (fp : List Addr), EnvO B H σ Γ fp → Same B H → ∃ u fx g,
    (∀ e, oe = some e → ∀ (W : WX) (Q : VK) (Bx Hx : Hp), Gon B H Bx Hx → (∀ B1 H1, Gon Bx Hx B1 H1 → Q u H1) → (rd T C e W).E σ Hx Q) ∧ (τ x).rel B H u fx ∧ (fx ++ g).Perm fp ∧
    ∀ B' H' (x' : Ow) fy, Same B B' → (∀ a ∈ g, H' a = H a) → x'.rel B' H' u fy → ∃ fp', EnvO B' H' σ (put x') fp' ∧ (fy ++ g).Perm fp'
  eq : ∀ y, put (τ y) = pt y
theorem pl_v {i : Nat} {τ : α → Ow} {x : α} (h : Γ[i]? = some (some (τ x))) : Pl T C Γ (some (.var i)) τ x (fun o => Γ.set i (some o)) (fun y => Γ.set i (some (τ y))) where
  run := fun σ B H fp k s => by
    obtain ⟨v, f, g, q1, q2, q3, q4⟩ := k.focus h
    refine ⟨v, f, g, fun e he W Q Bx Hx gx q => ?_, q2, q3, fun B' H' x' fy b n r => q4 B' H' x' fy b n r⟩
    cases he
    exact ⟨v, q1, q Bx Hx (.refl gx.s)⟩
  eq := fun _ => rfl
theorem Pl.un {oe : Option E} {τ : α → Ow} {x : α} {put : Ow → Cx0} {pt : α → Cx0} (h : Pl T C Γ oe τ x put pt) : Pl T C Γ none τ x put pt where
  run := fun σ B H fp k s => by
    obtain ⟨v, f, g, q1, q2, q3, q4⟩ := h.run σ B H fp k s
    exact ⟨v, f, g, fun e he => (nomatch he), q2, q3, q4⟩
  eq := h.eq
theorem pl_q {oe : Option E} {p : V → Prop} {τ : α → Ow} {x : α} {put : Ow → Cx0} {pt : α → Cx0} (h : Pl T C Γ oe (fun x => oQ p (τ x)) x put pt) : Pl T C Γ oe τ x (fun o => put (oQ p o)) pt where
  run := fun σ B H fp k s => by
    obtain ⟨v, f, g, q1, ⟨pv, q2⟩, q3, q4⟩ := h.run σ B H fp k s
    exact ⟨v, f, g, q1, q2, q3, fun B' H' x' fy b n r => q4 B' H' _ fy b n ⟨pv, r⟩⟩
  eq := h.eq
theorem OwL.foc {B H : Hp} : ∀ {os : List Ow} {vs : List V} {f : List Addr} {n : Nat} {o : Ow}, OwL B H vs os f → os[n]? = some o →
    ∃ v fx g, vs[n]? = some v ∧ (fx ++ g).Perm f ∧ o.rel B H v fx ∧ ∀ B' H' o' fy, Same B B' → (∀ a ∈ g, H' a = H a) → o'.rel B' H' v fy → ∃ f', OwL B' H' vs (os.set n o') f' ∧ (fy ++ g).Perm f'
  | [], _, _, _, _, _, e => by simp at e
  | x0 :: os, [], _, _, _, h, _ => h.elim
  | x0 :: os, v :: vs, f, 0, x, ⟨a, b, h1, h2, h3⟩, e => by
    simp only [List.getElem?_cons_zero, Option.some.injEq] at e
    subst e h1
    exact ⟨v, a, b, rfl, .refl _, h2, fun B' H' o' fy s n r => ⟨fy ++ b, ⟨fy, b, rfl, r, OwL.mono s n h3⟩, .refl _⟩⟩
  | x0 :: os, v :: vs, f, n + 1, x, ⟨a, b, h1, h2, h3⟩, e => by
    simp only [List.getElem?_cons_succ] at e
    obtain ⟨w, fx, g, k1, k2, k3, k4⟩ := OwL.foc h3 e
    subst h1
    refine ⟨w, fx, a ++ g, k1, (List.perm_append_comm_assoc fx a g).trans (k2.append_left a), k3, fun B' H' o' fy s n r => ?_⟩
    obtain ⟨f', z1, z2⟩ := k4 B' H' o' fy s (fun c hc => n c (List.mem_append_right _ hc)) r
    exact ⟨a ++ f', ⟨a, f', rfl, x0.mono s (fun c hc => n c (List.mem_append_left _ hc)) h2, z1⟩, (List.perm_append_comm_assoc fy a g).trans (z2.append_left a)⟩
/-- the place of a field -/
def fix (f : Str) : List (Str × Ow) → Option Nat
  | [] => none
  | (k, _) :: r => if k = f then some 0 else (fix f r).map (· + 1)
def setF (os : List (Str × Ow)) (n : Nat) (o : Ow) : List (Str × Ow) := (os.map (·.1)).zip ((os.map (·.2)).set n o)
theorem fix_look {f : Str} : ∀ {os : List (Str × Ow)} {fs : List (Str × V)} {n : Nat} {v : V}, fix f os = some n → fs.map (·.1) = os.map (·.1) → (fs.map (·.2))[n]? = some v → fs.lookup f = some v
  | [], _, _, _, h, _, _ => by cases h
  | (k, o) :: os, [], _, _, _, h, _ => by simp at h
  | (k, o) :: os, (k', w) :: fs, n, v, h, hk, hv => by
    simp only [List.map_cons, List.cons.injEq] at hk
    obtain ⟨rfl, hk⟩ := hk
    rw [List.lookup_cons]
    unfold fix at h
    by_cases e : k' = f
    · rw [if_pos e] at h
      cases h
      subst e
      simp only [List.map_cons, List.getElem?_cons_zero] at hv
      rw [show (k' == k') = true from beq_self_eq_true k']
      exact hv
    · rw [if_neg e] at h
      cases hf : fix f os with
      | none => rw [hf] at h; cases h
      | some m =>
        rw [hf] at h
        cases h
        simp only [List.map_cons, List.getElem?_cons_succ] at hv
        rw [show (f == k') = false from by simp [Ne.symm e]]
        exact fix_look hf hk hv
theorem setF_fst {os : List (Str × Ow)} {n : Nat} {o : Ow} : (setF os n o).map (·.1) = os.map (·.1) := by
  unfold setF
  exact List.map_fst_zip (by rw [List.length_set, List.length_map, List.length_map]; exact Nat.le_refl _)
theorem setF_snd {os : List (Str × Ow)} {n : Nat} {o : Ow} : (setF os n o).map (·.2) = (os.map (·.2)).set n o := by
  unfold setF
  exact List.map_snd_zip (by rw [List.length_set, List.length_map, List.length_map]; exact Nat.le_refl _)
/-- a field of an own instance -/
theorem pl_att {oe : Option E} {c n : Nat} {f : Str} {os : α → List (Str × Ow)} {x : α} {put : Ow → Cx0} {pt : α → Cx0} {τ : β → Ow} {y : β} {up : β → α} (hcl : Cls C.K (C.cl c)) (hna : NoAttr C.K (C.cl c) f)
    (h : Pl T C Γ oe (fun x => oIn C c (os x)) x put pt) (hf : fix f (os x) = some n) (ho : ((os x).map (·.2))[n]? = some (τ y)) (hu : ∀ z, setF (os x) n (τ z) = os (up z)) :
    Pl T C Γ (oe.map fun e => .att e f) τ y (fun o => put (oIn C c (setF (os x) n o))) (fun z => pt (up z)) where
  run := fun σ B H fp k s => by
    obtain ⟨v, f0, g, q1, ⟨p, dx, vs, ff, rfl, hp, ⟨hk, hl⟩, rfl⟩, q3, q4⟩ := h.run σ B H fp k s
    obtain ⟨w, fx, g2, k1, k2, k3, k4⟩ := OwL.foc hl ho
    refine ⟨w, fx, p :: (g2 ++ g), fun e he W Q Bx Hx gx q => ?_, k3, ?_, fun B' H' x' fy b n' r => ?_⟩
    · cases oe with
      | none => cases he
      | some e0 =>
        cases he
        refine q1 e0 rfl W _ Bx Hx gx fun B1 H1 g1 => ?_
        exact ⟨p, _, dx, vs, w, rfl, g1.h _ _ (gx.h _ _ hp), hcl, hna, fix_look hf hk k1, q B1 H1 g1⟩
    · rw [perm_cnt] at k2 q3 ⊢
      intro a
      have h1 := k2 a
      have h2 := q3 a
      simp only [List.count_append, List.count_cons] at h1 h2 ⊢
      omega
    · obtain ⟨f', z1, z2⟩ := k4 B' H' x' fy b (fun a ha => n' a (List.mem_cons_of_mem _ (List.mem_append_left _ ha))) r
      obtain ⟨fp', y1, y2⟩ := q4 B' H' (oIn C c (setF (os x) n x')) (p :: f') b (fun a ha => n' a (List.mem_cons_of_mem _ (List.mem_append_right _ ha))) ⟨p, dx, vs, f', rfl, by rw [n' p List.mem_cons_self]; exact hp, ⟨by rw [setF_fst]; exact hk, by rw [setF_snd]; exact z1⟩, rfl⟩
      refine ⟨fp', y1, ?_⟩
      rw [perm_cnt] at z2 y2 ⊢
      intro a
      have h1 := z2 a
      have h2 := y2 a
      simp only [List.count_append, List.count_cons] at h1 h2 ⊢
      omega
  eq := fun z => by rw [hu z]; exact h.eq _
/-- an item of a tuple -/
theorem pl_tup {oe : Option E} {n : Nat} {os : α → List Ow} {x : α} {put : Ow → Cx0} {pt : α → Cx0} {τ : β → Ow} {y : β} {up : β → α}
    (h : Pl T C Γ oe (fun x => oTup C (os x)) x put pt) (ho : (os x)[n]? = some (τ y)) (hu : ∀ z, (os x).set n (τ z) = os (up z)) :
    Pl T C Γ (oe.map fun e => .ix e (.int n)) τ y (fun o => put (oTup C ((os x).set n o))) (fun z => pt (up z)) where
  run := fun σ B H fp k s => by
    obtain ⟨v, f0, g, q1, ⟨p, vs, rfl, hp, hl⟩, q3, q4⟩ := h.run σ B H fp k s
    obtain ⟨w, fx, g2, k1, k2, k3, k4⟩ := OwL.foc hl ho
    refine ⟨w, fx, g2 ++ g, fun e he W Q Bx Hx gx q => ?_, k3, ?_, fun B' H' x' fy b n' r => ?_⟩
    · cases oe with
      | none => cases he
      | some e0 =>
        cases he
        refine q1 e0 rfl W _ Bx Hx gx fun B1 H1 g1 => ?_
        have hl : n < vs.length := by
          rcases Nat.lt_or_ge n vs.length with q | q
          · exact q
          · rw [List.getElem?_eq_none q] at k1; cases k1
        refine .inl (.inr (.inl ⟨p, vs, n, w, rfl, rfl, sm_sqT (sm_trans (sm_trans gx.b g1.b) g1.s) hp, ?_, q B1 H1 g1⟩))
        unfold atI ixN
        rw [if_pos (by omega), if_pos (by omega)]
        exact k1
    · rw [perm_cnt] at k2 q3 ⊢
      intro a
      have h1 := k2 a
      have h2 := q3 a
      simp only [List.count_append] at h1 h2 ⊢
      omega
    · obtain ⟨f', z1, z2⟩ := k4 B' H' x' fy b (fun a ha => n' a (List.mem_append_left _ ha)) r
      obtain ⟨fp', y1, y2⟩ := q4 B' H' (oTup C ((os x).set n x')) f' b (fun a ha => n' a (List.mem_append_right _ ha)) ⟨p, vs, rfl, sm_sqT b hp, z1⟩
      refine ⟨fp', y1, ?_⟩
      rw [perm_cnt] at z2 y2 ⊢
      intro a
      have h1 := z2 a
      have h2 := y2 a
      simp only [List.count_append] at h1 h2 ⊢
      omega
  eq := fun z => by rw [hu z]; exact h.eq _
/-- xs[j] = y, where there is such a place -/
def setJ (xs : List α) (j : Int) (y : α) : List α := match ixN xs.length j with
  | some n => xs.set n y
  | none => xs
/-- an item of a list -/
theorem pl_ix {oe : Option E} {i : E} {j : Int} {τ : α → Ow} {xs : List α} {x : α} {put : Ow → Cx0} {pt : List α → Cx0} (h : Pl T C Γ oe (oL C τ) xs put pt) (hi : ∀ e, oe = some e → EvB T C Γ i vInt (.ok j)) (hx : ixR xs j = .ok x) :
    Pl T C Γ (oe.map fun e => .ix e i) τ x (fun o => put (oLs C (setJ (xs.map τ) j o))) (fun y => pt (setJ xs j y)) := by
  obtain ⟨n, hn, hxn⟩ : ∃ n, ixN xs.length j = some n ∧ xs[n]? = some x := by
    unfold ixR at hx
    cases q : atI xs j with
    | none => rw [q] at hx; cases hx
    | some z =>
      rw [q] at hx
      cases hx
      unfold atI at q
      cases q2 : ixN xs.length j with
      | none => rw [q2] at q; cases q
      | some n => rw [q2] at q; exact ⟨n, rfl, q⟩
  have e1 : ∀ o : Ow, setJ (xs.map τ) j o = (xs.map τ).set n o := fun o => by
    unfold setJ
    rw [List.length_map, hn]
  have e2 : ∀ y : α, setJ xs j y = xs.set n y := fun y => by
    unfold setJ
    rw [hn]
  refine ⟨fun σ B H fp k s => ?_, fun y => ?_⟩
  · obtain ⟨v, f0, g, q1, ⟨p, vs, ff, rfl, hp, hl, rfl⟩, q3, q4⟩ := h.run σ B H fp k s
    obtain ⟨w, fx, g2, k1, k2, k3, k4⟩ := OwL.foc (n := n) (o := τ x) hl (by rw [List.getElem?_map, hxn]; rfl)
    refine ⟨w, fx, p :: (g2 ++ g), fun e he W Q Bx Hx gx q => ?_, k3, ?_, fun B' H' x' fy b n' r => ?_⟩
    · cases oe with
      | none => cases he
      | some e0 =>
        cases he
        refine q1 e0 rfl W _ Bx Hx gx fun B1 H1 g1 => ?_
        have gx1 := gx.trans g1
        refine hi e0 rfl W σ B1 H1 _ ((k.envC s).up gx1.b gx1.h gx1.s) fun u B2 H2 g2 e2 => ?_
        cases e2
        refine .inl (.inl ⟨p, vs, j, w, rfl, rfl, .inl (.inl (g2.h _ _ (gx1.h _ _ hp))), ?_, q B2 H2 (g1.trans g2)⟩)
        unfold atI
        rw [hl.len, List.length_map, hn]
        exact k1
    · rw [perm_cnt] at k2 q3 ⊢
      intro a
      have h1 := k2 a
      have h2 := q3 a
      simp only [List.count_append, List.count_cons] at h1 h2 ⊢
      omega
    · obtain ⟨f', z1, z2⟩ := k4 B' H' x' fy b (fun a ha => n' a (List.mem_cons_of_mem _ (List.mem_append_left _ ha))) r
      obtain ⟨fp', y1, y2⟩ := q4 B' H' (oLs C (setJ (xs.map τ) j x')) (p :: f') b (fun a ha => n' a (List.mem_cons_of_mem _ (List.mem_append_right _ ha))) ⟨p, vs, f', rfl, by rw [n' p List.mem_cons_self]; exact hp, by rw [e1]; exact z1, rfl⟩
      refine ⟨fp', y1, ?_⟩
      rw [perm_cnt] at z2 y2 ⊢
      intro a
      have h1 := z2 a
      have h2 := y2 a
      simp only [List.count_append, List.count_cons] at h1 h2 ⊢
      omega
  · show put (oLs C (setJ (xs.map τ) j (τ y))) = pt (setJ xs j y)
    rw [e1, e2, ← h.eq]
    show put (oLs C _) = put (oLs C _)
    rw [← List.map_set]
/-- a name that says where a thing stands -/
theorem pl_alias {i : Nat} {v : V} {τ : α → Ow} {x : α} {put : Ow → Cx0} {pt : α → Cx0} (hi : Γ[i]? = some (some (oV (vC v)))) (h : Pl T C Γ none (fun x => oQ (· = v) (τ x)) x put pt) : Pl T C Γ (some (.var i)) τ x (fun o => put (oQ (· = v) o)) pt where
  run := fun σ B H fp k s => by
    obtain ⟨u, f, g, _, ⟨pv, q2⟩, q3, q4⟩ := h.run σ B H fp k s
    refine ⟨u, f, g, fun e he W Q Bx Hx gx q => ?_, q2, q3, fun B' H' x' fy b n r => q4 B' H' _ fy b n ⟨pv, r⟩⟩
    cases he
    obtain ⟨w, f1, h1, h2, _⟩ := k.get hi
    have e1 : u = v := pv
    have e2 : w = v := h2.1
    exact ⟨w, h1, by rw [e2, ← e1]; exact q Bx Hx (.refl gx.s)⟩
  eq := h.eq
theorem Oks.fresh {σ : L2.St} {B B1 Z H : Hp} {fp : List Addr} (k : Oks Γ σ B Z H fp) {a : Addr} (h : H a = none) (b : B1 a = none) : a ∉ fp ∧ Z a = none ∧ B1 a = none := ⟨fun z => absurd (k.env.al a z) (by rw [h]; decide), none_back k.z h, b⟩
/-- the thing at a place is changed, the others stay -/
theorem Pl.chg {oe : Option E} {τ : α → Ow} {x : α} {put : Ow → Cx0} {pt : α → Cx0} (h : Pl T C Γ oe τ x put pt) {σ : L2.St} {B Z H : Hp} {fp : List Addr} (k : Oks Γ σ B Z H fp) :
    ∃ u fx, (∀ e, oe = some e → ∀ (W : WX) (Q : VK) (Bx Hx : Hp), Gon B H Bx Hx → (∀ B1 H1, Gon Bx Hx B1 H1 → Q u H1) → (rd T C e W).E σ Hx Q) ∧ (τ x).rel B H u fx ∧ fx.Nodup ∧ (∀ a ∈ fx, a ∈ fp ∧ Z a = none ∧ B a = none) ∧
      ∀ B1 H1, Gon B H B1 H1 → ∀ (o' : Ow) (H' : Hp) (f' : List Addr), o'.rel B1 H' u f' → f'.Nodup → (∀ a, a ∉ fx → (H1 a).isSome = true → H' a = H1 a) → (∀ a ∈ f', a ∈ fx ∨ (a ∉ fp ∧ Z a = none ∧ B1 a = none)) → ∃ fp', Oks (put o') σ B1 Z H' fp' := by
  obtain ⟨u, fx, g, q1, q2, q3, q4⟩ := h.run σ B H fp k.env k.b
  have al : ∀ a ∈ fp, (H a).isSome = true := k.env.al
  have inf : ∀ a ∈ fx, a ∈ fp := fun a ha => q3.mem_iff.mp (List.mem_append_left _ ha)
  have ing : ∀ a ∈ g, a ∈ fp := fun a ha => q3.mem_iff.mp (List.mem_append_right _ ha)
  obtain ⟨n1, n2, n3⟩ := List.nodup_append.mp (q3.nodup_iff.mpr k.nd)
  refine ⟨u, fx, q1, q2, n1, fun a ha => ⟨inf a ha, k.fr a (inf a ha)⟩, fun B1 H1 g1 o' H' f' r nd ch fr => ?_⟩
  have b1 : ∀ a ∈ fp, B1 a = none := fun a ha => newB_none g1.n (k.fr a ha).2 (al a ha) (k.env.nt a ha)
  have alg : ∀ a ∈ fp, H1 a = H a := fun a ha => by
    obtain ⟨w, hw⟩ := Option.isSome_iff_exists.mp (al a ha)
    rw [hw, g1.h a w hw]
  obtain ⟨fp', z1, z2⟩ := q4 B1 H' o' f' g1.b (fun a ha => by
    rw [ch a (fun z => n3 a z a ha rfl) (by rw [alg a (ing a ha)]; exact al a (ing a ha)), alg a (ing a ha)]) r
  have up : ∀ (M : Hp), Same M H1 → (∀ a ∈ fx, M a = none) → Same M H' := fun M s n a w e => by
    have hw := s a w e
    rw [ch a (fun z => by rw [n a z] at e; cases e) (by rw [hw]; rfl)]
    exact hw
  refine ⟨fp', z1, z2.nodup_iff.mp (List.nodup_append.mpr ⟨nd, n2, fun a ha b hb e => ?_⟩), fun a ha => ?_, up B1 g1.s fun a ha => b1 a (inf a ha), up Z (sm_trans k.z g1.h) fun a ha => (k.fr a (inf a ha)).1⟩
  · subst e
    rcases fr a ha with h | ⟨h, _⟩
    · exact n3 a h a hb rfl
    · exact h (ing a hb)
  · rcases List.mem_append.mp (z2.mem_iff.mpr ha) with h | h
    · rcases fr a h with h | ⟨_, h⟩
      · exact ⟨(k.fr a (inf a h)).1, b1 a (inf a h)⟩
      · exact h
    · exact ⟨(k.fr a (ing a h)).1, b1 a (ing a h)⟩
/-- it is known where the thing stands -/
theorem b_exact {D : Ds ν β ρ ξ} {s : S} {m : Out ν β ρ ξ} {oe : Option E} {τ : α → Ow} {x : α} {put : Ow → Cx0} {pt : α → Cx0} (h : Pl T C Γ oe τ x put pt) (hs : ∀ u, Blk T cs C D (put (oQ (· = u) (τ x))) s m) : Blk T cs C D Γ s m := fun W E σ B Z H fp o p => by
  obtain ⟨u, fx, q1, q2, q3, q4, q5⟩ := h.chg o
  obtain ⟨fp', o'⟩ := q5 B H (.refl o.b) (oQ (· = u) (τ x)) H fx ⟨rfl, q2⟩ q3 (fun _ _ _ => rfl) (fun a ha => .inl ha)
  exact hs u W E σ B Z H fp' o' p
/-- it is forgotten -/
theorem cv_unq {oe : Option E} {p : V → Prop} {τ : α → Ow} {x : α} {put : Ow → Cx0} {pt : α → Cx0} (h : Pl T C Γ oe (fun x => oQ p (τ x)) x put pt) : Cv Γ (put (τ x)) := fun σ B Z H fp o => by
  obtain ⟨u, fx, q1, q2, q3, q4, q5⟩ := h.chg o
  exact q5 B H (.refl o.b) (τ x) H fx q2.2 q3 (fun _ _ _ => rfl) (fun a ha => .inl ha)
theorem cv_le {oe : Option E} {o2 : Ow} {τ : α → Ow} {x : α} {put : Ow → Cx0} {pt : α → Cx0} (h : Pl T C Γ oe τ x put pt) (l : Le (τ x) o2) : Cv Γ (put o2) := fun σ B Z H fp o => by
  obtain ⟨u, fx, q1, q2, q3, q4, q5⟩ := h.chg o
  exact q5 B H (.refl o.b) o2 H fx (l.le _ _ _ _ q2) q3 (fun _ _ _ => rfl) (fun a ha => .inl ha)
/-! statements that change a place -/
theorem exc_cv {D : Ds ν β ρ ξ} {e : Ex} {x0 : ξ} {W : WX} {E : Ends} {σ : L2.St} {B Z H H' : Hp} {fp : List Addr} {cls : Value} {d : Option Addr} (o : Oks Γ σ B Z H fp) (w : Cv Γ (D.x x0)) (p : Post C D (.exc e x0) W E B Z) (s : Same H H') (r : ExR C e cls d H H') : W cls d σ H' := by
  have o1 := o.gon (Gon.up o.b s)
  obtain ⟨r1, ⟨r2, r3⟩ | ⟨a, r2, r3, r4⟩⟩ := r
  · obtain ⟨fq, o2⟩ := w _ _ _ _ _ o1
    exact p cls d σ B H' fq (Gz.refl _ _) o2 ⟨r1, .inl ⟨r2, r3⟩⟩
  · have hB := none_back o.b r4
    have hZ := none_back o.z r4
    have ne : ∀ b ∈ fp, b ≠ a := fun b hb q => by
      have := o.env.al b hb
      rw [q, r4] at this; cases this
    have hb : Same B (upd B a (.xd e.fs)) := sm_new hB
    have o3 : Oks Γ σ (upd B a (.xd e.fs)) Z H' fp := ⟨o1.env.mono hb (fun _ _ => rfl), o1.nd, fun b hb => ⟨(o1.fr b hb).1, by rw [upd_ne (ne b hb)]; exact (o1.fr b hb).2⟩, fun b u q => by
      by_cases h : b = a
      · subst h
        rw [upd_same] at q
        cases q
        exact r3
      · rw [upd_ne h] at q
        exact o1.b b u q, o1.z⟩
    obtain ⟨fq, o2⟩ := w _ _ _ _ _ o3
    refine p cls d σ _ H' fq ⟨hb, fun b u q => ?_⟩ o2 ⟨r1, .inr ⟨a, r2, upd_same, hZ⟩⟩
    by_cases h : b = a
    · subst h; exact .inr (.inl hZ)
    · rw [upd_ne h] at q; exact .inl q
/-- an expression's worth with all that it has -/
theorem evO_post {D : Ds ν β ρ ξ} {e : E} {τ : α → Ow} {m : Res α} {x0 : ξ} {k : α → Out ν β ρ ξ} (h : EvO T C Γ e τ m) (w : Cv Γ (D.x x0)) {W : WX} {E : Ends} {σ : L2.St} {B Z H : Hp} {fp : List Addr} {Q : VK} (o : Oks Γ σ B Z H fp) (p : Post C D (m.to x0 k) W E B Z)
    (q : ∀ x v B' H' fq, Gon B H B' H' → (τ x).rel B' H' v fq → fq.Nodup → (∀ a ∈ fq, H a = none ∧ B' a = none) → Oks Γ σ B' Z H' fp → Post C D (k x) W E B' Z → Q v H') : (rd T C e W).E σ H Q := by
  refine h W σ B H Q o.envC ?_
  cases m with
  | ok x => exact fun v B' H' g ⟨fq, r, n, f⟩ => q x v B' H' fq g r n f (o.gon g) (p.up (g.gz o.z))
  | exc e => exact fun cls d H' s r => exc_cv o w p s r
  | bad => exact p
theorem evB_post {D : Ds ν β ρ ξ} {e : E} {τ : α → Vw} [Flat τ] {m : Res α} {x0 : ξ} {k : α → Out ν β ρ ξ} (h : EvB T C Γ e τ m) (w : Cv Γ (D.x x0)) {W : WX} {E : Ends} {σ : L2.St} {B Z H : Hp} {fp : List Addr} {Q : VK} (o : Oks Γ σ B Z H fp) (p : Post C D (m.to x0 k) W E B Z)
    (q : ∀ x v B' H', Gon B H B' H' → (∀ H, (τ x).rel H v) → Oks Γ σ B' Z H' fp → Post C D (k x) W E B' Z → Q v H') : (rd T C e W).E σ H Q :=
  evO_post (ev_flat h) w o p fun x v B' H' fq g r n f o' p' => q x v B' H' g (fun H => Flat.fl x _ _ v r.1) o' p'
/-- place.append(e) -/
theorem p_app {D : Ds ν β ρ ξ} {pe e : E} {s : S} {τ : α → Ow} {xs : List α} {put : Ow → Cx0} {pt : List α → Cx0} {m : Res α} {x0 : ξ} {k : α → Out ν β ρ ξ} (hp : Pl T C Γ (some pe) (oL C τ) xs put pt) (h : EvO T C Γ e τ m) (w : Cv Γ (D.x x0))
    (hs : ∀ y, Blk T cs C D (pt (xs ++ [y])) s (k y)) : Blk T cs C D Γ (.seq (.exp (.bm .lApp pe (.cons e .nil))) s) (m.to x0 fun y => gdO (decide (xs.length < sizeLine)) (k y)) := fun W E σ B Z H fp o p => by
  show (rd T C pe W).E σ H _
  obtain ⟨u, fx, q1, ⟨l, vs, f0, rfl, hl, ho, rfl⟩, q3, q4, q5⟩ := hp.chg o
  refine q1 pe rfl W _ B H (.refl o.b) fun Ba Ha ga => ⟨.inl ⟨rfl, vs, .inl (.inl (ga.h _ _ hl))⟩, ?_⟩
  show (rd T C e W).E σ Ha _
  refine evO_post h w (o.gon ga) (p.up (ga.gz o.z)) fun y v B1 H1 fq g1' r n f o1 p1 => ?_
  have g1 := ga.trans g1'
  cases hz : decide (xs.length < sizeLine) with
  | false => rw [hz] at p1; exact p1.elim
  | true =>
    rw [hz] at p1
    have ln := ho.len
    rw [List.length_map] at ln
    have al : ∀ a ∈ l :: f0, (H a).isSome = true := fun a ha => by
      rcases List.mem_cons.mp ha with rfl | ha
      · rw [hl]; rfl
      · exact OwL.al ho a ha
    have hl1 : H1 l = some (.lst vs) := g1.h l _ hl
    have nf : ∀ a ∈ fq, a ∉ l :: f0 := fun a ha z => by
      have h1 := al a z
      rw [none_back ga.h (f a ha).1] at h1; cases h1
    obtain ⟨m1, m2⟩ := List.nodup_cons.mp q3
    have up : ∀ a, a ≠ l → upd H1 l (.lst (vs ++ [v])) a = H1 a := fun a ha => upd_ne ha
    obtain ⟨fp', o2⟩ := q5 B1 H1 g1 (oL C τ (xs ++ [y])) (upd H1 l (.lst (vs ++ [v]))) (l :: (f0 ++ fq)) ⟨l, vs ++ [v], f0 ++ fq, rfl, upd_same, by
        show OwL _ _ _ ((xs ++ [y]).map τ) _
        rw [List.map_append]
        refine OwL.append (OwL.mono g1.b (fun a ha => ?_) ho) ⟨fq, [], by simp, (τ y).mono (sm_refl _) (fun a ha => up a fun z => nf a ha (by rw [z]; exact List.mem_cons_self)) r, rfl⟩
        rw [up a (fun z => m1 (z ▸ ha))]
        obtain ⟨w', hw⟩ := Option.isSome_iff_exists.mp (OwL.al ho a ha)
        rw [hw, g1.h a w' hw], rfl⟩ (List.nodup_cons.mpr ⟨fun z => (List.mem_append.mp z).elim m1 fun z => nf l z List.mem_cons_self, List.nodup_append.mpr ⟨m2, n, fun a ha b hb e => nf b hb (by rw [← e]; exact List.mem_cons_of_mem _ ha)⟩⟩)
      (fun a ha _ => up a fun z => ha (by rw [z]; exact List.mem_cons_self)) (fun a ha => by
        rcases List.mem_cons.mp ha with rfl | ha
        · exact .inl List.mem_cons_self
        · rcases List.mem_append.mp ha with ha | ha
          · exact .inl (List.mem_cons_of_mem _ ha)
          · exact .inr (o.fresh (none_back ga.h (f a ha).1) (f a ha).2))
    rw [hp.eq] at o2
    exact ⟨l, vs, v, rfl, rfl, hl1, by rw [ln]; exact of_decide_eq_true hz, hs y W E σ B1 Z _ fp' o2 p1⟩
/-- place.clear() -/
theorem p_clr {D : Ds ν β ρ ξ} {pe : E} {s : S} {τ : α → Ow} {xs : List α} {put : Ow → Cx0} {pt : List α → Cx0} {m : Out ν β ρ ξ} (hp : Pl T C Γ (some pe) (oL C τ) xs put pt)
    (hs : Blk T cs C D (pt []) s m) : Blk T cs C D Γ (.seq (.exp (.bm .lClr pe .nil)) s) m := fun W E σ B Z H fp o p => by
  show (rd T C pe W).E σ H _
  obtain ⟨u, fx, q1, ⟨l, vs, f0, rfl, hl, ho, rfl⟩, q3, q4, q5⟩ := hp.chg o
  refine q1 pe rfl W _ B H (.refl o.b) fun Ba Ha ga => ⟨.inl ⟨rfl, vs, .inl (.inl (ga.h _ _ hl))⟩, ?_⟩
  obtain ⟨fp', o2⟩ := q5 Ba Ha ga (oL C τ []) (upd Ha l (.lst [])) [l] ⟨l, [], [], rfl, upd_same, rfl, rfl⟩ (by simp) (fun a ha _ => upd_ne fun z => ha (by rw [z]; exact List.mem_cons_self)) (fun a ha => by
    rw [List.mem_singleton.mp ha]; exact .inl List.mem_cons_self)
  rw [hp.eq] at o2
  exact ⟨l, vs, rfl, rfl, ga.h _ _ hl, hs W E σ Ba Z _ fp' o2 (p.up (ga.gz o.z))⟩
end
end Q
/-! Q38: places that are fields, items of lists and dicts: changed. -/
namespace Q
open PySem L2 PySem.Spec
section
variable {T : Tb} {cs : List Nat} {C : Kc} {Γ Γ' Γ'' : Cx0} {α β γ ν ν' ρ ξ : Type}
theorem OwL.rep {B H : Hp} : ∀ {os : List Ow} {vs : List V} {f : List Addr} {n : Nat} {o : Ow}, OwL B H vs os f → os[n]? = some o →
    ∃ v fx g, vs[n]? = some v ∧ (fx ++ g).Perm f ∧ o.rel B H v fx ∧ ∀ B' H' o' v' fy, Same B B' → (∀ a ∈ g, H' a = H a) → o'.rel B' H' v' fy → ∃ f', OwL B' H' (vs.set n v') (os.set n o') f' ∧ (fy ++ g).Perm f'
  | [], _, _, _, _, _, e => by simp at e
  | x0 :: os, [], _, _, _, h, _ => h.elim
  | x0 :: os, v :: vs, f, 0, x, ⟨a, b, h1, h2, h3⟩, e => by
    simp only [List.getElem?_cons_zero, Option.some.injEq] at e
    subst e h1
    exact ⟨v, a, b, rfl, .refl _, h2, fun B' H' o' v' fy s n r => ⟨fy ++ b, ⟨fy, b, rfl, r, OwL.mono s n h3⟩, .refl _⟩⟩
  | x0 :: os, v :: vs, f, n + 1, x, ⟨a, b, h1, h2, h3⟩, e => by
    simp only [List.getElem?_cons_succ] at e
    obtain ⟨w, fx, g, k1, k2, k3, k4⟩ := OwL.rep h3 e
    subst h1
    refine ⟨w, fx, a ++ g, k1, (List.perm_append_comm_assoc fx a g).trans (k2.append_left a), k3, fun B' H' o' v' fy s n r => ?_⟩
    obtain ⟨f', z1, z2⟩ := k4 B' H' o' v' fy s (fun c hc => n c (List.mem_append_right _ hc)) r
    exact ⟨a ++ f', ⟨a, f', rfl, x0.mono s (fun c hc => n c (List.mem_append_left _ hc)) h2, z1⟩, (List.perm_append_comm_assoc fy a g).trans (z2.append_left a)⟩
/-- what is said of a change that puts one thing into another -/
theorem chg_new {fx fp f' fq : List Addr} {Z B1 : Hp} {d : List Addr} (p : (f' ++ d).Perm (fx ++ fq)) (n1 : fx.Nodup) (n2 : fq.Nodup) (inf : ∀ a ∈ fx, a ∈ fp) (fr : ∀ a ∈ fq, a ∉ fp ∧ Z a = none ∧ B1 a = none) : f'.Nodup ∧ ∀ a ∈ f', a ∈ fx ∨ (a ∉ fp ∧ Z a = none ∧ B1 a = none) := by
  have nd : (fx ++ fq).Nodup := List.nodup_append.mpr ⟨n1, n2, fun a ha b hb e => by
    subst e
    exact (fr a hb).1 (inf a ha)⟩
  refine ⟨(List.nodup_append.mp (p.nodup_iff.mpr nd)).1, fun a ha => ?_⟩
  exact (List.mem_append.mp (p.mem_iff.mp (List.mem_append_left _ ha))).imp_right (fr a)
theorem same_at {H H1 : Hp} (s : Same H H1) {a : Addr} (h : (H a).isSome = true) : H1 a = H a := by
  obtain ⟨w, hw⟩ := Option.isSome_iff_exists.mp h
  rw [hw, s a w hw]
theorem upd_at {H H1 : Hp} {p : Addr} {o : HO} (s : Same H H1) {a : Addr} (h : (H a).isSome = true) (ne : a ≠ p) : upd H1 p o a = H a := by rw [upd_ne ne, same_at s h]
/-- an own thing, moved on to a later heap in which one other object is changed -/
theorem ow_upd {o : Ow} {B H B1 H1 : Hp} {v : V} {f : List Addr} {p : Addr} {u : HO} (r : o.rel B H v f) (b : Same B B1) (s : Same H H1) (ne : p ∉ f) : o.rel B1 (upd H1 p u) v f := o.mono b (fun a ha => upd_at s (o.al r a ha) fun z => ne (z ▸ ha)) r
theorem owl_upd {os : List Ow} {B H B1 H1 : Hp} {vs : List V} {f : List Addr} {p : Addr} {u : HO} (r : OwL B H vs os f) (b : Same B B1) (s : Same H H1) (ne : p ∉ f) : OwL B1 (upd H1 p u) vs os f := OwL.mono b (fun a ha => upd_at s (OwL.al r a ha) fun z => ne (z ▸ ha)) r
/-! fields -/
def putFO (f : Str) (o : Ow) : List (Str × Ow) → List (Str × Ow)
  | [] => [(f, o)]
  | (g, x) :: r => if g = f then (g, o) :: r else (g, x) :: putFO f o r
theorem putF_keys {f : Str} {v : V} {o : Ow} : ∀ {fs : List (Str × V)} {os : List (Str × Ow)}, fs.map (·.1) = os.map (·.1) → (putF f v fs).map (·.1) = (putFO f o os).map (·.1)
  | [], [], _ => rfl
  | [], _ :: _, h => by simp at h
  | _ :: _, [], h => by simp at h
  | (k, x) :: fs, (j, w) :: os, h => by
    simp only [List.map_cons, List.cons.injEq] at h
    obtain ⟨rfl, h⟩ := h
    show (if k = f then (k, v) :: fs else (k, x) :: putF f v fs).map (·.1) = (if k = f then (k, o) :: os else (k, w) :: putFO f o os).map (·.1)
    split
    · simp only [List.map_cons, h]
    · simp only [List.map_cons]
      rw [putF_keys (v := v) (o := o) h]
theorem putF_owl {B B1 H H' : Hp} {f : Str} {v : V} {o : Ow} {fq : List Addr} (sb : Same B B1) (r : o.rel B1 H' v fq) : ∀ {fs : List (Str × V)} {os : List (Str × Ow)} {ff : List Addr}, fs.map (·.1) = os.map (·.1) → OwL B H (fs.map (·.2)) (os.map (·.2)) ff → (∀ a ∈ ff, H' a = H a) →
    ∃ f' d, OwL B1 H' ((putF f v fs).map (·.2)) ((putFO f o os).map (·.2)) f' ∧ (f' ++ d).Perm (ff ++ fq)
  | [], [], ff, _, h, _ => ⟨fq, [], ⟨fq, [], by simp, r, rfl⟩, by rw [show ff = [] from h]; simp⟩
  | [], _ :: _, _, h, _, _ => by simp at h
  | _ :: _, [], _, h, _, _ => by simp at h
  | (k, x) :: fs, (j, w) :: os, ff, h, ⟨a, b, h1, h2, h3⟩, n => by
    simp only [List.map_cons, List.cons.injEq] at h
    obtain ⟨rfl, h⟩ := h
    subst h1
    show ∃ f' d, OwL B1 H' ((if k = f then (k, v) :: fs else (k, x) :: putF f v fs).map (·.2)) ((if k = f then (k, o) :: os else (k, w) :: putFO f o os).map (·.2)) f' ∧ (f' ++ d).Perm _
    split
    · refine ⟨fq ++ b, a, ⟨fq, b, rfl, r, OwL.mono sb (fun c hc => n c (List.mem_append_right _ hc)) h3⟩, ?_⟩
      rw [perm_cnt]
      intro c
      simp only [List.count_append]
      omega
    · obtain ⟨f', d, k1, k2⟩ := putF_owl sb r h h3 (fun c hc => n c (List.mem_append_right _ hc))
      refine ⟨a ++ f', d, ⟨a, f', rfl, w.mono sb (fun c hc => n c (List.mem_append_left _ hc)) h2, k1⟩, ?_⟩
      rw [perm_cnt] at k2 ⊢
      intro c
      have := k2 c
      simp only [List.count_append] at this ⊢
      omega
/-- place.f = e -/
theorem p_setf {D : Ds ν β ρ ξ} {pe e : E} {f : Str} {c : Nat} {s : S} {os : α → List (Str × Ow)} {x : α} {put : Ow → Cx0} {pt : α → Cx0} {τ : γ → Ow} {os' : γ → List (Str × Ow)} {m : Res γ} {x0 : ξ} {k : γ → Out ν β ρ ξ} (hcl : Cls C.K (C.cl c)) (hna : NoAttr C.K (C.cl c) f)
    (hp : Pl T C Γ (some pe) (fun x => oIn C c (os x)) x put pt) (hl : (os x).length < 1000) (h : EvO T C Γ e τ m) (w : Cv Γ (D.x x0)) (ho : ∀ y, putFO f (τ y) (os x) = os' y) (hs : ∀ y, Blk T cs C D (put (oIn C c (os' y))) s (k y)) :
    Blk T cs C D Γ (.seq (.setf pe f e) s) (m.to x0 k) := fun W E σ B Z H fp o p => by
  show (rd T C e W).E σ H _
  obtain ⟨u, fx, q1, ⟨a, dx, fs, ff, rfl, ha, ⟨hk, hlf⟩, rfl⟩, q3, q4, q5⟩ := hp.chg o
  refine evO_post h w o p fun y v B1 H1 fq g1 r n fr o1 p1 => ?_
  refine q1 pe rfl W _ B1 H1 g1 fun B2 H2 g2 => ?_
  have g := g1.trans g2
  have hlen : fs.length < 1000 := by
    have := congrArg List.length hk
    rw [List.length_map, List.length_map] at this
    omega
  refine ⟨a, _, dx, fs, rfl, g.h _ _ ha, hcl, hna, hlen, ?_⟩
  have nd := List.nodup_cons.mp q3
  have frq : ∀ b ∈ fq, b ∉ fp ∧ Z b = none ∧ B2 b = none := fun b hb => o.fresh (fr b hb).1 (newB_none g2.n (fr b hb).2 ((τ y).al r b hb) ((τ y).nt r b hb))
  have afp : a ∈ fp := (q4 a List.mem_cons_self).1
  have rq : (τ y).rel B2 (upd H2 a (.ins (C.cl c) dx (putF f v fs))) v fq := ow_upd r g2.b g2.h fun z => (frq a z).1 afp
  obtain ⟨f', d, z1, z2⟩ := putF_owl g.b rq hk hlf (fun b hb => upd_at g.h (o.env.al b (q4 b (List.mem_cons_of_mem _ hb)).1) fun z => nd.1 (z ▸ hb))
  obtain ⟨c1, c2⟩ := chg_new (f' := a :: f') (d := d) (fx := a :: ff) (fq := fq) (fp := fp) (Z := Z) (B1 := B2) (by
    rw [perm_cnt] at z2 ⊢
    intro c
    have := z2 c
    simp only [List.count_append, List.count_cons] at this ⊢
    omega) q3 n (fun b hb => (q4 b hb).1) frq
  obtain ⟨fp', o2⟩ := q5 B2 H2 g (oIn C c (os' y)) (upd H2 a (.ins (C.cl c) dx (putF f v fs))) (a :: f') ⟨a, dx, putF f v fs, f', rfl, upd_same, ⟨by rw [← ho]; exact putF_keys (v := v) (o := τ y) hk, by rw [← ho]; exact z1⟩, rfl⟩ c1 (fun b hb _ => upd_ne fun z => hb (by rw [z]; exact List.mem_cons_self)) c2
  exact hs y W E σ B2 Z _ fp' o2 (p1.up (g2.gz o1.z))
/-! lists -/
/-- place[i] = e -/
theorem p_setl {D : Ds ν β ρ ξ} {pe i e : E} {s : S} {τ : α → Ow} {xs : List α} {put : Ow → Cx0} {pt : List α → Cx0} {m : Res α} {mi : Res Int} {x0 : ξ} {k : List α → Out ν β ρ ξ} (hp : Pl T C Γ (some pe) (oL C τ) xs put pt) (hi : EvB T C Γ i vInt mi) (h : EvO T C Γ e τ m) (w : Cv Γ (D.x x0))
    (hs : ∀ ys, Blk T cs C D (pt ys) s (k ys)) : Blk T cs C D Γ (.seq (.setl pe i e) s) (m.to x0 fun y => mi.to x0 fun j => (getR (setI xs j y)).to x0 k) := fun W E σ B Z H fp o p => by
  show (rd T C e W).E σ H _
  obtain ⟨u, fx, q1, ⟨l, vs, f0, rfl, hl, ho, rfl⟩, q3, q4, q5⟩ := hp.chg o
  refine evO_post h w o p fun y v B1 H1 fq g1 r n fr o1 p1 => ?_
  refine q1 pe rfl W _ B1 H1 g1 fun B2 H2 g2 => ?_
  show (rd T C i W).E σ H2 _
  refine evB_post hi w (o1.gon g2) (p1.up (g2.gz o1.z)) fun j v' B3 H3 g3 r' o3 p3 => ?_
  obtain rfl : v' = .int j := r' H3
  have g23 := g2.trans g3
  have g := g1.trans g23
  cases hz : ixN xs.length j with
  | none =>
    have : setI xs j y = none := by unfold setI; rw [hz]; rfl
    rw [this] at p3
    exact p3.elim
  | some n' =>
    have e0 : setI xs j y = some (xs.set n' y) := by unfold setI; rw [hz]; rfl
    rw [e0] at p3
    have ln := ho.len
    rw [List.length_map] at ln
    refine ⟨l, vs, j, n', rfl, rfl, g.h _ _ hl, by rw [ln]; exact hz, ?_⟩
    have hn : n' < xs.length := ixN_lt hz
    obtain ⟨w', fz, gz, k1, k2, k3, k4⟩ := OwL.rep (n := n') (o := τ xs[n']) ho (by rw [List.getElem?_map, List.getElem?_eq_getElem hn]; rfl)
    have nd := List.nodup_cons.mp q3
    have frq : ∀ b ∈ fq, b ∉ fp ∧ Z b = none ∧ B3 b = none := fun b hb => o.fresh (fr b hb).1 (newB_none g23.n (fr b hb).2 ((τ y).al r b hb) ((τ y).nt r b hb))
    have lfp : l ∈ fp := (q4 l List.mem_cons_self).1
    have rq : (τ y).rel B3 (upd H3 l (.lst (vs.set n' v))) v fq := ow_upd r g23.b g23.h fun z => (frq l z).1 lfp
    obtain ⟨f', z1, z2⟩ := k4 B3 (upd H3 l (.lst (vs.set n' v))) (τ y) v fq g.b (fun b hb => by
      have hb' := k2.mem_iff.mp (List.mem_append_right _ hb)
      exact upd_at g.h (o.env.al b (q4 b (List.mem_cons_of_mem _ hb')).1) fun z => nd.1 (z ▸ hb')) rq
    obtain ⟨c1, c2⟩ := chg_new (f' := l :: f') (d := fz) (fx := l :: f0) (fq := fq) (fp := fp) (Z := Z) (B1 := B3) (by
      rw [perm_cnt] at z2 k2 ⊢
      intro c
      have h1 := z2 c
      have h2 := k2 c
      simp only [List.count_append, List.count_cons] at h1 h2 ⊢
      omega) q3 n (fun b hb => (q4 b hb).1) frq
    obtain ⟨fp', o2⟩ := q5 B3 H3 g (oL C τ (xs.set n' y)) _ (l :: f') ⟨l, _, f', rfl, upd_same, by rw [List.map_set]; exact z1, rfl⟩ c1 (fun b hb _ => upd_ne fun z => hb (by rw [z]; exact List.mem_cons_self)) c2
    rw [hp.eq] at o2
    exact hs _ W E σ B3 Z _ fp' o2 p3
/-- place.extend(e), e new -/
theorem p_ext {D : Ds ν β ρ ξ} {pe e : E} {s : S} {τ : α → Ow} {xs : List α} {put : Ow → Cx0} {pt : List α → Cx0} {m : Res (List α)} {x0 : ξ} {k : List α → Out ν β ρ ξ} (hp : Pl T C Γ (some pe) (oL C τ) xs put pt) (h : EvO T C Γ e (oL C τ) m) (w : Cv Γ (D.x x0))
    (hs : ∀ ys, Blk T cs C D (pt (xs ++ ys)) s (k ys)) : Blk T cs C D Γ (.seq (.exp (.bm .lExt pe (.cons e .nil))) s) (m.to x0 fun ys => gdO (decide (xs.length + ys.length ≤ sizeLine)) (k ys)) := fun W E σ B Z H fp o p => by
  show (rd T C pe W).E σ H _
  obtain ⟨u, fx, q1, ⟨l, vs, f0, rfl, hl, ho, rfl⟩, q3, q4, q5⟩ := hp.chg o
  refine q1 pe rfl W _ B H (.refl o.b) fun Ba Ha ga => ⟨.inl ⟨rfl, vs, .inl (.inl (ga.h _ _ hl))⟩, ?_⟩
  show (rd T C e W).E σ Ha _
  refine evO_post h w (o.gon ga) (p.up (ga.gz o.z)) fun ys v B1 H1 fq g1' r n f o1 p1 => ?_
  have g := ga.trans g1'
  cases hz : decide (xs.length + ys.length ≤ sizeLine) with
  | false => rw [hz] at p1; exact p1.elim
  | true =>
    rw [hz] at p1
    obtain ⟨b, us, f1, rfl, hb, ho', rfl⟩ := r
    have ln := ho.len
    have ln' := ho'.len
    rw [List.length_map] at ln ln'
    have nd := List.nodup_cons.mp q3
    have nd' := List.nodup_cons.mp n
    have frq : ∀ a ∈ b :: f1, a ∉ fp ∧ Z a = none ∧ B1 a = none := fun a ha => o.fresh (none_back ga.h (f a ha).1) (f a ha).2
    have lfp : l ∈ fp := (q4 l List.mem_cons_self).1
    refine ⟨l, b, vs, us, rfl, rfl, g.h _ _ hl, hb, by rw [ln, ln']; exact of_decide_eq_true hz, ?_⟩
    obtain ⟨c1, c2⟩ := chg_new (f' := l :: (f0 ++ f1)) (d := [b]) (fx := l :: f0) (fq := b :: f1) (fp := fp) (Z := Z) (B1 := B1) (by
      rw [perm_cnt]
      intro c
      simp only [List.count_append, List.count_cons, List.count_nil]
      omega) q3 n (fun b hb => (q4 b hb).1) frq
    obtain ⟨fp', o2⟩ := q5 B1 H1 g (oL C τ (xs ++ ys)) (upd H1 l (.lst (vs ++ us))) (l :: (f0 ++ f1)) ⟨l, vs ++ us, f0 ++ f1, rfl, upd_same, by
      show OwL _ _ _ ((xs ++ ys).map τ) _
      rw [List.map_append]
      exact OwL.append (owl_upd ho g.b g.h nd.1) (owl_upd ho' (sm_refl _) (sm_refl _) fun z => (frq l (List.mem_cons_of_mem _ z)).1 lfp), rfl⟩ c1 (fun a ha _ => upd_ne fun z => ha (by rw [z]; exact List.mem_cons_self)) c2
    rw [hp.eq] at o2
    exact hs ys W E σ B1 Z _ fp' o2 p1
/-- place.append(name), the name's thing is handed over -/
theorem p_appMv {D : Ds ν β ρ ξ} {pe : E} {j : Nat} {s : S} {τ : α → Ow} {xs : List α} {x : α} {put : Ow → Cx0} {pt : List α → Cx0} {m : Out ν β ρ ξ} (hj : Γ[j]? = some (some (τ x))) (hp : Pl T C (Γ.set j none) (some pe) (oL C τ) xs put pt)
    (hs : Blk T cs C D (pt (xs ++ [x])) s m) : Blk T cs C D Γ (.seq (.exp (.bm .lApp pe (.cons (.var j) .nil))) s) (gdO (decide (xs.length < sizeLine)) m) := fun W E σ B Z H fp o p => by
  show (rd T C pe W).E σ H _
  obtain ⟨v, fq, g0, hv, r, o', n, fr, dis⟩ := o.take hj
  obtain ⟨u, fx, q1, ⟨l, vs, f0, rfl, hl, ho, rfl⟩, q3, q4, q5⟩ := hp.chg o'
  refine q1 pe rfl W _ B H (.refl o.b) fun B1 H1 g => ⟨.inl ⟨rfl, vs, .inl (.inl (g.h _ _ hl))⟩, ?_⟩
  refine ⟨v, hv, ?_⟩
  cases hz : decide (xs.length < sizeLine) with
  | false => rw [hz] at p; exact p.elim
  | true =>
    rw [hz] at p
    have ln := ho.len
    rw [List.length_map] at ln
    have nd := List.nodup_cons.mp q3
    have lfp : l ∈ g0 := (q4 l List.mem_cons_self).1
    have frq : ∀ a ∈ fq, a ∉ g0 ∧ Z a = none ∧ B1 a = none := fun a ha => ⟨dis a ha, (fr a ha).1, newB_none g.n (fr a ha).2 ((τ x).al r a ha) ((τ x).nt r a ha)⟩
    refine ⟨l, vs, v, rfl, rfl, g.h _ _ hl, by rw [ln]; exact of_decide_eq_true hz, ?_⟩
    obtain ⟨c1, c2⟩ := chg_new (f' := l :: (f0 ++ fq)) (d := []) (fx := l :: f0) (fq := fq) (fp := g0) (Z := Z) (B1 := B1) (by simp) q3 n (fun b hb => (q4 b hb).1) frq
    obtain ⟨fp', o2⟩ := q5 B1 H1 g (oL C τ (xs ++ [x])) (upd H1 l (.lst (vs ++ [v]))) (l :: (f0 ++ fq)) ⟨l, vs ++ [v], f0 ++ fq, rfl, upd_same, by
      show OwL _ _ _ ((xs ++ [x]).map τ) _
      rw [List.map_append]
      exact OwL.append (owl_upd ho g.b g.h nd.1) ⟨fq, [], by simp, ow_upd r g.b g.h fun z => (frq l z).1 lfp, rfl⟩, rfl⟩ c1 (fun a ha _ => upd_ne fun z => ha (by rw [z]; exact List.mem_cons_self)) c2
    rw [hp.eq] at o2
    exact hs W E σ B1 Z _ fp' o2 (p.up (g.gz o.z))
/-- place.pop() -/
theorem p_pop {D : Ds ν β ρ ξ} {pe : E} {s : S} {τ : α → Ow} {xs : List α} {put : Ow → Cx0} {pt : List α → Cx0} {m : Out ν β ρ ξ} (hp : Pl T C Γ (some pe) (oL C τ) xs put pt)
    (hs : Blk T cs C D (pt xs.dropLast) s m) : Blk T cs C D Γ (.seq (.exp (.bm .lPop pe .nil)) s) (gdO (decide (0 < xs.length)) m) := fun W E σ B Z H fp o p => by
  show (rd T C pe W).E σ H _
  obtain ⟨u, fx, q1, ⟨l, vs, f0, rfl, hl, ho, rfl⟩, q3, q4, q5⟩ := hp.chg o
  refine q1 pe rfl W _ B H (.refl o.b) fun Ba Ha ga => ⟨.inl ⟨rfl, vs, .inl (.inl (ga.h _ _ hl))⟩, ?_⟩
  cases hz : decide (0 < xs.length) with
  | false => rw [hz] at p; exact p.elim
  | true =>
    rw [hz] at p
    have h0 := of_decide_eq_true hz
    have ln := ho.len
    rw [List.length_map] at ln
    have key : ∀ {xs : List α} {vs : List V} {f : List Addr}, OwL B H vs (xs.map τ) f → ∃ f1 d, OwL B H vs.dropLast (xs.dropLast.map τ) f1 ∧ (f1 ++ d).Perm f := fun {xs} => by
      induction xs with
      | nil => intro vs f h; cases vs with
        | nil => exact ⟨[], f, rfl, by simp⟩
        | cons _ _ => exact h.elim
      | cons x xs ih =>
        intro vs f h
        cases vs with
        | nil => exact h.elim
        | cons v vs =>
          obtain ⟨a, b, h1, h2, h3⟩ := h
          subst h1
          cases xs with
          | nil =>
            cases vs with
            | nil => exact ⟨[], a ++ b, rfl, by simp⟩
            | cons _ _ => exact h3.elim
          | cons y ys =>
            cases vs with
            | nil => exact h3.elim
            | cons w ws =>
              obtain ⟨f1, d, z1, z2⟩ := ih h3
              refine ⟨a ++ f1, d, ⟨a, f1, rfl, h2, z1⟩, ?_⟩
              rw [List.append_assoc]
              exact z2.append_left a
    obtain ⟨f1, d, z1, z2⟩ := key ho
    have nd := List.nodup_cons.mp q3
    have hsub : ∀ a ∈ f1, a ∈ f0 := fun a ha => z2.mem_iff.mp (List.mem_append_left _ ha)
    obtain ⟨y, hy⟩ : ∃ y, vs[vs.length - 1]? = some y := ⟨vs[vs.length - 1]'(by omega), List.getElem?_eq_getElem _⟩
    obtain ⟨fp', o2⟩ := q5 Ba Ha ga (oL C τ xs.dropLast) (upd Ha l (.lst vs.dropLast)) (l :: f1) ⟨l, vs.dropLast, f1, rfl, upd_same, owl_upd z1 ga.b ga.h fun z => nd.1 (hsub l z), rfl⟩ (List.nodup_cons.mpr ⟨fun z => nd.1 (hsub l z), (List.nodup_append.mp (z2.nodup_iff.mpr nd.2)).1⟩) (fun a ha _ => upd_ne fun z => ha (by rw [z]; exact List.mem_cons_self)) (fun a ha => by
      rcases List.mem_cons.mp ha with rfl | ha
      · exact .inl List.mem_cons_self
      · exact .inl (List.mem_cons_of_mem _ (hsub a ha)))
    rw [hp.eq] at o2
    exact ⟨l, vs, y, rfl, rfl, ga.h _ _ hl, hy, hs W E σ Ba Z _ fp' o2 (p.up (ga.gz o.z))⟩
end
end Q
/-! Q39: own dicts of own things. -/
namespace Q
open PySem L2 PySem.Spec
section
variable {T : Tb} {cs : List Nat} {C : Kc} {Γ Γ' Γ'' : Cx0} {κ α β γ ν ν' ρ ξ : Type} [KeyC κ] [DecidableEq κ]
theorem kk_nodup {kvs : List (κ × α)} {τ : α → Ow} (nd : (kvs.map (·.1)).Nodup) : ((dO τ kvs).map (·.1)).Nodup := by
  rw [List.map_map]
  have : ((fun q : Key × Ow => q.1) ∘ fun p : κ × α => (KeyC.kk p.1, τ p.2)) = KeyC.kk ∘ (fun p : κ × α => p.1) := rfl
  rw [this, ← List.map_map]
  exact List.Pairwise.map KeyC.kk (fun _ _ h e => h (KeyC.inj e)) nd
/-- what stands at a key -/
theorem dict_at {B H : Hp} {τ : α → Ow} {vs : List (Key × V)} {kvs : List (κ × α)} {f : List Addr} {k : κ} {x : α} (h : OwF B H vs (dO τ kvs) f) (nd : (kvs.map (·.1)).Nodup) (hx : dget kvs k = some x) :
    ∃ n v fx g, kvs[n]? = some (k, x) ∧ vs[n]? = some (KeyC.kk k, v) ∧ valV vs (KeyC.kk k) = some v ∧ (fx ++ g).Perm f ∧ (τ x).rel B H v fx ∧
      ∀ B' H' (o' : Ow) v' fy, Same B B' → (∀ a ∈ g, H' a = H a) → o'.rel B' H' v' fy → ∃ f', OwF B' H' (vs.set n (KeyC.kk k, v')) ((dO τ kvs).set n (KeyC.kk k, o')) f' ∧ (fy ++ g).Perm f' := by
  obtain ⟨n, hn⟩ := dget_at hx
  obtain ⟨h1, h2⟩ := h
  obtain ⟨v, fx, g, k1, k2, k3, k4⟩ := OwL.rep (n := n) (o := τ x) h2 (by rw [List.map_map, List.getElem?_map, hn]; rfl)
  have hv : vs[n]? = some (KeyC.kk k, v) := by
    have a1 : (vs.map (·.1))[n]? = some (KeyC.kk k) := by rw [h1, List.map_map, List.getElem?_map, hn]; rfl
    rw [List.getElem?_map] at a1 k1
    cases e : vs[n]? with
    | none => rw [e] at a1; cases a1
    | some q =>
      rw [e] at a1 k1
      simp only [Option.map_some, Option.some.injEq] at a1 k1
      rw [← a1, ← k1]
  have ndv : (vs.map (·.1)).Nodup := by rw [h1]; exact kk_nodup nd
  refine ⟨n, v, fx, g, hn, hv, ?_, k2, k3, fun B' H' o' v' fy s m r => ?_⟩
  · have key : ∀ {vs : List (Key × V)} {n : Nat}, (vs.map (·.1)).Nodup → vs[n]? = some (KeyC.kk k, v) → valV vs (KeyC.kk k) = some v := fun {vs} => by
      induction vs with
      | nil => intro n _ h; simp at h
      | cons p vs ih =>
        intro n nd h
        cases n with
        | zero =>
          simp only [List.getElem?_cons_zero, Option.some.injEq] at h
          subst h
          exact valV_pos rfl
        | succ n =>
          simp only [List.getElem?_cons_succ] at h
          simp only [List.map_cons, List.nodup_cons] at nd
          rw [valV_neg fun z => nd.1 (List.mem_map.mpr ⟨_, List.mem_of_getElem? h, z.symm⟩)]
          exact ih nd.2 h
    exact key ndv hv
  · obtain ⟨f', z1, z2⟩ := k4 B' H' o' v' fy s m r
    refine ⟨f', ⟨?_, ?_⟩, z2⟩
    · rw [List.map_set, List.map_set, h1]
    · rw [List.map_set, List.map_set]
      exact z1
theorem dO_set {τ : α → Ow} {kvs : List (κ × α)} {n : Nat} {k : κ} {y : α} : (dO τ kvs).set n (KeyC.kk k, τ y) = dO τ (kvs.set n (k, y)) := by
  unfold dO
  rw [List.map_set]
theorem dput_set {kvs : List (κ × α)} {n : Nat} {k : κ} {x y : α} (nd : (kvs.map (·.1)).Nodup) (hn : kvs[n]? = some (k, x)) (hx : dget kvs k = some x) : dput kvs k y = kvs.set n (k, y) := by
  rw [dput_pres hx, map_if_set nd hn]
theorem putK_set {vs : List (Key × V)} {n : Nat} {k : Key} {v u : V} (nd : (vs.map (·.1)).Nodup) (hn : vs[n]? = some (k, v)) : putK vs k u = vs.set n (k, u) := by
  unfold putK
  rw [if_pos (List.any_eq_true.mpr ⟨_, List.mem_of_getElem? hn, decide_eq_true rfl⟩), map_if_set nd hn]
theorem dict_none {B H : Hp} {τ : α → Ow} {vs : List (Key × V)} {kvs : List (κ × α)} {f : List Addr} {k : κ} (h : OwF B H vs (dO τ kvs) f) (hx : dget kvs k = none) : valV vs (KeyC.kk k) = none ∧ ∀ u, putK vs (KeyC.kk k) u = vs ++ [(KeyC.kk k, u)] := by
  have nk : KeyC.kk k ∉ vs.map (·.1) := fun z => by
    rw [h.1, List.map_map] at z
    obtain ⟨p, hp, e⟩ := List.mem_map.mp z
    exact dget_none_keys hx (List.mem_map.mpr ⟨p, hp, KeyC.inj e⟩)
  refine ⟨?_, fun u => ?_⟩
  · unfold valV
    cases e : vs.find? fun kv => decide (kv.1 = KeyC.kk k) with
    | none => rfl
    | some p => exact absurd (List.mem_map.mpr ⟨p, List.mem_of_find?_eq_some e, by simpa using List.find?_some e⟩) nk
  · unfold putK
    rw [if_neg]
    intro z
    obtain ⟨p, hp, e⟩ := List.any_eq_true.mp z
    exact nk (List.mem_map.mpr ⟨p, hp, of_decide_eq_true e⟩)
theorem owf_len {B H : Hp} {τ : α → Ow} {vs : List (Key × V)} {kvs : List (κ × α)} {f : List Addr} (h : OwF B H vs (dO τ kvs) f) : vs.length = kvs.length := by
  have := congrArg List.length h.1
  rw [List.length_map, List.length_map, List.length_map] at this
  exact this
/-- a key is set -/
theorem owf_put {B H B' H' : Hp} {τ : α → Ow} {vs : List (Key × V)} {kvs : List (κ × α)} {f fq : List Addr} {k : κ} {y : α} {u : V} (h : OwF B H vs (dO τ kvs) f) (nd : (kvs.map (·.1)).Nodup) (sb : Same B B') (n : ∀ a ∈ f, H' a = H a) (r : (τ y).rel B' H' u fq) :
    ∃ f' d, OwF B' H' (putK vs (KeyC.kk k) u) (dO τ (dput kvs k y)) f' ∧ (f' ++ d).Perm (f ++ fq) := by
  cases hx : dget kvs k with
  | some x =>
    obtain ⟨m, v, fx, g, q1, q2, q3, q4, q5, q6⟩ := dict_at h nd hx
    obtain ⟨f', z1, z2⟩ := q6 B' H' (τ y) u fq sb (fun a ha => n a (q4.mem_iff.mp (List.mem_append_right _ ha))) r
    refine ⟨f', fx, ?_, ?_⟩
    · rw [putK_set (by rw [h.1]; exact kk_nodup nd) q2, dput_set nd q1 hx, ← dO_set]
      exact z1
    · rw [perm_cnt] at z2 q4 ⊢
      intro c
      have h1 := z2 c
      have h2 := q4 c
      simp only [List.count_append] at h1 h2 ⊢
      omega
  | none =>
    obtain ⟨_, h2⟩ := dict_none h hx
    rw [h2 u, dput_abs hx]
    refine ⟨f ++ fq, [], ⟨?_, ?_⟩, by simp⟩
    · rw [List.map_append, h.1]
      unfold dO
      rw [List.map_append, List.map_append]
      rfl
    · rw [List.map_append]
      unfold dO
      rw [List.map_append, List.map_append]
      exact OwL.append (OwL.mono sb n h.2) ⟨fq, [], by simp, r, rfl⟩
/-- d[k], k being there -/
theorem pl_dk {oe : Option E} {ke : E} {τk : κ → Vw} [KeyV κ τk] {k : κ} {τ : α → Ow} {kvs : List (κ × α)} {x : α} {put : Ow → Cx0} {pt : List (κ × α) → Cx0} (h : Pl T C Γ oe (fun kvs : List (κ × α) => oDO τ kvs) kvs put pt) (hi : ∀ e, oe = some e → EvB T C Γ ke τk (.ok k)) (hx : dget kvs k = some x) :
    Pl T C Γ (oe.map fun e => .ix e ke) τ x (fun o => put (oN (kvs.map (·.1)).Nodup (oDc ((dO τ kvs).map fun p => if p.1 = KeyC.kk k then (p.1, o) else p)))) (fun y => pt (dput kvs k y)) where
  run := fun σ B H fp e0 s => by
    obtain ⟨v, f0, g, q1, ⟨nd, p, vs, ff, rfl, hp, hl, rfl⟩, q3, q4⟩ := h.run σ B H fp e0 s
    obtain ⟨n, w, fx, g2, k0, k1, k1', k2, k3, k4⟩ := dict_at hl nd hx
    refine ⟨w, fx, p :: (g2 ++ g), fun e he W Q Bx Hx gx q => ?_, k3, ?_, fun B' H' x' fy b n' r => ?_⟩
    · cases oe with
      | none => cases he
      | some e0' =>
        cases he
        refine q1 e0' rfl W _ Bx Hx gx fun B1 H1 g1 => ?_
        have gx1 := gx.trans g1
        refine hi e0' rfl W σ B1 H1 _ ((e0.envC s).up gx1.b gx1.h gx1.s) fun u B2 H2 g2 e2 => ?_
        exact .inr ⟨p, w, rfl, .inl ⟨vs, KeyC.kk k, .inl (g2.h _ _ (gx1.h _ _ hp)), KeyV.kv k H2 u e2, k1'.symm⟩, q B2 H2 (g1.trans g2)⟩
    · rw [perm_cnt] at k2 q3 ⊢
      intro a
      have h1 := k2 a
      have h2 := q3 a
      simp only [List.count_append, List.count_cons] at h1 h2 ⊢
      omega
    · obtain ⟨f', z1, z2⟩ := k4 B' H' x' w fy b (fun a ha => n' a (List.mem_cons_of_mem _ (List.mem_append_left _ ha))) r
      have e1 : vs.set n (KeyC.kk k, w) = vs := by
        refine List.ext_getElem? fun j => ?_
        rw [List.getElem?_set]
        split
        · rename_i e
          subst e
          split
          · exact k1.symm
          · rename_i hh
            rw [List.getElem?_eq_none (by omega)]
        · rfl
      have e2 : (dO τ kvs).set n (KeyC.kk k, x') = (dO τ kvs).map fun p => if p.1 = KeyC.kk k then (p.1, x') else p := by
        refine (map_if_set (kk_nodup nd) (x := τ x) ?_).symm
        rw [List.getElem?_map, k0]; rfl
      rw [e1, e2] at z1
      obtain ⟨fp', y1, y2⟩ := q4 B' H' (oN (kvs.map (·.1)).Nodup (oDc ((dO τ kvs).map fun p => if p.1 = KeyC.kk k then (p.1, x') else p))) (p :: f') b (fun a ha => n' a (List.mem_cons_of_mem _ (List.mem_append_right _ ha))) ⟨nd, p, vs, f', rfl, by rw [n' p List.mem_cons_self]; exact hp, z1, rfl⟩
      refine ⟨fp', y1, ?_⟩
      rw [perm_cnt] at z2 y2 ⊢
      intro a
      have h1 := z2 a
      have h2 := y2 a
      simp only [List.count_append, List.count_cons] at h1 h2 ⊢
      omega
  eq := fun y => by
    have e1 : ((dO τ kvs).map fun p => if p.1 = KeyC.kk k then (p.1, τ y) else p) = dO τ (dput kvs k y) := by
      rw [dput_pres hx]
      unfold dO
      rw [List.map_map, List.map_map]
      refine List.map_congr_left fun p _ => ?_
      show (if KeyC.kk p.1 = KeyC.kk k then (KeyC.kk p.1, τ y) else (KeyC.kk p.1, τ p.2)) = (KeyC.kk (if p.1 = k then (p.1, y) else p).1, τ (if p.1 = k then (p.1, y) else p).2)
      by_cases q : p.1 = k
      · rw [if_pos (by rw [q]), if_pos q]
      · rw [if_neg (fun z => q (KeyC.inj z)), if_neg q]
    show put (oN _ (oDc ((dO τ kvs).map fun p => if p.1 = KeyC.kk k then (p.1, τ y) else p))) = _
    rw [e1, ← h.eq]
    show put (oN _ _) = put (oN ((dput kvs k y).map (·.1)).Nodup _)
    rw [dput_keys hx]
theorem ev_dctO {τ : α → Ow} : EvO T C Γ .dct (fun kvs : List (κ × α) => oDO τ kvs) (.ok []) := fun W σ B H Q c z => fun p hp => by
  have hpB := none_back c.sub hp
  exact z (.ref p) B _ ⟨sm_refl _, sm_new hp, sm_trans c.sub (sm_new hp), newB_refl _ _⟩ ⟨[p], ⟨List.nodup_nil, p, [], [], rfl, upd_same, ⟨rfl, rfl⟩, rfl⟩, by simp, fun a ha => by
    rw [List.mem_singleton.mp ha]; exact ⟨hp, hpB⟩⟩
/-- place[k] = e -/
theorem p_setk {D : Ds ν β ρ ξ} {pe ke e : E} {s : S} {τk : κ → Vw} [KeyV κ τk] [Flat τk] {τ : α → Ow} {kvs : List (κ × α)} {put : Ow → Cx0} {pt : List (κ × α) → Cx0} {mk : Res κ} {m : Res α} {x0 : ξ} {k : List (κ × α) → Out ν β ρ ξ} (hp : Pl T C Γ (some pe) (fun kvs : List (κ × α) => oDO τ kvs) kvs put pt) (hk : EvB T C Γ ke τk mk) (h : EvO T C Γ e τ m) (w : Cv Γ (D.x x0))
    (hs : ∀ ls, Blk T cs C D (pt ls) s (k ls)) : Blk T cs C D Γ (.seq (.setk pe ke e) s) (m.to x0 fun y => mk.to x0 fun key => gdO (decide (kvs.length < sizeLine)) (ap k (dput kvs key y))) := fun W E σ B Z H fp o p => by
  show (rd T C e W).E σ H _
  obtain ⟨u, fx, q1, ⟨ndk, l, vs, f0, rfl, hl, ho, rfl⟩, q3, q4, q5⟩ := hp.chg o
  refine evO_post h w o p fun y v B1 H1 fq g1 r n fr o1 p1 => ?_
  refine q1 pe rfl W _ B1 H1 g1 fun B2 H2 g2 => ?_
  show (rd T C ke W).E σ H2 _
  refine evB_post hk w (o1.gon g2) (p1.up (g2.gz o1.z)) fun key v' B3 H3 g3 r' o3 p3 => ?_
  have g23 := g2.trans g3
  have g := g1.trans g23
  cases hz : decide (kvs.length < sizeLine) with
  | false => rw [hz] at p3; exact p3.elim
  | true =>
    rw [hz] at p3
    refine ⟨l, _, rfl, .inl ⟨vs, KeyC.kk key, g.h _ _ hl, KeyV.kv key H3 v' (r' H3), by rw [owf_len ho]; exact of_decide_eq_true hz, rfl⟩, ?_⟩
    have nd := List.nodup_cons.mp q3
    have frq : ∀ b ∈ fq, b ∉ fp ∧ Z b = none ∧ B3 b = none := fun b hb => o.fresh (fr b hb).1 (newB_none g23.n (fr b hb).2 ((τ y).al r b hb) ((τ y).nt r b hb))
    have lfp : l ∈ fp := (q4 l List.mem_cons_self).1
    have rq : (τ y).rel B3 (upd H3 l (.dK (putK vs (KeyC.kk key) v))) v fq := ow_upd r g23.b g23.h fun z => (frq l z).1 lfp
    obtain ⟨f', d, z1, z2⟩ := owf_put (k := key) ho ndk g.b (fun b hb => upd_at g.h (o.env.al b (q4 b (List.mem_cons_of_mem _ hb)).1) fun (z : b = l) => nd.1 (z ▸ hb)) rq
    obtain ⟨c1, c2⟩ := chg_new (f' := l :: f') (d := d) (fx := l :: f0) (fq := fq) (fp := fp) (Z := Z) (B1 := B3) (by
      rw [perm_cnt] at z2 ⊢
      intro c
      have h1 := z2 c
      simp only [List.count_append, List.count_cons] at h1 ⊢
      omega) q3 n (fun b hb => (q4 b hb).1) frq
    obtain ⟨fp', o2⟩ := q5 B3 H3 g (oDO τ (dput kvs key y)) _ (l :: f') ⟨nodup_dput ndk, l, _, f', rfl, upd_same, z1, rfl⟩ c1 (fun b hb _ => upd_ne fun z => hb (by rw [z]; exact List.mem_cons_self)) c2
    rw [hp.eq] at o2
    exact hs _ W E σ B3 Z _ fp' o2 p3
/-- place.pop(k) -/
theorem p_dpop {D : Ds ν β ρ ξ} {pe ke : E} {s : S} {τk : κ → Vw} [KeyV κ τk] [Flat τk] {τ : α → Ow} {kvs : List (κ × α)} {put : Ow → Cx0} {pt : List (κ × α) → Cx0} {mk : Res κ} {x0 : ξ} {k : List (κ × α) → Out ν β ρ ξ} (hp : Pl T C Γ (some pe) (fun kvs : List (κ × α) => oDO τ kvs) kvs put pt) (hk : EvB T C Γ ke τk mk) (w : Cv Γ (D.x x0))
    (hs : ∀ ls, Blk T cs C D (pt ls) s (k ls)) : Blk T cs C D Γ (.seq (.exp (.dpop pe ke)) s) (mk.to x0 fun key => gdO (dget kvs key).isSome (ap k (ddrop kvs key))) := fun W E σ B Z H fp o p => by
  show (rd T C pe W).E σ H _
  obtain ⟨u, fx, q1, ⟨ndk, l, vs, f0, rfl, hl, ho, rfl⟩, q3, q4, q5⟩ := hp.chg o
  refine q1 pe rfl W _ B H (.refl o.b) fun B2 H2 g2 => ⟨l, rfl, .inl ⟨vs, .inl (g2.h _ _ hl)⟩, ?_⟩
  show (rd T C ke W).E σ H2 _
  refine evB_post hk w (o.gon g2) (p.up (g2.gz o.z)) fun key v' B3 H3 g3 r' o3 p3 => ?_
  have g := g2.trans g3
  cases hx : dget kvs key with
  | none => rw [hx] at p3; exact p3.elim
  | some x =>
    rw [hx] at p3
    obtain ⟨n, v, fx, gx, a1, a2, a3, a4, a5, a6⟩ := dict_at ho ndk hx
    refine ⟨vs, KeyC.kk key, v, g.h _ _ hl, KeyV.kv key H3 v' (r' H3), a3, ?_⟩
    have nd := List.nodup_cons.mp q3
    have key2 : ∀ {vs : List (Key × V)} {kvs : List (κ × α)} {f : List Addr}, OwF B H vs (dO τ kvs) f → ∃ f1 d, OwF B H (dropK vs (KeyC.kk key)) (dO τ (ddrop kvs key)) f1 ∧ (f1 ++ d).Perm f := fun {vs} => by
      induction vs with
      | nil =>
        intro kvs f hh
        cases kvs with
        | nil => exact ⟨[], f, ⟨rfl, rfl⟩, by simp⟩
        | cons _ _ => simp [OwF] at hh
      | cons q vs ih =>
        intro kvs f hh
        cases kvs with
        | nil => simp [OwF] at hh
        | cons p' kvs =>
          obtain ⟨h1, h2⟩ := hh
          simp only [List.map_cons, List.cons.injEq] at h1
          obtain ⟨a, b, e, h3, h4⟩ := h2
          subst e
          obtain ⟨f1, d, z1, z2⟩ := ih ⟨h1.2, h4⟩
          by_cases e : p'.1 = key
          · refine ⟨f1, a ++ d, ?_, ?_⟩
            · unfold dropK ddrop
              rw [List.filter_cons_of_neg (by rw [h1.1, e]; simp), List.filter_cons_of_neg (by rw [e]; simp)]
              exact z1
            · rw [perm_cnt] at z2 ⊢
              intro c
              have := z2 c
              simp only [List.count_append] at this ⊢
              omega
          · refine ⟨a ++ f1, d, ?_, ?_⟩
            · unfold dropK ddrop
              rw [List.filter_cons_of_pos (by rw [h1.1]; exact decide_eq_true fun z => e (KeyC.inj z)), List.filter_cons_of_pos (by exact decide_eq_true e)]
              exact ⟨List.cons_eq_cons.mpr ⟨h1.1, z1.1⟩, a, f1, rfl, h3, z1.2⟩
            · rw [List.append_assoc]
              exact z2.append_left a
    obtain ⟨f1, d, z1, z2⟩ := key2 ho
    have hsub : ∀ a ∈ f1, a ∈ f0 := fun a ha => z2.mem_iff.mp (List.mem_append_left _ ha)
    obtain ⟨fp', o2⟩ := q5 B3 H3 g (oDO τ (ddrop kvs key)) (upd H3 l (.dK (dropK vs (KeyC.kk key)))) (l :: f1) ⟨(List.Sublist.map _ List.filter_sublist).nodup ndk, l, _, f1, rfl, upd_same, ⟨z1.1, owl_upd z1.2 g.b g.h fun z => nd.1 (hsub l z)⟩, rfl⟩ (List.nodup_cons.mpr ⟨fun z => nd.1 (hsub l z), (List.nodup_append.mp (z2.nodup_iff.mpr nd.2)).1⟩) (fun a ha _ => upd_ne fun z => ha (by rw [z]; exact List.mem_cons_self)) (fun a ha => by
      rcases List.mem_cons.mp ha with rfl | ha
      · exact .inl List.mem_cons_self
      · exact .inl (List.mem_cons_of_mem _ (hsub a ha)))
    rw [hp.eq] at o2
    exact hs _ W E σ B3 Z _ fp' o2 p3
end
end Q
/-! Q40: defs that are lent own things: they give them back as they left them. -/
namespace Q
open PySem L2 PySem.Spec
/-- any own thing -/
def oAny : Ow where
  rel := fun _ H _ fp => ∀ a ∈ fp, (H a).isSome = true ∧ nTup H a
  mono := fun _ n h a ha => by unfold nTup; rw [n a ha]; exact h a ha
  al := fun h a ha => (h a ha).1
  nt := fun h a ha => (h a ha).2
  lk := fun _ n h a ha => by unfold nTup; rw [n a ha]; exact h a ha
  vw := ⟨fun _ _ => True, fun _ _ => trivial, fun _ _ => trivial⟩
  sub := fun _ _ _ => trivial
theorem le_any (o : Ow) : Le o oAny := ⟨fun _ _ _ _ h a ha => ⟨o.al h a ha, o.nt h a ha⟩⟩
/-- the parameters' views: of a lent thing it is known where it stands -/
def mkW : List Bool → List V → List Vw → List Vw
  | true :: sh, a :: as, ws => vC a :: mkW sh as ws
  | false :: sh, as, w :: ws => w :: mkW sh as ws
  | _, _, _ => []
def mkΓ : List Bool → List V → List Ow → List Vw → Cx0
  | true :: sh, a :: as, o :: os, ws => some (oQ (· = a) o) :: mkΓ sh as os ws
  | false :: sh, as, os, w :: ws => some (oV w) :: mkΓ sh as os ws
  | _, _, _, _ => []
def mkE : List Bool → List V → List Ow → Cx0
  | true :: sh, a :: as, o :: os => some (oQ (· = a) o) :: mkE sh as os
  | false :: sh, as, os => none :: mkE sh as os
  | _, _, _ => []
theorem mk_env {B H : Hp} {n : Nat} : ∀ {sh : List Bool} {as : List V} {os : List Ow} {ws : List Vw} {vs : List V} {fp : List Addr}, VwL B vs (mkW sh as ws) → OwL B H as os fp → as.length = sh.count true → ws.length = sh.count false → EnvO B H (vs.map some ++ List.replicate n none) (mkΓ sh as os ws ++ List.replicate n none) fp
  | [], as, os, ws, vs, fp, h, k, l1, l2 => by
    cases as with
    | cons _ _ => simp at l1
    | nil =>
      cases os with
      | cons _ _ => exact k.elim
      | nil =>
        rw [show fp = [] from k]
        cases h
        show EnvO B H (List.replicate n none) (List.replicate n none) []
        clear l1 l2
        induction n with
        | zero => exact rfl
        | succ n ih => exact ih
  | true :: sh, [], os, ws, vs, fp, h, k, l1, l2 => by simp at l1
  | true :: sh, a :: as, [], ws, vs, fp, h, k, l1, l2 => k.elim
  | true :: sh, a :: as, o :: os, ws, vs, fp, h, k, l1, l2 => by
    obtain ⟨f, g, h1, h2, h3⟩ := k
    cases h with
    | cons e l =>
      have e : _ = a := e
      subst e
      exact ⟨_, f, g, rfl, h1, ⟨rfl, h2⟩, mk_env l h3 (by simpa using l1) (by simpa using l2)⟩
  | false :: sh, as, os, [], vs, fp, h, k, l1, l2 => by simp at l2
  | false :: sh, as, os, w :: ws, vs, fp, h, k, l1, l2 => by
    cases as with
    | nil =>
      cases h with
      | cons e l => exact ⟨_, [], fp, rfl, rfl, ⟨e, rfl⟩, mk_env l k (by simpa using l1) (by simpa using l2)⟩
    | cons a as =>
      cases h with
      | cons e l => exact ⟨_, [], fp, rfl, rfl, ⟨e, rfl⟩, mk_env l k (by simpa using l1) (by simpa using l2)⟩
theorem mk_end {B H : Hp} {n : Nat} : ∀ {sh : List Bool} {as : List V} {os : List Ow} {σ : List (Option V)} {fp : List Addr}, EnvO B H σ (mkE sh as os ++ List.replicate n none) fp → as.length = sh.count true → os.length = sh.count true → OwL B H as os fp
  | [], as, os, σ, fp, h, l1, l2 => by
    cases as with
    | cons _ _ => simp at l1
    | nil =>
      cases os with
      | cons _ _ => simp at l2
      | nil =>
        have h : EnvO B H σ (List.replicate n none) fp := h
        clear l1 l2
        have key : ∀ (n : Nat) (σ : List (Option V)), EnvO B H σ (List.replicate n none) fp → OwL B H [] [] fp := fun n => by
          induction n with
          | zero => intro σ h; cases σ with
            | nil => exact h
            | cons _ _ => exact h.elim
          | succ n ih => intro σ h; cases σ with
            | nil => exact h.elim
            | cons _ σ => exact ih σ h
        exact key n σ h
  | true :: sh, [], os, σ, fp, h, l1, l2 => by simp at l1
  | true :: sh, a :: as, [], σ, fp, h, l1, l2 => by simp at l2
  | true :: sh, a :: as, o :: os, [], fp, h, l1, l2 => h.elim
  | true :: sh, a :: as, o :: os, v :: σ, fp, ⟨u, f, g, h0, h1, h2, h3⟩, l1, l2 => by
    obtain ⟨e, h2⟩ := h2
    have e : u = a := e
    subst e
    exact ⟨f, g, h1, h2, mk_end h3 (by simpa using l1) (by simpa using l2)⟩
  | false :: sh, as, os, σ, fp, h, l1, l2 => by
    cases σ with
    | nil => cases as <;> cases os <;> exact h.elim
    | cons v σ =>
      cases as with
      | nil => cases os <;> exact mk_end (σ := σ) h (by simpa using l1) (by simpa using l2)
      | cons a as => cases os <;> exact mk_end (σ := σ) h (by simpa using l1) (by simpa using l2)
section
variable {T : Tb} {cs : List Nat} {C : Kc} {Γ Γ' : Cx0} {α β γ ν ρ ξ ι ι' η κ κ' : Type}
def GPost (C : Kc) (own' : ι' → List Ow) (ownX : η → List Ow) (τ : β → Ow) (as : List V) (m : Out Unit Unit (β × ι') η) (Q : VK) (E : Value → Option Addr → Hp → Prop) (B Z : Hp) : Prop := match m with
  | .rt y => ∀ v B' H' fp', Gz B Z B' → Same B' H' → Same Z H' → OwL B' H' (v :: as) (τ y.1 :: own' y.2) fp' → fp'.Nodup → (∀ a ∈ fp', Z a = none ∧ B' a = none) → Q v H'
  | .exc e s => ∀ cls d B' H' fp', Gz B Z B' → Same B' H' → Same Z H' → OwL B' H' as (ownX s) fp' → fp'.Nodup → (∀ a ∈ fp', Z a = none ∧ B' a = none) → ExR C e cls d Z B' → E cls d H'
  | _ => False
/-- the promise of a def: sh says which parameters are lent -/
def FnG (C : Kc) (R : Row) (sh : List Bool) (ws : κ → List Vw) (own : ι → List Ow) (own' : ι' → List Ow) (ownX : η → List Ow) (τ : β → Ow) (f : κ → ι → Out Unit Unit (β × ι') η) : Prop :=
  ∀ k s as vs (B Z H : Hp) fp Q E, Same B H → Same Z H → VwL B vs (mkW sh as (ws k)) → OwL B H as (own s) fp → fp.Nodup → (∀ a ∈ fp, Z a = none ∧ B a = none) → GPost C own' ownX τ as (f k s) Q E B Z → R.sp C vs H Q E
/-- where a body falls off its end it gives y0 -/
def outN (y0 : β) (m : Out ι' Unit (β × ι') η) : Out Unit Unit (β × ι') η := match m with
  | .nx s => .rt (y0, s)
  | .bk _ => .bad
  | .ct _ => .bad
  | .rt x => .rt x
  | .exc e x => .exc e x
  | .bad => .bad
abbrev dsG (n : Nat) (sh : List Bool) (own' : ι' → List Ow) (ownX : η → List Ow) (τ : β → Ow) (as : List V) : Ds ι' Unit (β × ι') η :=
  ⟨fun s => mkE sh as (own' s) ++ List.replicate n none, fun _ => [], fun y => τ y.1, fun y => mkE sh as (own' y.2) ++ List.replicate n none, fun s => mkE sh as (ownX s) ++ List.replicate n none⟩
theorem mkW_len : ∀ {sh : List Bool} {as : List V} {ws : List Vw}, as.length = sh.count true → ws.length = sh.count false → (mkW sh as ws).length = sh.length
  | [], [], [], _, _ => rfl
  | [], _ :: _, _, h, _ => by simp at h
  | [], [], _ :: _, _, h => by simp at h
  | true :: sh, [], _, h, _ => by simp at h
  | true :: sh, a :: as, ws, h, h' => by
    show (mkW sh as ws).length + 1 = sh.length + 1
    rw [mkW_len (by simpa using h) (by simpa using h')]
  | false :: sh, as, [], _, h => by simp at h
  | false :: sh, as, w :: ws, h, h' => by
    cases as <;>
    · show (mkW sh _ ws).length + 1 = sh.length + 1
      rw [mkW_len (by simpa using h) (by simpa using h')]
theorem fn_own {R : Row} {sh : List Bool} {ws : κ → List Vw} {own : ι → List Ow} {own' : ι' → List Ow} {ownX : η → List Ow} {τ : β → Ow} {y0 : β} {f : κ → ι → Out ι' Unit (β × ι') η} {n N : Nat} {s : S} (hR : ∀ C, R.sp C = spB T cs n N s C) (hn : sh.length = n)
    (hw : ∀ k, (ws k).length = sh.count false) (ho : ∀ s, (own s).length = sh.count true) (ho' : ∀ s, (own' s).length = sh.count true) (hoX : ∀ s, (ownX s).length = sh.count true) (hy : ∀ B H, (τ y0).rel B H .non [] ∨ ∀ k s s', f k s ≠ .nx s')
    (h : ∀ k s as, as.length = sh.count true → Blk T cs C (dsG (N - n) sh own' ownX τ as) (mkΓ sh as (own s) (ws k) ++ List.replicate (N - n) none) b (f k s)) (hb : b = s) : FnG C R sh ws own own' ownX τ (fun k s => outN y0 (f k s)) := fun k s0 as vs B Z H fp Q E sB sZ hv hl nd fr z => by
  subst hb
  have la : as.length = sh.count true := by rw [hl.len, ho]
  have hlv : vs.length = n := by rw [hv.len, mkW_len la (hw k), hn]
  rw [hR]
  refine ⟨hlv, ?_⟩
  rw [hlv]
  refine h k s0 as la _ _ _ B Z H fp ⟨mk_env hv hl la (hw k), nd, fr, sB, sZ⟩ ?_
  replace z : GPost C own' ownX τ as (outN y0 (f k s0)) Q E B Z := z
  cases q : f k s0 with
  | nx s' =>
    rw [q] at z
    intro σ B' H' fp' g o
    rcases hy B' H' with hy | hy
    · exact z .non B' H' fp' g o.b o.z ⟨[], fp', rfl, hy, mk_end o.env la (ho' _)⟩ o.nd o.fr
    · exact absurd q (hy k s0 s')
  | bk x => rw [q] at z; exact z.elim
  | ct x => rw [q] at z; exact z.elim
  | bad => rw [q] at z; exact z.elim
  | rt y =>
    rw [q] at z
    intro v σ B' H' fp' g o
    obtain ⟨⟨u, f0, g0, h0, h1, h2, h3⟩, nd', fr', b', zz⟩ := o
    cases h0
    exact z v B' H' fp' g b' zz ⟨f0, g0, h1, h2, mk_end h3 la (ho' _)⟩ nd' fr'
  | exc e x =>
    rw [q] at z
    intro cls d σ B' H' fp' g o r
    exact z cls d B' H' fp' g o.b o.z (mk_end o.env la (hoX _)) o.nd o.fr r
/-! the caller -/
/-- things that stand at known places, all at once -/
structure Ln (T : Tb) (C : Kc) (Γ : Cx0) (us : List V) (xs : List Ow) (back : List Ow → Cx0) : Prop where
  run : ∀ (σ : L2.St) (B H : Hp) (fp : List Addr), EnvO B H σ Γ fp → Same B H → ∃ fx g, OwL B H us xs fx ∧ (fx ++ g).Perm fp ∧
    ∀ B' H' (xs' : List Ow) fy, Same B B' → Same B' H' → (∀ a ∈ g, H' a = H a) → OwL B' H' us xs' fy → ∃ fp', EnvO B' H' σ (back xs') fp' ∧ (fy ++ g).Perm fp'
theorem ln_one {oe : Option E} {u : V} {τ : α → Ow} {x : α} {put : Ow → Cx0} {pt : α → Cx0} {back : List Ow → Cx0} (h : Pl T C Γ oe (fun x => oQ (· = u) (τ x)) x put pt) (hb : ∀ o, back [o] = put o) : Ln T C Γ [u] [τ x] back := ⟨fun σ B H fp k s => by
  obtain ⟨v, f, g, _, ⟨e, q2⟩, q3, q4⟩ := h.run σ B H fp k s
  have e : v = u := e
  subst e
  refine ⟨f, g, ⟨f, [], by simp, q2, rfl⟩, q3, fun B' H' xs' fy b _ n r => ?_⟩
  match xs', r with
  | [o], ⟨f1, f2, h1, h2, h3⟩ =>
    have h3 : f2 = [] := h3
    subst h3
    rw [List.append_nil] at h1
    subst h1
    rw [hb]
    exact q4 B' H' o fy b n h2
  | o :: o' :: os, ⟨_, _, _, _, h3⟩ => exact h3.elim⟩
theorem ln_cons {oe oe' : Option E} {u : V} {us : List V} {xs : List Ow} {τ : α → Ow} {x : α} {put : Ow → Cx0} {pt : α → Cx0} {back1 : List Ow → Cx0} {put3 : List Ow → Ow → Cx0} {pt3 : List Ow → Unit → Cx0} {back : List Ow → Cx0} (h : Pl T C Γ oe (fun x => oQ (· = u) (τ x)) x put pt)
    (h2 : Ln T C (put (oV (vC u))) us xs back1) (h3 : ∀ os, os.length = us.length → Pl T C (back1 os) oe' (fun _ : Unit => oV (vC u)) () (put3 os) (pt3 os)) (hb : ∀ o os, os.length = us.length → back (o :: os) = put3 os o) : Ln T C Γ (u :: us) (τ x :: xs) back := ⟨fun σ B H fp k s => by
  obtain ⟨v, f, g, _, ⟨e, q2⟩, q3, q4⟩ := h.run σ B H fp k s
  have e : v = u := e
  subst e
  obtain ⟨fp1, k1, p1⟩ := q4 B H (oV (vC v)) [] (sm_refl _) (fun _ _ => rfl) ⟨rfl, rfl⟩
  obtain ⟨f2, g2, r2, p2, up2⟩ := h2.run σ B H fp1 k1 s
  refine ⟨f ++ f2, g2, ⟨f, f2, rfl, q2, r2⟩, ?_, fun B' H' xs' fy b sb n r => ?_⟩
  · rw [perm_cnt] at q3 p1 p2 ⊢
    intro a
    have h1 := q3 a
    have h2 := p1 a
    have h3 := p2 a
    simp only [List.count_append, List.count_nil] at h1 h2 h3 ⊢
    omega
  · match xs', r with
    | o :: os, ⟨f1, f2', h1, h2', h3'⟩ =>
      subst h1
      obtain ⟨fp2, k2, pp2⟩ := up2 B' H' os f2' b sb n h3'
      have hl : os.length = us.length := h3'.len.symm
      obtain ⟨u3, fx3, g3, _, ⟨e3, e4⟩, p3, up3⟩ := (h3 os hl).run σ B' H' fp2 k2 sb
      have e3 : u3 = v := e3
      subst e3 e4
      obtain ⟨fp3, k3, pp3⟩ := up3 B' H' o f1 (sm_refl _) (fun _ _ => rfl) h2'
      rw [hb o os hl]
      refine ⟨fp3, k3, ?_⟩
      rw [perm_cnt] at pp2 p3 pp3 ⊢
      intro a
      have h1 := pp2 a
      have h2 := p3 a
      have h3 := pp3 a
      simp only [List.count_append, List.count_nil] at h1 h2 h3 ⊢
      omega⟩
/-- all that lives but what is at f -/
def allBut (H : Hp) (f : List Addr) : Hp := fun a => if a ∈ f then none else H a
theorem allBut_same (H : Hp) (f : List Addr) : Same (allBut H f) H := fun a u e => by
  unfold allBut at e
  split at e
  · cases e
  · exact e
theorem allBut_in {H : Hp} {f : List Addr} {a : Addr} (h : a ∈ f) : allBut H f a = none := if_pos h
theorem allBut_out {H : Hp} {f : List Addr} {a : Addr} (h : a ∉ f) : allBut H f a = H a := if_neg h
theorem allBut_none {H : Hp} {f : List Addr} {a : Addr} (h : allBut H f a = none) : a ∈ f ∨ H a = none := by
  by_cases q : a ∈ f
  · exact .inl q
  · rw [allBut_out q] at h; exact .inr h
/-- the caller's side: what a def gave, the lent things, or its error -/
def Out.mth {ν β' ρ ξ : Type} (m : Out Unit Unit (β × ι') η) (x1 : η → ξ) (k : β → ι' → Out ν β' ρ ξ) : Out ν β' ρ ξ := match m with
  | .rt r => k r.1 r.2
  | .exc e s => .exc e (x1 s)
  | _ => .bad
theorem owl_oV_vw {B H : Hp} : ∀ {vs : List V} {ws : List Vw} {fq : List Addr}, OwL B H vs (ws.map oV) fq → VwL B vs ws
  | [], [], _, _ => .nil
  | [], _ :: _, _, h => h.elim
  | _ :: _, [], _, h => h.elim
  | _ :: _, _ :: _, _, ⟨_, _, _, h2, h3⟩ => .cons h2.1 (owl_oV_vw h3)
/-- what is given, one behind another -/
theorem evL_post {ν β' ρ ξ : Type} {D : Ds ν β' ρ ξ} {es : E} {os : κ → List Vw} {m : Res κ} {x0 : ξ} {k : κ → Out ν β' ρ ξ} (h : EvLO T C Γ es (fun k => (os k).map oV) (fun k => Res.ok k) m) (w : Cv Γ (D.x x0)) {W : WX} {E : Ends} {σ : L2.St} {B Z H : Hp} {fp : List Addr} {Q : List V → Hp → Prop} (o : Oks Γ σ B Z H fp) (p : Post C D (m.to x0 k) W E B Z)
    (q : ∀ x vs B' H', Gon B H B' H' → VwL B' vs (os x) → Post C D (k x) W E B' Z → Q vs H') : (rd T C es W).L σ H Q := by
  refine h W σ B H (fun x => Post C D (k x) W E B Z) _ o.envC ?_ fun x vs B1 H1 fq g1 p1 _ _ z1 => q x vs B1 H1 g1 (owl_oV_vw p1) (Post.up z1 (g1.gz o.z))
  cases m with
  | ok x => exact p
  | exc e => exact fun cls d H' s r => exc_cv o w p s r
  | bad => exact p
/-- the heart of a call with lent things -/
theorem call_lent {ν β' ρ ξ : Type} {D : Ds ν β' ρ ξ} {us : List V} {xs : List Ow} {back : List Ow → Cx0} {own' : ι' → List Ow} {ownX : η → List Ow} {τ : β → Ow} {mo : Out Unit Unit (β × ι') η} {x1 : η → ξ} {K : β → ι' → Out ν β' ρ ξ} {W : WX} {E : Ends} {σ : L2.St} {B Z H B1 H1 : Hp} {fp : List Addr} {Q : VK}
    (ln : ∃ fx g, OwL B H us xs fx ∧ (fx ++ g).Perm fp ∧ ∀ B' H' (xs' : List Ow) fy, Same B B' → Same B' H' → (∀ a ∈ g, H' a = H a) → OwL B' H' us xs' fy → ∃ fp', EnvO B' H' σ (back xs') fp' ∧ (fy ++ g).Perm fp') (w1 : ∀ s', Cv (back (ownX s')) (D.x (x1 s'))) (ok : Oks Γ σ B Z H fp) (g1 : Gon B H B1 H1) (p : Post C D (mo.mth x1 K) W E B1 Z)
    (qq : ∀ (y : β × ι') v B' H' fp', Gz B Z B' → Oks (some (τ y.1) :: back (own' y.2)) (some v :: σ) B' Z H' fp' → Post C D (K y.1 y.2) W E B' Z → Q v H') :
    ∃ Z' fx, Same Z' H1 ∧ OwL B1 H1 us xs fx ∧ fx.Nodup ∧ (∀ a ∈ fx, Z' a = none ∧ B1 a = none) ∧ GPost C own' ownX τ us mo Q (fun cls d H' => W cls d σ H') B1 Z' := by
  obtain ⟨f0, g0, q2, q3, q4⟩ := ln
  have al : ∀ b ∈ fp, (H b).isSome = true := ok.env.al
  have inf : ∀ b ∈ f0, b ∈ fp := fun b hb => q3.mem_iff.mp (List.mem_append_left _ hb)
  have ing : ∀ b ∈ g0, b ∈ fp := fun b hb => q3.mem_iff.mp (List.mem_append_right _ hb)
  obtain ⟨n1, n2, n3⟩ := List.nodup_append.mp (q3.nodup_iff.mpr ok.nd)
  have old : ∀ b ∈ fp, H1 b = H b := fun b hb => same_at g1.h (al b hb)
  have b1n : ∀ b ∈ fp, B1 b = none := fun b hb => newB_none g1.n (ok.fr b hb).2 (al b hb) (ok.env.nt b hb)
  have zh1 : Same Z H1 := sm_trans ok.z g1.h
  have zn : ∀ b, allBut H1 f0 b = none → Z b = none := fun b hb => by
    rcases allBut_none hb with z | z
    · exact (ok.fr b (inf b z)).1
    · exact none_back zh1 z
  have zm : ∀ b ∈ g0, allBut H1 f0 b = H b := fun b hb => by
    rw [allBut_out (fun z => n3 b z b hb rfl), old b (ing b hb)]
  have zs : ∀ H2, Same (allBut H1 f0) H2 → Same Z H2 := fun H2 z2 b u e => z2 b u (by
    rw [allBut_out (fun z => by rw [(ok.fr b (inf b z)).1] at e; cases e)]
    exact zh1 b u e)
  have zg1 : ∀ B2, Gz B1 (allBut H1 f0) B2 → Gz B1 Z B2 := fun B2 gz => ⟨gz.b, fun b u e => by
    rcases gz.n b u e with z | z | ⟨z, t⟩
    · exact .inl z
    · exact .inr (.inl (zn b z))
    · cases hZ : Z b with
      | none => exact .inr (.inl rfl)
      | some w =>
        have h1 := zh1 b w hZ
        have h2 := allBut_same H1 f0 b u z
        rw [h1] at h2
        cases h2
        exact .inr (.inr ⟨rfl, t⟩)⟩
  have zg : ∀ B2, Gz B1 (allBut H1 f0) B2 → Gz B Z B2 := fun B2 gz => (g1.gz ok.z).trans (zg1 B2 gz)
  have keep : ∀ H2, Same (allBut H1 f0) H2 → ∀ b ∈ g0, H2 b = H b := fun H2 z2 b hb => by
    obtain ⟨u, hu⟩ := Option.isSome_iff_exists.mp (al b (ing b hb))
    rw [hu]
    exact z2 b u (by rw [zm b hb, hu])
  have gfr : ∀ B2, Gz B1 (allBut H1 f0) B2 → ∀ b ∈ g0, Z b = none ∧ B2 b = none := fun B2 gz b hb => ⟨(ok.fr b (ing b hb)).1, by
    cases e : B2 b with
    | none => rfl
    | some u =>
      rcases gz.n b u e with z | z | ⟨z, t⟩
      · rw [b1n b (ing b hb)] at z; cases z
      · have := al b (ing b hb)
        rw [← zm b hb, z] at this; cases this
      · rw [zm b hb] at z
        rw [ok.env.nt b (ing b hb) u z] at t; cases t⟩
  have sep : ∀ b, allBut H1 f0 b = none → b ∉ g0 := fun b e hb => by
    have := al b (ing b hb)
    rw [← zm b hb, e] at this; cases this
  refine ⟨allBut H1 f0, f0, allBut_same H1 f0, OwL.mono g1.b (fun b hb => old b (inf b hb)) q2, n1, fun b hb => ⟨allBut_in hb, b1n b (inf b hb)⟩, ?_⟩
  cases hq : mo with
  | nx x => rw [hq] at p; exact p.elim
  | bk x => rw [hq] at p; exact p.elim
  | ct x => rw [hq] at p; exact p.elim
  | bad => rw [hq] at p; exact p.elim
  | rt y =>
    rw [hq] at p
    intro v B2 H2 fp2 gz b2 z2 ⟨fu, f2, e, ru, rs⟩ nd2 fr2
    subst e
    obtain ⟨fp', k1, k2⟩ := q4 B2 H2 (own' y.2) f2 (sm_trans g1.b gz.b) b2 (keep H2 z2) rs
    obtain ⟨m1, m4, m3⟩ := List.nodup_append.mp nd2
    have fu2 : ∀ b ∈ fu, allBut H1 f0 b = none ∧ B2 b = none := fun b hb => fr2 b (List.mem_append_left _ hb)
    have ff2 : ∀ b ∈ f2, allBut H1 f0 b = none ∧ B2 b = none := fun b hb => fr2 b (List.mem_append_right _ hb)
    refine qq y v B2 H2 (fu ++ fp') (zg B2 gz) ⟨⟨v, fu, fp', rfl, rfl, ru, k1⟩, List.nodup_append.mpr ⟨m1, k2.nodup_iff.mp (List.nodup_append.mpr ⟨m4, n2, fun b hb d hd e => sep b (ff2 b hb).1 (e ▸ hd)⟩), fun b hb d hd e => ?_⟩, fun b hb => ?_, b2, zs H2 z2⟩ (Post.up p (zg1 B2 gz))
    · subst e
      rcases List.mem_append.mp (k2.mem_iff.mpr hd) with z | z
      · exact m3 b hb b z rfl
      · exact sep b (fu2 b hb).1 z
    · rcases List.mem_append.mp hb with z | z
      · exact ⟨zn b (fu2 b z).1, (fu2 b z).2⟩
      · rcases List.mem_append.mp (k2.mem_iff.mpr z) with z | z
        · exact ⟨zn b (ff2 b z).1, (ff2 b z).2⟩
        · exact gfr B2 gz b z
  | exc e s' =>
    rw [hq] at p
    intro cls d B2 H2 f2 gz b2 z2 rs nd2 fr2 r
    obtain ⟨fp', k1, k2⟩ := q4 B2 H2 (ownX s') f2 (sm_trans g1.b gz.b) b2 (keep H2 z2) rs
    have o3 : Oks (back (ownX s')) σ B2 Z H2 fp' := ⟨k1, k2.nodup_iff.mp (List.nodup_append.mpr ⟨nd2, n2, fun b hb d hd e => sep b (fr2 b hb).1 (e ▸ hd)⟩), fun b hb => by
      rcases List.mem_append.mp (k2.mem_iff.mpr hb) with z | z
      · exact ⟨zn b (fr2 b z).1, (fr2 b z).2⟩
      · exact gfr B2 gz b z, b2, zs H2 z2⟩
    obtain ⟨fr, o4⟩ := w1 s' _ _ _ _ _ o3
    exact p cls d σ B2 H2 fr (zg1 B2 gz) o4 (r.imp_right fun t => t.imp_right fun ⟨d, h1, h2, h3⟩ => ⟨d, h1, h2, zn d h3⟩)
/-- f(..), some of what is given being lent -/
theorem evx_call {ν β' ρ ξ : Type} {D : Ds ν β' ρ ξ} {i : Nat} {es : E} {us : List V} {xs : List Ow} {back : List Ow → Cx0} {sh : List Bool} {own : ι → List Ow} {own' : ι' → List Ow} {ownX : η → List Ow} {s : ι} {ws : κ' → List Vw} {os : κ → List Vw} {τ : β → Ow} {f : κ' → ι → Out Unit Unit (β × ι') η} {g : κ → κ'} {dv : List V} {wd : List Vw} {m : Res κ} {x0 : ξ} {x1 : η → ξ} {K : β → ι' → Out ν β' ρ ξ}
    (hf : FnG C (T.f i) sh ws own own' ownX τ f) (ln : Ln T C Γ us xs back) (hx : xs = own s)
    (har : elen es ≤ (T.f i).ar ∧ (T.f i).ar ≤ elen es + (T.f i).dfl.length) (hdv : (T.f i).dfl.drop (elen es + (T.f i).dfl.length - (T.f i).ar) = dv) (hwd : ∀ H, VwL H dv wd) (hg : ∀ k, mkW sh us (ws (g k)) = os k ++ wd)
    (h : EvLO T C Γ es (fun k => (os k).map oV) (fun k => Res.ok k) m) (w : Cv Γ (D.x x0)) (w1 : ∀ s', Cv (back (ownX s')) (D.x (x1 s'))) :
    EvX T C D Γ (.call i es) (fun y : β × ι' => τ y.1) (fun y => back (own' y.2)) (fun y => K y.1 y.2) (m.to x0 fun k => (f (g k) s).mth x1 K) := fun W E σ B Z H fp Q ok p qq => by
  show rCall (T.f i) C (elen es) (WE W) (rd T C es W).L σ H Q
  unfold rCall
  rw [if_pos har, hdv]
  subst hx
  refine evL_post h w ok p fun k vs B1 H1 g1 p2 pk => ?_
  obtain ⟨Z', fx, c1, c2, c3, c4, c5⟩ := call_lent (τ := τ) (Q := Q) (ln.run σ B H fp ok.env ok.b) w1 ok g1 pk qq
  exact hf (g k) s us (vs ++ dv) B1 Z' H1 fx Q (WE W σ) g1.s c1 (by rw [hg]; exact vwl_append p2 (hwd B1)) c2 c3 c4 c5
/-- x.m(..), x being lent -/
theorem evx_mth {ν β' ρ ξ : Type} {D : Ds ν β' ρ ξ} {a es : E} {mt : Str} {cls : List Nat} {c : Nat} {u : V} {us : List V} {xs : List Ow} {back : List Ow → Cx0} {sh : List Bool} {own : ι → List Ow} {own' : ι' → List Ow} {ownX : η → List Ow} {s : ι} {ws : κ' → List Vw} {os : κ → List Vw} {τ : β → Ow} {f : κ' → ι → Out Unit Unit (β × ι') η} {g : κ → κ'} {dv : List V} {wd : List Vw} {m : Res κ} {x0 : ξ} {x1 : η → ξ} {K : β → ι' → Out ν β' ρ ξ}
    {iR : Nat} (hmt : T.mt c mt = iR) (hf : FnG C (T.f iR) (true :: sh) ws own own' ownX τ f) (ln : Ln T C Γ (u :: us) xs back) (hx : xs = own s) (hc : c ∈ cls) (ha : EvO T C Γ a (fun _ : Unit => oV (vC u)) (.ok ()))
    (hins : ∃ fs os', own s = oIn C c fs :: os' ∧ (fs.map (·.1)).contains mt = false)
    (har : elen es + 1 ≤ (T.f iR).ar ∧ (T.f iR).ar ≤ elen es + 1 + (T.f iR).dfl.length) (hdv : (T.f iR).dfl.drop (elen es + 1 + (T.f iR).dfl.length - (T.f iR).ar) = dv) (hwd : ∀ H, VwL H dv wd) (hg : ∀ k, mkW sh us (ws (g k)) = os k ++ wd)
    (h : EvLO T C Γ es (fun k => (os k).map oV) (fun k => Res.ok k) m) (w : Cv Γ (D.x x0)) (w1 : ∀ s', Cv (back (ownX s')) (D.x (x1 s'))) :
    EvX T C D Γ (.mth cls a mt es) (fun y : β × ι' => τ y.1) (fun y => back (own' y.2)) (fun y => K y.1 y.2) (m.to x0 fun k => (f (g k) s).mth x1 K) := fun W E σ B Z H fp Q ok p qq => by
  subst hmt
  show rMeth T C cls mt (elen es) (WE W) (rd T C a W).E (rd T C es W).L σ H Q
  refine ⟨c, hc, har, ?_⟩
  rw [hdv]
  show (rd T C a W).E σ H _
  refine ha W σ B H _ ok.envC fun v Ba Ha ga ⟨fa, ⟨e, _⟩, _, _⟩ => ?_
  have e : v = u := e
  subst e
  subst hx
  have oka := ok.gon ga
  obtain ⟨fs, os', e1, e2⟩ := hins
  obtain ⟨f0, g0, q2, _, _⟩ := ln.run σ Ba Ha fp oka.env oka.b
  have q2' := q2
  rw [e1] at q2'
  obtain ⟨fx1, fx2, _, ⟨pa, dx, vs0, ff, hv, hp, ⟨hk, _⟩, _⟩, _⟩ := q2'
  refine ⟨pa, dx, vs0, hv, hp, ?_, ?_⟩
  · cases hl : vs0.lookup mt with
    | none => rfl
    | some z =>
      have : ∀ {l : List (Str × V)} {z : V}, l.lookup mt = some z → (l.map (·.1)).contains mt = true := fun {l} => by
        induction l with
        | nil => intro z h; simp at h
        | cons q l ih =>
          intro z h
          rw [List.lookup_cons] at h
          cases hq : mt == q.1 with
          | true =>
            rw [List.map_cons, List.contains_cons, hq]; rfl
          | false =>
            rw [hq] at h
            rw [List.map_cons, List.contains_cons, ih h, Bool.or_true]
      have h3 := this hl
      rw [hk, e2] at h3
      cases h3
  refine evL_post h w oka (p.up (ga.gz ok.z)) fun k vs B1 H1 g1 p2 pk => ?_
  obtain ⟨Z', fx, c1, c2, c3, c4, c5⟩ := call_lent (τ := τ) (Q := Q) (ln.run σ B H fp ok.env ok.b) w1 ok (ga.trans g1) pk qq
  exact hf (g k) s (v :: us) (v :: (vs ++ dv)) B1 Z' H1 fx Q (WE W σ) g1.s c1 (.cons rfl (by rw [hg]; exact vwl_append p2 (hwd B1))) c2 c3 c4 c5
end
end Q
/-! Q41: paths read, own things borrowed whose leaves are tuples, new instances, tests that change things. -/
namespace Q
open PySem L2 PySem.Spec
/-- the tuples of the one are in the other -/
def TSame (B B' : Hp) : Prop := ∀ a u, tupB u = true → B a = some u → B' a = some u
/-- a view of tuples and flat things alone -/
class VT {α : Type} (τ : α → Vw) : Prop where
  vt : ∀ x B B' v, TSame B B' → (τ x).rel B v → (τ x).rel B' v
class CloT {α : Type} (τ : α → Ow) : Prop where
  ct : ∀ x B B' H v fp, TSame B B' → (τ x).rel B H v fp → (τ x).rel B' H v fp
def VTL (ws : List Vw) : Prop := ∀ B B' vs, TSame B B' → VwL B vs ws → VwL B' vs ws
def CTL (os : List Ow) : Prop := ∀ B B' H vs fp, TSame B B' → OwL B H vs os fp → OwL B' H vs os fp
section
variable {T : Tb} {cs : List Nat} {C : Kc} {Γ Γ' : Cx0} {α β γ ν ν' ρ ξ ι ι' η κ κ' : Type}
instance {τ : α → Vw} [i : Flat τ] : VT τ := ⟨fun x B B' v _ h => i.fl x B B' v h⟩
theorem vt_opt {τ : α → Vw} (i : VT τ) : VT (vOpt τ) := ⟨fun x B B' v s h => match x, h with
  | none, h => h
  | some x, h => i.vt x B B' v s h⟩
instance {τ : α → Vw} [i : VT τ] : VT (vOpt τ) := vt_opt i
theorem vtl_nil : VTL [] := fun _ _ _ _ h => by cases h; exact .nil
theorem vtl_cons {τ : α → Vw} [i : VT τ] {x : α} {ws : List Vw} (h : VTL ws) : VTL (τ x :: ws) := fun B B' vs s q => by
  cases q with
  | cons a l => exact .cons (i.vt x B B' _ s a) (h B B' _ s l)
theorem sqT_ts {K : Frag} {B B' : Hp} {p : Addr} {vs : List V} (s : TSame B B') (h : SqT K B p vs) : SqT K B' p vs := by
  rcases h with (h | ⟨o, h⟩) | h
  · exact .inl (.inl (s p _ rfl h))
  · exact .inl (.inr ⟨o, s p _ rfl h⟩)
  · exact .inr h
theorem vt_tup {ws : α → List Vw} (h : ∀ x, VTL (ws x)) : VT (fun x => vTup C (ws x)) := ⟨fun x B B' v s ⟨p, vs, h1, h2, h3⟩ => ⟨p, vs, h1, sqT_ts s h2, h x B B' vs s h3⟩⟩
instance {τ : α → Vw} [i : VT τ] : CloT (fun x => oV (τ x)) := ⟨fun x B B' H v fp s h => ⟨i.vt x B B' v s h.1, h.2⟩⟩
theorem ctl_nil : CTL [] := fun _ _ _ vs _ _ h => by cases vs <;> exact h
theorem ctl_cons {τ : α → Ow} [i : CloT τ] {x : α} {os : List Ow} (h : CTL os) : CTL (τ x :: os) := fun B B' H vs fp s q => match vs, q with
  | v :: vs, ⟨f, g, h1, h2, h3⟩ => ⟨f, g, h1, i.ct x B B' H v f s h2, h B B' H vs g s h3⟩
theorem ctl_map {τ : α → Ow} [i : CloT τ] : ∀ xs : List α, CTL (xs.map τ)
  | [] => ctl_nil
  | _ :: xs => ctl_cons (ctl_map xs)
theorem clot_ls {os : α → List Ow} (h : ∀ x, CTL (os x)) : CloT (fun x => oLs C (os x)) := ⟨fun x B B' H v fp s ⟨p, vs, f, h1, h2, h3, h4⟩ => ⟨p, vs, f, h1, h2, h x B B' H vs f s h3, h4⟩⟩
instance {τ : α → Ow} [i : CloT τ] : CloT (oL C τ) := clot_ls (os := fun xs : List α => xs.map τ) fun xs => ctl_map xs
theorem clot_tup {os : α → List Ow} (h : ∀ x, CTL (os x)) : CloT (fun x => oTup C (os x)) := ⟨fun x B B' H v fp s ⟨p, vs, h1, h2, h3⟩ => ⟨p, vs, h1, sqT_ts s h2, h x B B' H vs fp s h3⟩⟩
theorem clot_in {c : Nat} {os : α → List (Str × Ow)} (h : ∀ x, CTL ((os x).map (·.2))) : CloT (fun x => oIn C c (os x)) := ⟨fun x B B' H v fp s ⟨p, dx, vs, f, h1, h2, ⟨h3, h3'⟩, h4⟩ => ⟨p, dx, vs, f, h1, h2, ⟨h3, h x B B' H _ f s h3'⟩, h4⟩⟩
instance [KeyC κ] {τ : α → Ow} [i : CloT τ] : CloT (fun kvs : List (κ × α) => oDO τ kvs) := ⟨fun kvs B B' H v fp s ⟨nd, p, vs, f, h1, h2, ⟨h3, h3'⟩, h4⟩ => ⟨nd, p, vs, f, h1, h2, ⟨h3, by
    have e : (dO τ kvs).map (·.2) = (kvs.map (·.2)).map τ := by unfold dO; rw [List.map_map, List.map_map]; rfl
    rw [e] at h3' ⊢
    exact ctl_map _ B B' H _ f s h3'⟩, h4⟩⟩
theorem owv_in {c : Nat} {os : α → List (Str × Ow)} {ws : α → List (Str × Vw)} (h : ∀ x, (os x).map (fun q => (q.1, q.2.vw)) = ws x) : OwV (fun x => oIn C c (os x)) (fun x => vIn C c (ws x)) := ⟨fun x => by
  show vIn C c ((os x).map fun q => (q.1, q.2.vw)) = _
  rw [h]⟩
/-- what is read of own things, kept where its leaves are tuples -/
theorem bor_evC {e : E} {τ : α → Ow} [i : CloT τ] {m : Res α} (b : Bor Γ Γ') (h : EvO T C Γ' e τ m) : EvO T C Γ e τ m := fun W σ B H Q g z => by
  refine h W σ H H Q (b.envC g) (rz_imp z (fun x q v B' H' g1 ⟨fp, r, n, f⟩ => ?_) fun _ z => z)
  let O : Hp := fun a => match B a with
    | some u => some u
    | none => match B' a with
      | some u => if tupB u = true then some u else none
      | none => none
  have oB : ∀ a u, B a = some u → O a = some u := fun a u e => by show (match B a with | some u => some u | none => _) = _; rw [e]
  have oN : ∀ a, B a = none → O a = (match B' a with | some u => if tupB u = true then some u else none | none => none) := fun a e => by show (match B a with | some u => some u | none => _) = _; rw [e]
  have inv : ∀ a u, O a = some u → B a = some u ∨ (B' a = some u ∧ tupB u = true) := fun a u e => by
    cases hb : B a with
    | some w => rw [oB a w hb] at e; exact .inl e
    | none =>
      rw [oN a hb] at e
      cases hb' : B' a with
      | none => rw [hb'] at e; cases e
      | some w =>
        rw [hb'] at e
        simp only at e
        split at e
        · rename_i ht
          cases e
          exact .inr ⟨rfl, ht⟩
        · cases e
  have ts : TSame B' O := fun a u ht e => by
    cases hb : B a with
    | some w =>
      have := g1.b a w (g.sub a w hb)
      rw [e] at this
      cases this
      exact oB a u hb
    | none => rw [oN a hb, e]; simp only [if_pos ht]
  refine q v O H' ⟨fun a u e => oB a u e, g1.h, fun a u e => ?_, fun a u e => ?_⟩ ⟨fp, i.ct x B' O H' v fp ts r, n, fun a ha => ⟨(f a ha).1, ?_⟩⟩
  · rcases inv a u e with h | ⟨h, _⟩
    · exact g1.h a u (g.sub a u h)
    · exact g1.s a u h
  · rcases inv a u e with h | ⟨h, ht⟩
    · exact .inl h
    · rcases g1.n a u h with h | h | h
      · exact .inr (.inr ⟨h, ht⟩)
      · exact .inr (.inl h)
      · exact .inr (.inr ⟨h.1, ht⟩)
  · rw [oN a (none_back g.sub (f a ha).1), (f a ha).2]
/-! paths -/
theorem evP_q {a : E} {p : V → Prop} {τ : α → Ow} {m : Res α} (h : EvP T C Γ a (fun x => oQ p (τ x)) m) : EvP T C Γ a τ m := h.imp fun _ _ _ _ _ _ _ ⟨fp, r⟩ => ⟨fp, r.2⟩
theorem evP_att {a : E} {c n : Nat} {f : Str} {os : α → List (Str × Ow)} {τ : γ → Ow} {fl : α → γ} {m : Res α} (hcl : Cls C.K (C.cl c)) (hna : NoAttr C.K (C.cl c) f) (h : EvP T C Γ a (fun x => oIn C c (os x)) m) (hf : ∀ x, fix f (os x) = some n) (ho : ∀ x, ((os x).map (·.2))[n]? = some (τ (fl x))) :
    EvP T C Γ (.att a f) τ (m >>= fun x => .ok (fl x)) := fun W σ B H Q g z => by
  refine h W σ B H _ g (rz_imp (rz_bind.mp z) (fun x z v B1 H1 g1 ⟨fp, p, dx, vs, ff, hv, hp, ⟨hk, hl⟩, _⟩ => ?_) fun _ z => z)
  subst hv
  obtain ⟨w, fx, g2, k1, k2, k3, k4⟩ := OwL.foc hl (ho x)
  exact ⟨p, _, dx, vs, w, rfl, hp, hcl, hna, fix_look (hf x) hk k1, z w B1 H1 g1 ⟨fx, k3⟩⟩
theorem evP_tup {a : E} {n : Nat} {os : α → List Ow} {τ : γ → Ow} {fl : α → γ} {m : Res α} (h : EvP T C Γ a (fun x => oTup C (os x)) m) (ho : ∀ x, (os x)[n]? = some (τ (fl x))) : EvP T C Γ (.ix a (.int n)) τ (m >>= fun x => .ok (fl x)) := fun W σ B H Q g z => by
  refine h W σ B H _ g (rz_imp (rz_bind.mp z) (fun x z v B1 H1 g1 ⟨fp, p, vs, hv, hp, hl⟩ => ?_) fun _ z => z)
  subst hv
  obtain ⟨w, fx, g2, k1, k2, k3, k4⟩ := OwL.foc hl (ho x)
  have hl : n < vs.length := by
    rcases Nat.lt_or_ge n vs.length with q | q
    · exact q
    · rw [List.getElem?_eq_none q] at k1; cases k1
  refine .inl (.inr (.inl ⟨p, vs, n, w, rfl, rfl, sm_sqT g1.s hp, ?_, z w B1 H1 g1 ⟨fx, k3⟩⟩))
  unfold atI ixN
  rw [if_pos (by omega), if_pos (by omega)]
  exact k1
theorem evP_ix {a b : E} {τ : α → Ow} {m : Res (List α)} {mb : Res Int} (h : EvP T C Γ a (oL C τ) m) (hb : EvB T C Γ b vInt mb) : EvP T C Γ (.ix a b) τ (m >>= fun xs => mb >>= fun j => ixR xs j) := fun W σ B H Q g z => by
  show (rd T C a W).E σ H _
  refine h W σ B H _ g (rz_imp (rz_bind.mp z) (fun xs z v B1 H1 g1 ⟨fp, p, vs, ff, hv, hp, hl, _⟩ => ?_) fun _ z => z)
  subst hv
  refine hb W σ B1 H1 _ (g.up g1.b g1.h g1.s) (rz_imp (rz_bind.mp z) (fun j z u B2 H2 g2 e => ?_) fun _ z => z.up g1.h)
  have e : u = .int j := e
  subst e
  unfold ixR at z
  cases q : atI xs j with
  | none => rw [q] at z; exact z.elim
  | some x =>
    rw [q] at z
    unfold atI at q
    cases q2 : ixN xs.length j with
    | none => rw [q2] at q; cases q
    | some n =>
      rw [q2] at q
      have q : xs[n]? = some x := q
      obtain ⟨w, fx, gg, k1, k2, k3, k4⟩ := OwL.foc (n := n) (o := τ x) hl (by rw [List.getElem?_map, q]; rfl)
      refine .inl (.inl ⟨p, vs, j, w, rfl, rfl, .inl (.inl (g2.h _ _ hp)), ?_, z w B2 H2 (g1.trans g2) ⟨fx, ow_up k3 g2.b g2.h⟩⟩)
      unfold atI
      rw [hl.len, List.length_map, q2]
      exact k1
theorem evP_dk [KeyC κ] [DecidableEq κ] {a b : E} {τk : κ → Vw} [KeyV κ τk] {τ : α → Ow} {m : Res (List (κ × α))} {mb : Res κ} (h : EvP T C Γ a (fun kvs : List (κ × α) => oDO τ kvs) m) (hb : EvB T C Γ b τk mb) : EvP T C Γ (.ix a b) τ (m >>= fun kvs => mb >>= fun k => getR (dget kvs k)) := fun W σ B H Q g z => by
  show (rd T C a W).E σ H _
  refine h W σ B H _ g (rz_imp (rz_bind.mp z) (fun kvs z v B1 H1 g1 ⟨fp, nd, p, vs, ff, hv, hp, hl, _⟩ => ?_) fun _ z => z)
  subst hv
  refine hb W σ B1 H1 _ (g.up g1.b g1.h g1.s) (rz_imp (rz_bind.mp z) (fun k z u B2 H2 g2 e => ?_) fun _ z => z.up g1.h)
  cases hx : dget kvs k with
  | none => rw [hx] at z; exact z.elim
  | some x =>
    rw [hx] at z
    obtain ⟨n, w, fx, gg, _, _, k1, k2, k3, _⟩ := dict_at hl nd hx
    exact .inr ⟨p, w, rfl, .inl ⟨vs, KeyC.kk k, .inl (g2.h _ _ hp), KeyV.kv k H2 u e, k1.symm⟩, z w B2 H2 (g1.trans g2) ⟨fx, ow_up k3 g2.b g2.h⟩⟩
/-- where it stands -/
theorem ev_exact {a : E} {u : V} {τ : α → Ow} {x : α} (h : EvP T C Γ a (fun x => oQ (· = u) (τ x)) (.ok x)) : EvO T C Γ a (fun _ : Unit => oV (vC u)) (.ok ()) := fun W σ B H Q g z => h W σ B H Q g fun v B' H' g1 ⟨fp, r⟩ => z v B' H' g1 ⟨[], ⟨r.1, rfl⟩, List.nodup_nil, fun _ z => nomatch z⟩
/-! new instances -/
def mkR (m : Out Unit Unit (Unit × ι') η) : Res ι' := match m with
  | .rt y => .ok y.2
  | .exc e _ => .exc e
  | _ => .bad
theorem ev_mk {c : Nat} {es : E} {sh : List Bool} {fs : ι' → List (Str × Ow)} {τ : Unit → Ow} {ws : κ' → List Vw} {os : κ → List Vw} {f : κ' → Unit → Out Unit Unit (Unit × ι') Unit} {g : κ → κ'} {dv : List V} {wd : List Vw}
    (hf : FnG C (T.f (T.ini c)) (true :: sh) ws (fun _ : Unit => [oIn C c []]) (fun s => [oIn C c (fs s)]) (fun _ : Unit => [oAny]) τ f) (hτ : ∀ B H v fp, (τ ()).rel B H v fp → v = .non)
    (har : elen es + 1 ≤ (T.f (T.ini c)).ar ∧ (T.f (T.ini c)).ar ≤ elen es + 1 + (T.f (T.ini c)).dfl.length) (hdv : (T.f (T.ini c)).dfl.drop (elen es + 1 + (T.f (T.ini c)).dfl.length - (T.f (T.ini c)).ar) = dv) (hwd : ∀ H, VwL H dv wd) (hg : ∀ k, mkW sh [] (ws (g k)) = os k ++ wd)
    (h : EvLO T C Γ es (fun k => (os k).map oV) (fun k => mkR (f (g k) ())) mm) : EvO T C Γ (.mk c es) (fun s => oIn C c (fs s)) mm := fun W σ B H Q gg z => by
  show rMake T C c (elen es) (WE W) (rd T C es W).L σ H Q
  unfold rMake
  rw [if_pos har, hdv]
  refine h W σ B H _ _ gg z fun k vs B1 H1 fq g1 p1 _ _ z1 => ?_
  intro x dx hx hd ne
  have p2 : VwL B1 vs (os k) := owl_oV_vw p1
  have hB := none_back g1.s hx
  have s12 : Same H1 (upd (upd H1 dx (.own x)) x (.ins (C.cl c) dx [])) := sm_trans (sm_new hd) (sm_new (by rw [upd_ne ne.symm]; exact hx))
  refine hf (g k) () [.ref x] (.ref x :: (vs ++ dv)) B1 H1 _ [x] _ _ (sm_trans g1.s s12) s12 (.cons rfl (by
    have := vwl_append p2 (hwd B1)
    rw [← hg] at this
    exact this)) ⟨[x], [], rfl, ⟨x, dx, [], [], rfl, upd_same, ⟨rfl, rfl⟩, rfl⟩, rfl⟩ (by simp) (fun a ha => by rw [List.mem_singleton.mp ha]; exact ⟨hx, hB⟩) ?_
  replace z1 : Rz (mkR (f (g k) ())) _ _ := z1
  cases q : f (g k) () with
  | nx y => rw [q] at z1; exact z1.elim
  | bk y => rw [q] at z1; exact z1.elim
  | ct y => rw [q] at z1; exact z1.elim
  | bad => rw [q] at z1; exact z1.elim
  | rt y =>
    rw [q] at z1
    intro v B' H' fp' gz b2 z2 ⟨f1, f2, e, r1, f3, f4, e2, r2, e3⟩ nd fr
    have e3 : f4 = [] := e3
    subst e3
    rw [List.append_nil] at e2
    subst e2 e
    have g' : Gon B1 H1 B' H' := ⟨gz.b, z2, b2, gz.n⟩
    refine ⟨hτ _ _ _ _ r1, z1 (.ref x) B' H' (g1.trans g') ⟨f2, r2, (List.nodup_append.mp nd).2.1, fun a ha => ⟨none_back g1.h (fr a (List.mem_append_right _ ha)).1, (fr a (List.mem_append_right _ ha)).2⟩⟩⟩
  | exc e s =>
    rw [q] at z1
    intro cls d B' H' fp' gz b2 z2 _ _ _ r
    exact z1 cls d H' z2 (r.imp_right fun t => t.imp_right fun ⟨d, h1, h2, h3⟩ => ⟨d, h1, b2 _ _ h2, h3⟩)
/-! tests that change things -/
def TX (T : Tb) (C : Kc) (D : Ds ν β ρ ξ) (Γ : Cx0) (t : E) (Γ' : ι → Cx0) (k : Bool → ι → Out ν β ρ ξ) (m : Out ν β ρ ξ) : Prop :=
  ∀ (W : WX) (E : Ends) (σ : L2.St) (B Z H : Hp) (fp : List Addr) (Q : Bool → Hp → Prop), Oks Γ σ B Z H fp → Post C D m W E B Z → (∀ b s B' H' fp', Gz B Z B' → Oks (Γ' s) σ B' Z H' fp' → Post C D (k b s) W E B' Z → Q b H') → (rd T C t W).T σ H Q
def TXR (T : Tb) (C : Kc) (D : Ds ν β ρ ξ) (Γ : Cx0) (t : E) (Γ' : ι → Cx0) (k : Bool → ι → Out ν β ρ ξ) (m : Out ν β ρ ξ) : Prop :=
  ∀ (W : WX) (E : Ends) (σ : L2.St) (B Z H : Hp) (fp : List Addr) (Q : Bool → Hp → Prop), Oks Γ σ B Z H fp → Post C D m W E B Z → (∀ b s B' H' fp', Gz B Z B' → Oks (Γ' s) σ B' Z H' fp' → Post C D (k b s) W E B' Z → Q b H') → (rd T C t W).R σ H Q
def TXA (T : Tb) (C : Kc) (D : Ds ν β ρ ξ) (Γ : Cx0) (t : E) (Γ' : ι → Cx0) (k : Bool → ι → Out ν β ρ ξ) (m : Out ν β ρ ξ) : Prop :=
  ∀ (W : WX) (E : Ends) (σ : L2.St) (B Z H : Hp) (fp : List Addr) (Q : Bool → Hp → Prop), Oks Γ σ B Z H fp → Post C D m W E B Z → (∀ b s B' H' fp', Gz B Z B' → Oks (Γ' s) σ B' Z H' fp' → Post C D (k b s) W E B' Z → Q b H') → (rd T C t W).A σ H Q
theorem tx_pure {D : Ds ν β ρ ξ} {t : E} {m : Res Bool} {x0 : ξ} {Γ' : ι → Cx0} {s : ι} {k : Bool → ι → Out ν β ρ ξ} (h : EvT T C Γ t m) (w : Cv Γ (D.x x0)) (hs : Γ' s = Γ) : TX T C D Γ t Γ' k (m.to x0 fun b => k b s) := fun W E σ B Z H fp Q o p q => by
  refine h W σ B H Q o.envC ?_
  cases m with
  | ok c => exact fun B1 H1 g1 => q c s B1 H1 fp (g1.gz o.z) (by rw [hs]; exact o.gon g1) (p.up (g1.gz o.z))
  | exc e => exact fun cls d H' s r => exc_cv o w p s r
  | bad => exact p
theorem tx_x {D : Ds ν β ρ ξ} {t : E} {τ : β' → Ow} {Γ1 : β' → Cx0} {Γ' : ι → Cx0} {bf : β' → Bool} {sf : β' → ι} {k : Bool → ι → Out ν β ρ ξ} {m : Out ν β ρ ξ} (h : EvX T C D Γ t τ Γ1 (fun y => k (bf y) (sf y)) m) (hb : ∀ y, τ y = oV (vBl (bf y))) (hs : ∀ y, Γ1 y = Γ' (sf y)) (ht : ∀ W, (rd T C t W).T = tB (rd T C t W).E := by intro W; rfl) : TX T C D Γ t Γ' k m := fun W E σ B Z H fp Q o p q => by
  rw [ht]
  refine h W E σ B Z H fp _ o p fun y v B' H' fp' g o' p' => ?_
  obtain ⟨⟨u, f, g', h0, h1, h2, h3⟩, nd, fr, b, z⟩ := o'
  cases h0
  rw [hb] at h2
  have e : v = .bl (bf y) := h2.1
  subst e h1
  refine ⟨_, rfl, q (bf y) (sf y) B' H' g' g ⟨by rw [← hs]; exact h3, (List.nodup_append.mp nd).2.1, fun a ha => fr a (List.mem_append_right _ ha), b, z⟩ p'⟩
theorem tx_not {D : Ds ν β ρ ξ} {t : E} {Γ' : ι → Cx0} {k : Bool → ι → Out ν β ρ ξ} {m : Out ν β ρ ξ} (h : TX T C D Γ t Γ' (fun b s => k (!b) s) m) : TX T C D Γ (.nt t) Γ' k m := fun W E σ B Z H fp Q o p q =>
  h W E σ B Z H fp _ o p fun b s B' H' fp' g o' p' => q (!b) s B' H' fp' g o' p'
theorem tx_or {D : Ds ν β ρ ξ} {t : E} {Γ' : ι → Cx0} {k : Bool → ι → Out ν β ρ ξ} {m : Out ν β ρ ξ} (h : TXR T C D Γ t Γ' k m) : TX T C D Γ (.or t) Γ' k m := h
theorem tx_and {D : Ds ν β ρ ξ} {t : E} {Γ' : ι → Cx0} {k : Bool → ι → Out ν β ρ ξ} {m : Out ν β ρ ξ} (h : TXA T C D Γ t Γ' k m) : TX T C D Γ (.and t) Γ' k m := h
theorem txr1 {D : Ds ν β ρ ξ} {t : E} {Γ' : ι → Cx0} {k : Bool → ι → Out ν β ρ ξ} {m : Out ν β ρ ξ} (h : TX T C D Γ t Γ' k m) : TXR T C D Γ (.cons t .nil) Γ' k m := h
theorem txa1 {D : Ds ν β ρ ξ} {t : E} {Γ' : ι → Cx0} {k : Bool → ι → Out ν β ρ ξ} {m : Out ν β ρ ξ} (h : TX T C D Γ t Γ' k m) : TXA T C D Γ (.cons t .nil) Γ' k m := h
theorem txr2 {D : Ds ν β ρ ξ} {t u us : E} {Γ' : ι → Cx0} {k : Bool → ι → Out ν β ρ ξ} {mr : ι → Out ν β ρ ξ} {m : Out ν β ρ ξ} (h : TX T C D Γ t Γ' (fun b s => cond b (k true s) (mr s)) m) (hr : ∀ s, TXR T C D (Γ' s) (.cons u us) Γ' k (mr s)) : TXR T C D Γ (.cons t (.cons u us)) Γ' k m := fun W E σ B Z H fp Q o p q => by
  show (tOr (rd T C t W).T (rd T C (.cons u us) W).R) σ H Q
  refine h W E σ B Z H fp _ o p fun b s B' H' fp' g o' p' => ?_
  cases b with
  | true => exact q true s B' H' fp' g o' p'
  | false => exact hr s W E σ B' Z H' fp' Q o' p' fun b s B2 H2 fp2 g2 o2 p2 => q b s B2 H2 fp2 (g.trans g2) o2 p2
theorem txa2 {D : Ds ν β ρ ξ} {t u us : E} {Γ' : ι → Cx0} {k : Bool → ι → Out ν β ρ ξ} {mr : ι → Out ν β ρ ξ} {m : Out ν β ρ ξ} (h : TX T C D Γ t Γ' (fun b s => cond b (mr s) (k false s)) m) (hr : ∀ s, TXA T C D (Γ' s) (.cons u us) Γ' k (mr s)) : TXA T C D Γ (.cons t (.cons u us)) Γ' k m := fun W E σ B Z H fp Q o p q => by
  show (tAnd (rd T C t W).T (rd T C (.cons u us) W).A) σ H Q
  refine h W E σ B Z H fp _ o p fun b s B' H' fp' g o' p' => ?_
  cases b with
  | false => exact q false s B' H' fp' g o' p'
  | true => exact hr s W E σ B' Z H' fp' Q o' p' fun b s B2 H2 fp2 g2 o2 p2 => q b s B2 H2 fp2 (g.trans g2) o2 p2
/-- if, the end of a block -/
theorem x_if {D : Ds ν β ρ ξ} {t : E} {a b : S} {Γ' : ι → Cx0} {ma mb : ι → Out ν β ρ ξ} {m : Out ν β ρ ξ} (h : TX T C D Γ t Γ' (fun c s => cond c (ma s) (mb s)) m) (ha : ∀ s, Blk T cs C D (Γ' s) a (ma s)) (hb : ∀ s, Blk T cs C D (Γ' s) b (mb s)) : Blk T cs C D Γ (.ife t a b) m := fun W E σ B Z H fp o p => by
  show (rd T C t W).T σ H _
  refine h W E σ B Z H fp _ o p fun c s B1 H1 fp1 g1 o1 p1 => ?_
  cases c with
  | true => exact ha s W E σ B1 Z H1 fp1 o1 p1
  | false => exact hb s W E σ B1 Z H1 fp1 o1 p1
/-- if t: a (which leaves); the rest -/
theorem x_ifL {D : Ds ν β ρ ξ} {t : E} {a r : S} {Γ' : ι → Cx0} {ma mr : ι → Out ν β ρ ξ} {m : Out ν β ρ ξ} (h : TX T C D Γ t Γ' (fun c s => cond c (ma s) (mr s)) m) (ht : a.trm = true) (ha : ∀ s, Blk T cs C D (Γ' s) a (ma s)) (hs : ∀ s, Blk T cs C D (Γ' s) r (mr s)) : Blk T cs C D Γ (.seq (.ife t a .nop) r) m := fun W E σ B Z H fp o p => by
  show (rd T C t W).T σ H _
  refine h W E σ B Z H fp _ o p fun c s B1 H1 fp1 g1 o1 p1 => ?_
  cases c with
  | true =>
    show rs T cs a C W { E with nx := rs T cs r C W E } σ H1
    rw [trm_nx _ W a ht E]
    exact ha s W E σ B1 Z H1 fp1 o1 p1
  | false => exact hs s W E σ B1 Z H1 fp1 o1 p1
/-- a changing expression, then a pure one, then an operation -/
theorem evx_op2 {D : Ds ν β ρ ξ} {a b e : E} {τ : α → Ow} {Γ1 : α → Cx0} {τ' : γ → Vw} {mb : α → Res γ} {op : α → γ → Res Bool} {x0 : α → ξ} {K : Bool → α → Out ν β ρ ξ} {m : Out ν β ρ ξ} {r : R2} (he : ∀ W, (rd T C e W).E = tOp r (rd T C a W).E (rd T C b W).E) (ha : EvX T C D Γ a τ Γ1 (fun x => (mb x).to (x0 x) fun y => (op x y).to (x0 x) fun c => K c x) m)
    (hb : ∀ x, EvB T C (Γ1 x) b τ' (mb x)) (w : ∀ x, Cv (Γ1 x) (D.x (x0 x))) (ho : Op2 r (fun x => (τ x).vw) τ' (pB vBl) op) : EvX T C D Γ e (fun z : Bool × α => oV (vBl z.1)) (fun z => Γ1 z.2) (fun z => K z.1 z.2) m := fun W E σ B Z H fp Q o p q => by
  rw [he]
  refine ha W E σ B Z H fp _ o p fun x v B1 H1 fp1 g1 o1 p1 => ?_
  obtain ⟨⟨u, f, g', h0, h1, h2, h3⟩, nd, fr, bb, zz⟩ := o1
  cases h0
  subst h1
  have o2 : Oks (Γ1 x) σ B1 Z H1 g' := ⟨h3, (List.nodup_append.mp nd).2.1, fun a ha => fr a (List.mem_append_right _ ha), bb, zz⟩
  replace p1 : Post C D ((mb x).to (x0 x) fun y => (op x y).to (x0 x) fun c => K c x) W E B1 Z := p1
  refine hb x W σ B1 H1 _ o2.envC ?_
  cases hmb : mb x with
  | bad => rw [hmb] at p1; exact p1
  | exc e => rw [hmb] at p1; exact fun cls d H' s r => exc_cv o2 (w x) p1 s r
  | ok y =>
    rw [hmb] at p1
    intro u2 B2 H2 g2 r2
    have o3 := o2.gon g2
    refine ho.run x y B2 H2 v u2 _ g2.s ((τ x).vw.mono g2.h ((τ x).sub bb (fun _ _ => rfl) h2)) r2 ?_
    replace p1 : Post C D ((op x y).to (x0 x) fun c => K c x) W E B1 Z := p1
    have no := ho.no x y
    cases hq : op x y with
    | bad => rw [hq] at p1; exact p1
    | exc e => exact absurd hq (no e)
    | ok c =>
      rw [hq] at p1
      intro u3 B3 H3 g3 r3
      have o4 := o3.gon g3
      exact q (c, x) u3 B3 H3 g' (g1.trans ((g2.gz o2.z).trans (g3.gz o3.z))) ⟨⟨u3, [], g', rfl, rfl, ⟨r3, rfl⟩, o4.env⟩, o4.nd, o4.fr, o4.b, o4.z⟩ (p1.up ((g2.gz o2.z).trans (g3.gz o3.z)))
end
end Q
/-! Q42: calls that read own things; loops over dicts. -/
namespace Q
open PySem L2 PySem.Spec
section
variable {T : Tb} {cs : List Nat} {C : Kc} {Γ Γ' : Cx0} {α β γ ν ν' ρ ξ ι ι' η κ κ' : Type}
/-- what was read of things that were not frozen, whose leaves are tuples, is had -/
theorem thaw {τ : α → Ow} [i : CloT τ] {x : α} {B H B' H' : Hp} {v : V} {fp : List Addr} (g : Same B H) (g1 : Gon H H B' H') (r : (τ x).rel B' H' v fp) (f : ∀ a ∈ fp, H a = none ∧ B' a = none) : ∃ O, Gon B H O H' ∧ (τ x).rel O H' v fp ∧ ∀ a ∈ fp, H a = none ∧ O a = none := by
  let O : Hp := fun a => match B a with
    | some u => some u
    | none => match B' a with
      | some u => if tupB u = true then some u else none
      | none => none
  have oB : ∀ a u, B a = some u → O a = some u := fun a u e => by show (match B a with | some u => some u | none => _) = _; rw [e]
  have oN : ∀ a, B a = none → O a = (match B' a with | some u => if tupB u = true then some u else none | none => none) := fun a e => by show (match B a with | some u => some u | none => _) = _; rw [e]
  have inv : ∀ a u, O a = some u → B a = some u ∨ (B' a = some u ∧ tupB u = true) := fun a u e => by
    cases hb : B a with
    | some w => rw [oB a w hb] at e; exact .inl e
    | none =>
      rw [oN a hb] at e
      cases hb' : B' a with
      | none => rw [hb'] at e; cases e
      | some w =>
        rw [hb'] at e
        simp only at e
        split at e
        · rename_i ht
          cases e
          exact .inr ⟨rfl, ht⟩
        · cases e
  have ts : TSame B' O := fun a u ht e => by
    cases hb : B a with
    | some w =>
      have := g1.b a w (g a w hb)
      rw [e] at this
      cases this
      exact oB a u hb
    | none => rw [oN a hb, e]; simp only [if_pos ht]
  refine ⟨O, ⟨fun a u e => oB a u e, g1.h, fun a u e => ?_, fun a u e => ?_⟩, i.ct x B' O H' v fp ts r, fun a ha => ⟨(f a ha).1, ?_⟩⟩
  · rcases inv a u e with h | ⟨h, _⟩
    · exact g1.h a u (g a u h)
    · exact g1.s a u h
  · rcases inv a u e with h | ⟨h, ht⟩
    · exact .inl h
    · rcases g1.n a u h with h | h | h
      · exact .inr (.inr ⟨h, ht⟩)
      · exact .inr (.inl h)
      · exact .inr (.inr ⟨h.1, ht⟩)
  · rw [oN a (none_back g (f a ha).1), (f a ha).2]
/-- a call; what is given is read, the result's leaves are tuples -/
theorem ev_callT {i : Nat} {es : E} {os : κ → List Vw} {ws : κ' → List Vw} {τ : β → Ow} [CloT τ] {f : κ' → Res β} {g : κ → κ'} {dv : List V} {wd : List Vw} {m : Res β} (hf : FnT C (T.f i) ws τ f)
    (har : elen es ≤ (T.f i).ar ∧ (T.f i).ar ≤ elen es + (T.f i).dfl.length) (hdv : (T.f i).dfl.drop (elen es + (T.f i).dfl.length - (T.f i).ar) = dv) (hwd : ∀ H, VwL H dv wd) (hg : ∀ k, ws (g k) = os k ++ wd)
    (h : EvLV T C Γ es os (fun k => f (g k)) m) : EvO T C Γ (.call i es) τ m := fun W σ B H Q c z => by
  show rCall (T.f i) C (elen es) (WE W) (rd T C es W).L σ H Q
  unfold rCall
  rw [if_pos har, hdv]
  refine h W σ B H _ _ c z fun k vs B1 H1 g1 p1 z1 => ?_
  refine hf (g k) (vs ++ dv) H1 H1 Q (WE W σ) (sm_refl _) (by rw [hg]; exact vwl_append p1 (hwd H1)) (rz_imp z1 (fun y q v B2 H2 g2 ⟨fp, r, n, fr⟩ => ?_) fun e z cls d H' s r => z cls d H' s r)
  obtain ⟨O, gO, rO, fO⟩ := thaw g1.s g2 r fr
  exact q v O H2 (g1.trans gO) ⟨fp, rO, n, fun a ha => ⟨none_back g1.h (fO a ha).1, (fO a ha).2⟩⟩
theorem lookup_none {mt : Str} : ∀ {l : List (Str × V)}, (l.map (·.1)).contains mt = false → l.lookup mt = none
  | [], _ => rfl
  | q :: l, h => by
    rw [List.map_cons, List.contains_cons, Bool.or_eq_false_iff] at h
    rw [List.lookup_cons, h.1]
    exact lookup_none h.2
theorem vwf_keys {H : Hp} : ∀ {vs : List (Str × V)} {ws : List (Str × Vw)}, VwF H vs ws → vs.map (·.1) = ws.map (·.1)
  | _, _, .nil => rfl
  | _, _, .cons h l => by rw [List.map_cons, List.map_cons, h.1, vwf_keys l]
/-- x.m(..), a method that only reads -/
theorem ev_mthT {a es : E} {mt : Str} {cls : List Nat} {c : Nat} {fw : α → List (Str × Vw)} {os : κ → List Vw} {ws : κ' → List Vw} {τ : β → Ow} [CloT τ] {f : κ' → Res β} {g : α → κ → κ'} {dv : List V} {wd : List Vw} {ma : Res α} {m : α → Res β} {iR : Nat} (hmt : T.mt c mt = iR) (hf : FnT C (T.f iR) ws τ f) (hc : c ∈ cls) (hno : ∀ x, ((fw x).map (·.1)).contains mt = false)
    (har : elen es + 1 ≤ (T.f iR).ar ∧ (T.f iR).ar ≤ elen es + 1 + (T.f iR).dfl.length) (hdv : (T.f iR).dfl.drop (elen es + 1 + (T.f iR).dfl.length - (T.f iR).ar) = dv) (hwd : ∀ H, VwL H dv wd) (hg : ∀ x k, ws (g x k) = vIn C c (fw x) :: (os k ++ wd))
    (ha : EvB T C Γ a (fun x => vIn C c (fw x)) ma) (h : ∀ x, EvLV T C Γ es os (fun k => f (g x k)) (m x)) : EvO T C Γ (.mth cls a mt es) τ (ma >>= m) := fun W σ B H Q gc z => by
  subst hmt
  show rMeth T C cls mt (elen es) (WE W) (rd T C a W).E (rd T C es W).L σ H Q
  refine ⟨c, hc, har, ?_⟩
  rw [hdv]
  show (rd T C a W).E σ H _
  refine ha W σ B H _ gc (rz_imp (rz_bind.mp z) (fun x z v B0 H0 g0 p0 => ?_) fun _ z => z)
  have p0' := p0
  obtain ⟨p, dx, vs0, rfl, hp, hv⟩ := p0'
  refine ⟨p, dx, vs0, rfl, hp, lookup_none (by rw [vwf_keys hv]; exact hno x), ?_⟩
  refine h x W σ B0 H0 _ _ (gc.up g0.b g0.h g0.s) (rz_imp z (fun _ z => z) fun _ z => z.up g0.h) fun k vs B1 H1 g1 p1 z1 => ?_
  refine hf (g x k) (.ref p :: (vs ++ dv)) H1 H1 Q (WE W σ) (sm_refl _) (by rw [hg]; exact .cons ((vIn C c (fw x)).mono g1.h p0) (vwl_append p1 (hwd H1))) (rz_imp z1 (fun y q v B2 H2 g2 ⟨fp, r, n, fr⟩ => ?_) fun e z cls d H' s r => z cls d H' s r)
  obtain ⟨O, gO, rO, fO⟩ := thaw g1.s g2 r fr
  have gg := g0.trans g1
  exact q v O H2 (gg.trans gO) ⟨fp, rO, n, fun a ha => ⟨none_back gg.h (fO a ha).1, (fO a ha).2⟩⟩
theorem vwF_look {H : Hp} {f : Str} {w : Vw} : ∀ {fs : List (Str × V)} {ws : List (Str × Vw)}, VwF H fs ws → ws.lookup f = some w → ∃ v, fs.lookup f = some v ∧ w.rel H v
  | _, _, .nil, h => by simp at h
  | (k, v) :: fs, (k', w') :: ws, .cons ⟨h1, h2⟩ l, h => by
    have h1 : k = k' := h1
    subst h1
    rw [List.lookup_cons] at h ⊢
    cases e : f == k with
    | true =>
      rw [e] at h
      cases h
      exact ⟨v, rfl, h2⟩
    | false =>
      rw [e] at h
      exact vwF_look l h
/-- a field is read -/
theorem ev_att {a : E} {c : Nat} {f : Str} {ws : α → List (Str × Vw)} {τ : γ → Vw} {fl : α → γ} {m : Res α} (hcl : Cls C.K (C.cl c)) (hna : NoAttr C.K (C.cl c) f) (h : EvB T C Γ a (fun x => vIn C c (ws x)) m) (hf : ∀ x, (ws x).lookup f = some (τ (fl x))) : EvB T C Γ (.att a f) τ (m >>= fun x => .ok (fl x)) := fun W σ B H Q g z => by
  refine h W σ B H _ g (rz_imp (rz_bind.mp z) (fun x z v B1 H1 g1 p1 => ?_) fun _ z => z)
  obtain ⟨p, dx, vs, rfl, h3, h4⟩ := p1
  obtain ⟨u, e2, r⟩ := vwF_look h4 (hf x)
  exact ⟨p, _, dx, vs, u, rfl, h3, hcl, hna, e2, z u B1 H1 g1 r⟩
theorem ev_attP {a : E} {c : Nat} {f : Str} {ws : α → List (Str × Vw)} {τ : γ → Vw} {fl : α → γ} {x : α} (hcl : Cls C.K (C.cl c)) (hna : NoAttr C.K (C.cl c) f) (h : EvB T C Γ a (fun x => vIn C c (ws x)) (.ok x)) (hf : ∀ x, (ws x).lookup f = some (τ (fl x))) : EvB T C Γ (.att a f) τ (.ok (fl x)) := ev_att hcl hna h hf
theorem ev_attF {a : E} {c : Nat} {f : Str} {ws : α → List (Str × Vw)} {τ : γ → Vw} {fl : α → γ} {m : Res α} (hcl : Cls C.K (C.cl c)) (hna : NoAttr C.K (C.cl c) f) (h : EvO T C Γ a (fun x => oV (vIn C c (ws x))) m) (hf : ∀ x, (ws x).lookup f = some (τ (fl x))) : EvO T C Γ (.att a f) (fun y => oV (τ y)) (m >>= fun x => .ok (fl x)) := fun W σ B H Q g z => by
  refine h W σ B H _ g (rz_imp (rz_bind.mp z) (fun x z v B1 H1 g1 ⟨fp, ⟨⟨p, dx, vs, hv, h3, h4⟩, _⟩, _, _⟩ => ?_) fun _ z => z)
  subst hv
  obtain ⟨u, e2, r⟩ := vwF_look h4 (hf x)
  exact ⟨p, _, dx, vs, u, rfl, g1.s _ _ h3, hcl, hna, e2, z u B1 H1 g1 ⟨[], ⟨r, rfl⟩, List.nodup_nil, fun _ z => nomatch z⟩⟩
theorem ev_attFP {a : E} {c : Nat} {f : Str} {ws : α → List (Str × Vw)} {τ : γ → Vw} {fl : α → γ} {x : α} (hcl : Cls C.K (C.cl c)) (hna : NoAttr C.K (C.cl c) f) (h : EvO T C Γ a (fun x => oV (vIn C c (ws x))) (.ok x)) (hf : ∀ x, (ws x).lookup f = some (τ (fl x))) : EvO T C Γ (.att a f) (fun y => oV (τ y)) (.ok (fl x)) := ev_attF hcl hna h hf
/-! loops over a dict, locked meanwhile -/
def Out.noX {ν β ρ ξ : Type} (m : Out ν β ρ ξ) : Out ν β ρ ξ := match m with
  | .exc _ _ => .bad
  | m => m
theorem loopO_nox {f : α → ν → Out ν ν ρ ξ} : ∀ (xs : List α) (s : ν) (e : Ex) (y : ξ), (loopO (fun x s => (f x s).noX) xs s : Out ν β ρ ξ) ≠ .exc e y
  | [], s, e, y => fun z => by cases z
  | x :: xs, s, e, y => by
    unfold loopO
    cases f x s with
    | nx s' => exact loopO_nox xs s' e y
    | ct s' => exact loopO_nox xs s' e y
    | bk s' => exact fun z => by cases z
    | rt r => exact fun z => by cases z
    | exc e' y' => exact fun z => by cases z
    | bad => exact fun z => by cases z
theorem blk_nox {D : Ds ν β ρ ξ} {s : S} {m : Out ν β ρ ξ} (h : Blk T cs C D Γ s m) : Blk T cs C D Γ s m.noX := fun W E σ B Z H fp o p => h W E σ B Z H fp o (by
  cases m with
  | exc e x => exact p.elim
  | nx x => exact p
  | bk x => exact p
  | ct x => exact p
  | rt x => exact p
  | bad => exact p)
def lockH (M : Hp) (p : Addr) (od : Obj) (u : HO) : Hp := fun a => if a = p ∧ (M p).isSome = true then some (.frz od u) else M a
theorem lockH_ne {M : Hp} {p a : Addr} {od : Obj} {u : HO} (h : a ≠ p) : lockH M p od u a = M a := if_neg fun z => h z.1
theorem lock_lk {B : Hp} {p : Addr} {od : Obj} {u : HO} (hu : dicB u = true) (h : B p = some u) : Lk B (upd B p (.frz od u)) := fun a => by
  by_cases e : a = p
  · subst e
    exact .inr ⟨u, hu, .inl ⟨h, od, upd_same⟩⟩
  · exact .inl (by rw [upd_ne e])
/-- a block that runs while the dict at p is locked -/
theorem lock_post {D : Ds ν β ρ ξ} {m : Out ν β ρ ξ} {W : WX} {E : Ends} {B Z : Hp} {p : Addr} {od : Obj} {u : HO} (hu : dicB u = true) (hB : B p = some u) (hZ : ∀ w, Z p = some w → w = u) (nx : ∀ e x, m ≠ .exc e x) (h : Post C D m W E B Z) :
    Post C D m W ⟨fun σ' H' => H' p = some (.frz od u) ∧ E.nx σ' (upd H' p u), fun v H' => H' p = some (.frz od u) ∧ E.rt v (upd H' p u), fun σ' H' => H' p = some (.frz od u) ∧ E.bk σ' (upd H' p u), fun σ' H' => H' p = some (.frz od u) ∧ E.ct σ' (upd H' p u)⟩ (upd B p (.frz od u)) (lockH Z p od u) := by
  have key : ∀ {Γ : Cx0} {σ : L2.St} {B' H' : Hp} {fp : List Addr}, Gz (upd B p (.frz od u)) (lockH Z p od u) B' → Oks Γ σ B' (lockH Z p od u) H' fp → H' p = some (.frz od u) ∧ Gz B Z (upd B' p u) ∧ Oks Γ σ (upd B' p u) Z (upd H' p u) fp := fun {Γ σ B' H' fp} g o => by
    have hb' : B' p = some (.frz od u) := g.b p _ upd_same
    have hh' : H' p = some (.frz od u) := o.b p _ hb'
    have lk : Lk B' (upd B' p u) := fun a => by
      by_cases e : a = p
      · subst e
        exact .inr ⟨u, hu, .inr ⟨upd_same, od, hb'⟩⟩
      · exact .inl (by rw [upd_ne e])
    have np : ∀ a ∈ fp, a ≠ p := fun a ha e => by
      subst e
      have := (o.fr a ha).2
      rw [hb'] at this; cases this
    refine ⟨hh', ⟨fun a w e => ?_, fun a w e => ?_⟩, ⟨o.env.lk lk fun a ha => upd_ne (np a ha), o.nd, fun a ha => ⟨by have := (o.fr a ha).1; rw [lockH_ne (np a ha)] at this; exact this, by rw [upd_ne (np a ha)]; exact (o.fr a ha).2⟩, fun a w e => ?_, fun a w e => ?_⟩⟩
    · by_cases q : a = p
      · subst q
        rw [hB] at e
        rw [upd_same]; exact e
      · rw [upd_ne q]
        exact g.b a w (by rw [upd_ne q]; exact e)
    · by_cases q : a = p
      · subst q
        rw [upd_same] at e
        exact .inl (by rw [hB]; exact e)
      · rw [upd_ne q] at e
        have := g.n a w e
        rw [upd_ne q, lockH_ne q] at this
        exact this
    · by_cases q : a = p
      · subst q
        rw [upd_same] at e ⊢
        exact e
      · rw [upd_ne q] at e ⊢
        exact o.b a w e
    · by_cases q : a = p
      · subst q
        rw [upd_same, hZ w e]
      · rw [upd_ne q]
        exact o.z a w (by rw [lockH_ne q]; exact e)
  cases m with
  | nx x => exact fun σ B' H' fp g o => let ⟨h1, h2, h3⟩ := key g o; ⟨h1, h σ _ _ fp h2 h3⟩
  | bk x => exact fun σ B' H' fp g o => let ⟨h1, h2, h3⟩ := key g o; ⟨h1, h σ _ _ fp h2 h3⟩
  | ct x => exact fun σ B' H' fp g o => let ⟨h1, h2, h3⟩ := key g o; ⟨h1, h σ _ _ fp h2 h3⟩
  | rt x => exact fun v σ B' H' fp g o => let ⟨h1, h2, h3⟩ := key g o; ⟨h1, h v σ _ _ fp h2 h3⟩
  | exc e x => exact absurd rfl (nx e x)
  | bad => exact h
theorem lock_oks {σ : L2.St} {B Z H : Hp} {fp : List Addr} {p : Addr} {od : Obj} {u : HO} (hu : dicB u = true) (hB : B p = some u) (o : Oks Γ σ B Z H fp) : Oks Γ σ (upd B p (.frz od u)) (lockH Z p od u) (upd H p (.frz od u)) fp := by
  have np : ∀ a ∈ fp, a ≠ p := fun a ha e => by
    subst e
    have := (o.fr a ha).2
    rw [hB] at this; cases this
  refine ⟨o.env.lk (lock_lk hu hB) fun a ha => upd_ne (np a ha), o.nd, fun a ha => ⟨by rw [lockH_ne (np a ha)]; exact (o.fr a ha).1, by rw [upd_ne (np a ha)]; exact (o.fr a ha).2⟩, fun a w e => ?_, fun a w e => ?_⟩
  · by_cases q : a = p
    · subst q
      rw [upd_same] at e ⊢
      exact e
    · rw [upd_ne q] at e ⊢
      exact o.b a w e
  · by_cases q : a = p
    · subst q
      unfold lockH at e
      split at e
      · rw [upd_same]; exact e
      · rename_i hh
        exact absurd ⟨rfl, by rw [e]; rfl⟩ hh
    · rw [lockH_ne q] at e
      rw [upd_ne q]
      exact o.z a w e
end
end Q
/-! Q43: loops over dicts; loops over own lists; sorted(d). -/
namespace Q
open PySem L2 PySem.Spec
section
variable {T : Tb} {cs : List Nat} {C : Kc} {Γ Γ' : Cx0} {α β γ ν ν' ρ ξ ι ι' η κ κ' : Type}
theorem VwF.nth {δ : Type} {H : Hp} : ∀ {vs : List (δ × V)} {ws : List (δ × Vw)} {j : Nat} {w : δ × Vw}, VwF H vs ws → ws[j]? = some w → ∃ v, vs[j]? = some v ∧ v.1 = w.1 ∧ w.2.rel H v.2
  | _, _, _, _, .nil, e => by simp at e
  | _, _, 0, _, .cons h l, e => by
    simp only [List.getElem?_cons_zero, Option.some.injEq] at e
    subst e
    exact ⟨_, rfl, h⟩
  | _, _, i + 1, _, .cons h l, e => by
    simp only [List.getElem?_cons_succ] at e ⊢
    exact VwF.nth l e
/-- e stands for a dict that is read: always the same one, also when dicts are locked -/
structure DAt [KeyC κ] (T : Tb) (C : Kc) (Γ : Cx0) (e : E) (τ : α → Vw) (kvs : List (κ × α)) : Prop where
  run : ∀ (σ : L2.St) (B Z H : Hp) (fp : List Addr), Oks Γ σ B Z H fp → ∃ q vs, (B q = some (.dK vs) ∨ ∃ od, B q = some (.frz od (.dK vs))) ∧ VwF B vs (kvs.map fun p => (KeyC.kk p.1, τ p.2)) ∧
    ∀ (W : WX) (H' : Hp) (R : V → Hp → Prop), (∀ p c dx fs, B p = some (.ins c dx fs) → H' p = some (.ins c dx fs)) → R (.ref q) H' → (rd T C e W).E σ H' R
theorem dat_v [KeyC κ] {i : Nat} {τ : α → Vw} {kvs : List (κ × α)} (hi : Γ[i]? = some (some (oV (vD τ kvs)))) : DAt T C Γ (.var i) τ kvs := ⟨fun σ B Z H fp o => by
  obtain ⟨v, f0, h1, ⟨⟨_, q, vs, hv, hq, hr⟩, _⟩, _⟩ := o.env.get hi
  subst hv
  exact ⟨q, vs, hq, hr, fun W H' R _ r => ⟨_, h1, r⟩⟩⟩
theorem dat_att [KeyC κ] {i c : Nat} {f : Str} {ws : List (Str × Vw)} {τ : α → Vw} {kvs : List (κ × α)} (hcl : Cls C.K (C.cl c)) (hna : NoAttr C.K (C.cl c) f) (hi : Γ[i]? = some (some (oV (vIn C c ws)))) (hf : ws.lookup f = some (vD τ kvs)) : DAt T C Γ (.att (.var i) f) τ kvs := ⟨fun σ B Z H fp o => by
  obtain ⟨v, f0, h1, ⟨⟨p, dx, fs, hv, hp, hr⟩, _⟩, _⟩ := o.env.get hi
  subst hv
  obtain ⟨u, e2, ⟨_, q, vs, hu, hq, hr2⟩⟩ := vwF_look hr hf
  subst hu
  exact ⟨q, vs, hq, hr2, fun W H' R hh r => ⟨_, h1, p, _, dx, fs, _, rfl, hh _ _ _ _ hp, hcl, hna, e2, r⟩⟩⟩
/-- the state of a loop over a dict that is read -/
theorem forD_core [KeyC κ] {D : Ds ν' β ρ ξ} {Γ0 : ν → Cx0} {Γ1 : κ × α → ν → Cx0} {e : E} {js : List Nat} {it : E} {b s : S} {f : κ × α → ν → Out ν ν ρ ξ} {k : ν → Out ν' β ρ ξ} {kvs : List (κ × α)} {s0 : ν} {τ : α → Vw} (Jf : Addr → Obj → List (Key × V) → It)
    (hit : ∀ (W : WX) (σ : L2.St) (H : Hp) (q : Addr) (o : Obj) (vs : List (Key × V)) (R : It → Hp → Prop), (∀ R' : V → Hp → Prop, R' (.ref q) H → (rd T C e W).E σ H R') → H q = some (.frz o (.dK vs)) → R (Jf q o vs) H → (rd T C it W).I σ H R)
    (hgo : ∀ q o vs n H, (Jf q o vs).go n H ↔ H q = some (.frz o (.dK vs)) ∧ n < vs.length) (hst : ∀ q o vs n H, (Jf q o vs).stop n H ↔ H q = some (.frz o (.dK vs)) ∧ vs.length ≤ n)
    (hasg : ∀ q o vs n (x : κ × α) kv B Z H fp σ v H' Q st, vs[n]? = some kv → kv.1 = KeyC.kk x.1 → (τ x.2).rel B kv.2 → Oks (Γ0 st) σ B Z H fp → (Jf q o vs).yld n H v H' → (∀ σ2 fp2, Oks (Γ1 x st) σ2 B Z H' fp2 → Q σ2 H') → gTg C.K js v σ H' Q)
    (hi : DAt T C Γ e τ kvs) (w0 : Wk Γ (Γ0 s0))
    (hb : ∀ x st, Blk T cs C ({ n := Γ0, b := Γ0, t := D.t, r := D.r, x := D.x } : Ds ν ν ρ ξ) (Γ1 x st) b (f x st)) (hs : ∀ st, Blk T cs C D (Γ0 st) s (k st)) :
    Blk T cs C D Γ (.seq (.forD js it b) s) ((loopO (fun x st => (f x st).noX) kvs s0).then k) := fun W E σ B Z H fp o p => by
  obtain ⟨q, vs, hq, hr, he⟩ := hi.run σ B Z H fp o
  obtain ⟨fq, o1⟩ := o.wk w0
  have p1 := post_then p hs
  have hl : vs.length = kvs.length := by
    have := Paired.length hr
    rw [List.length_map] at this
    exact this
  -- what holds in any world where the dict is locked
  have core : ∀ (E' : Ends) (od : Obj) (B0 Z0 H0 : Hp), (∀ p c dx fs, B p = some (.ins c dx fs) → H0 p = some (.ins c dx fs)) → B0 q = some (.frz od (.dK vs)) → VwF B0 vs (kvs.map fun p => (KeyC.kk p.1, τ p.2)) → Oks (Γ0 s0) σ B0 Z0 H0 fq → Post C ({ n := Γ0, b := D.b, t := D.t, r := D.r, x := D.x } : Ds ν β ρ ξ) (loopO (fun x st => (f x st).noX) kvs s0) W E' B0 Z0 →
      tFor (rd T C it W).I (gTg C.K js) (rs T cs b C W) E' σ H0 := fun E' od B0 Z0 H0 hins hB hr0 o0 p0 => by
    refine hit W σ H0 q od vs _ (fun R' r => he W H0 R' hins r) (o0.b _ _ hB) ?_
    refine for_core (α := κ × α) (E := E') (xs := kvs) (J := Jf q od vs) (js := js) (Γ1 := Γ1) (fun n x hx B' H g s => ?_) (fun B' H g s => ?_) (fun n x hx σ B' H fp st v H' Q g o y qq => ?_) (fun x st => blk_nox (hb x st)) p0 o0
    · rw [hgo]
      refine ⟨s _ _ (g.b _ _ hB), ?_⟩
      rw [hl]
      rcases Nat.lt_or_ge n kvs.length with z | z
      · exact z
      · rw [List.getElem?_eq_none z] at hx; cases hx
    · rw [hst]
      exact ⟨s _ _ (g.b _ _ hB), by omega⟩
    · obtain ⟨kv, e1, e2⟩ := VwF.nth hr0 (j := n) (w := (KeyC.kk x.1, τ x.2)) (by rw [List.getElem?_map, hx]; rfl)
      exact hasg q od vs n x kv B' Z0 H fp σ v H' Q st e1 e2.1 ((τ x.2).mono g.b e2.2) o y qq
  show (tLock _ _ σ H ∨ _)
  rcases hq with hq | ⟨od, hq⟩
  · refine .inl ⟨q, .dK vs, o.b _ _ hq, trivial, fun od => ?_⟩
    refine core _ od (upd B q (.frz od (.dK vs))) (lockH Z q od (.dK vs)) (upd H q (.frz od (.dK vs))) (fun p c dx fs hp => by
      have ne : p ≠ q := fun z => by rw [z, hq] at hp; cases hp
      rw [upd_ne ne]
      exact o.b _ _ hp) upd_same (hr.lk (lock_lk rfl hq)) (lock_oks rfl hq o1) ?_
    exact lock_post rfl hq (fun w hw => by
      have h2 := o.z _ _ hw
      rw [o.b _ _ hq] at h2
      cases h2
      rfl) (loopO_nox _ _) p1
  · exact .inr (core _ od B Z H (fun p c dx fs hp => o.b _ _ hp) hq hr o1 p1)
/-- for k in d -/
theorem b_forDk [KeyC κ] {τk : κ → Vw} [KeyV κ τk] {D : Ds ν' β ρ ξ} {Γ0 : ν → Cx0} {de : E} {j : Nat} {b s : S} {f : κ × α → ν → Out ν ν ρ ξ} {k : ν → Out ν' β ρ ξ} {kvs : List (κ × α)} {s0 : ν} {τ : α → Vw} (hi : DAt T C Γ de τ kvs) (w0 : Wk Γ (Γ0 s0)) (l : ∀ st, j < (Γ0 st).length)
    (hb : ∀ x st, Blk T cs C ({ n := Γ0, b := Γ0, t := D.t, r := D.r, x := D.x } : Ds ν ν ρ ξ) ((Γ0 st).set j (some (oV (τk x.1)))) b (f x st)) (hs : ∀ st, Blk T cs C D (Γ0 st) s (k st)) :
    Blk T cs C D Γ (.seq (.forD [j] (.iDk de) b) s) ((loopO (fun x st => (f x st).noX) kvs s0).then k) :=
  forD_core (Γ1 := fun x st => (Γ0 st).set j (some (oV (τk x.1)))) (fun q o vs => Itk q o vs) (fun W σ H q o vs R h1 h2 r => h1 _ ⟨q, o, rfl, .inl ⟨vs, h2, r⟩⟩) (fun _ _ _ _ _ => Iff.rfl) (fun _ _ _ _ _ => Iff.rfl)
    (fun q o vs n x kv B Z H fp σ v H' Q st e1 e2 e3 ok y qq => by
      obtain ⟨rfl, k', v', e4, rfl⟩ := y
      rw [e1] at e4
      cases e4
      have e2 : k' = KeyC.kk x.1 := e2
      subst e2
      obtain ⟨fp', o'⟩ := ok.setV (w := τk x.1) (v := kV (KeyC.kk x.1)) (KeyV.vk x.1 B) (l st)
      exact qq _ _ o') hi w0 hb hs
/-- for v in d.values() -/
theorem b_forDv [KeyC κ] {D : Ds ν' β ρ ξ} {Γ0 : ν → Cx0} {de : E} {j : Nat} {b s : S} {f : κ × α → ν → Out ν ν ρ ξ} {k : ν → Out ν' β ρ ξ} {kvs : List (κ × α)} {s0 : ν} {τ : α → Vw} (hi : DAt T C Γ de τ kvs) (w0 : Wk Γ (Γ0 s0)) (l : ∀ st, j < (Γ0 st).length)
    (hb : ∀ x st, Blk T cs C ({ n := Γ0, b := Γ0, t := D.t, r := D.r, x := D.x } : Ds ν ν ρ ξ) ((Γ0 st).set j (some (oV (τ x.2)))) b (f x st)) (hs : ∀ st, Blk T cs C D (Γ0 st) s (k st)) :
    Blk T cs C D Γ (.seq (.forD [j] (.iDv de) b) s) ((loopO (fun x st => (f x st).noX) kvs s0).then k) :=
  forD_core (Γ1 := fun x st => (Γ0 st).set j (some (oV (τ x.2)))) (fun q o vs => Itd q o vs) (fun W σ H q o vs R h1 h2 r => h1 _ ⟨q, o, vs, rfl, h2, r⟩) (fun _ _ _ _ _ => Iff.rfl) (fun _ _ _ _ _ => Iff.rfl)
    (fun q o vs n x kv B Z H fp σ v H' Q st e1 e2 e3 ok y qq => by
      obtain ⟨rfl, k', e4⟩ := y
      rw [e1] at e4
      cases e4
      obtain ⟨fp', o'⟩ := ok.setV (w := τ x.2) (v := v) e3 (l st)
      exact qq _ _ o') hi w0 hb hs
/-- for k, v in d.items() -/
theorem b_forDi [KeyC κ] {τk : κ → Vw} [KeyV κ τk] {D : Ds ν' β ρ ξ} {Γ0 : ν → Cx0} {de : E} {j1 j2 : Nat} {b s : S} {f : κ × α → ν → Out ν ν ρ ξ} {k : ν → Out ν' β ρ ξ} {kvs : List (κ × α)} {s0 : ν} {τ : α → Vw} (hi : DAt T C Γ de τ kvs) (w0 : Wk Γ (Γ0 s0)) (l : ∀ st, ∀ j ∈ [j1, j2], j < (Γ0 st).length)
    (hb : ∀ x st, Blk T cs C ({ n := Γ0, b := Γ0, t := D.t, r := D.r, x := D.x } : Ds ν ν ρ ξ) (setL (Γ0 st) [j1, j2] [τk x.1, τ x.2]) b (f x st)) (hs : ∀ st, Blk T cs C D (Γ0 st) s (k st)) :
    Blk T cs C D Γ (.seq (.forD [j1, j2] (.iIt de) b) s) ((loopO (fun x st => (f x st).noX) kvs s0).then k) :=
  forD_core (Γ1 := fun x st => setL (Γ0 st) [j1, j2] [τk x.1, τ x.2]) (fun q o vs => Iti q o vs) (fun W σ H q o vs R h1 h2 r => h1 _ ⟨q, o, vs, rfl, h2, r⟩) (fun _ _ _ _ _ => Iff.rfl) (fun _ _ _ _ _ => Iff.rfl)
    (fun q o vs n x kv B Z H fp σ v H' Q st e1 e2 e3 ok y qq => by
      obtain ⟨t, k', v', e4, rfl, ht, rfl⟩ := y
      rw [e1] at e4
      cases e4
      have e2 : k' = KeyC.kk x.1 := e2
      subst e2
      have hw : VwL B [kV (KeyC.kk x.1), v'] [τk x.1, τ x.2] := .cons (KeyV.vk x.1 B) (.cons e3 .nil)
      exact ⟨t, _, rfl, .inl (.inl upd_same), rfl, setL_ok hw rfl (l st) (ok.new ht) qq⟩) hi w0 hb hs
/-! sorted(d) -/
def ltS (a b : Str) : Bool := ltCps a.cps.toList b.cps.toList
def insS (x : Str) : List Str → List Str
  | [] => [x]
  | y :: l => if ltS y x then y :: insS x l else x :: y :: l
def sortT : List Str → List Str
  | [] => []
  | x :: l => insS x (sortT l)
end
end Q
/-! Q44: d.setdefault(k, {}) and a key set in what it gave; small rules for the printed proofs. -/
namespace Q
open PySem L2 PySem.Spec
section
variable {T : Tb} {cs : List Nat} {C : Kc} {Γ Γ' : Cx0} {α β γ ν ν' ρ ξ ι ι' η κ κ' κ2 : Type}
/-- a place may be changed again and again -/
theorem Pl.hold {oe : Option E} {τ : α → Ow} {x : α} {put : Ow → Cx0} {pt : α → Cx0} (h : Pl T C Γ oe τ x put pt) {σ : L2.St} {B Z H : Hp} {fp : List Addr} (k : Oks Γ σ B Z H fp) :
    ∃ u fx g, (∀ e, oe = some e → ∀ (W : WX) (Q : VK) (Bx Hx : Hp), Gon B H Bx Hx → (∀ B1 H1, Gon Bx Hx B1 H1 → Q u H1) → (rd T C e W).E σ Hx Q) ∧ (τ x).rel B H u fx ∧ (fx ++ g).Perm fp ∧ fx.Nodup ∧ (∀ a ∈ fx, a ∉ g) ∧
      ∀ B2 H2 (o2 : Ow) f2, Same B B2 → Same B2 H2 → Same Z H2 → (∀ a ∈ g, H2 a = H a ∧ B2 a = none) → o2.rel B2 H2 u f2 → f2.Nodup → (∀ a ∈ f2, a ∉ g ∧ Z a = none ∧ B2 a = none) → ∃ fp', Oks (put o2) σ B2 Z H2 fp' := by
  obtain ⟨u, fx, g, q1, q2, q3, q4⟩ := h.run σ B H fp k.env k.b
  obtain ⟨n1, n2, n3⟩ := List.nodup_append.mp (q3.nodup_iff.mpr k.nd)
  refine ⟨u, fx, g, q1, q2, q3, n1, fun a ha hb => n3 a ha a hb rfl, fun B2 H2 o2 f2 sb s2 z2 hg r nd fr => ?_⟩
  obtain ⟨fp', z1, z3⟩ := q4 B2 H2 o2 f2 sb (fun a ha => (hg a ha).1) r
  refine ⟨fp', z1, z3.nodup_iff.mp (List.nodup_append.mpr ⟨nd, n2, fun a ha b hb e => (fr a ha).1 (e ▸ hb)⟩), fun a ha => ?_, s2, z2⟩
  rcases List.mem_append.mp (z3.mem_iff.mpr ha) with h | h
  · exact (fr a h).2
  · exact ⟨(k.fr a (q3.mem_iff.mp (List.mem_append_right _ h))).1, (hg a h).2⟩
theorem dput_self [KeyC κ] [DecidableEq κ] {kvs : List (κ × α)} {k : κ} {x : α} (nd : (kvs.map (·.1)).Nodup) (h : dget kvs k = some x) : dput kvs k x = kvs := by
  obtain ⟨n, hn⟩ := dget_at h
  rw [dput_set nd hn h]
  refine List.ext_getElem? fun j => ?_
  rw [List.getElem?_set]
  split
  · rename_i e
    subst e
    split
    · exact hn.symm
    · rename_i hh
      rw [List.getElem?_eq_none (by omega)]
  · rfl
theorem dget_dput [DecidableEq κ] {kvs : List (κ × α)} {k : κ} {x : α} : dget (dput kvs k x) k = some x := by
  have key : ∀ {l : List (κ × α)}, (l.any fun p => decide (p.1 = k)) = true → dget (l.map fun p => if p.1 = k then (p.1, x) else p) k = some x := fun {l} => by
    induction l with
    | nil => intro h; cases h
    | cons p l ih =>
      intro h
      unfold dget
      rw [List.map_cons, List.find?_cons]
      by_cases e : p.1 = k
      · rw [if_pos e]
        show Option.map _ (match decide (p.1 = k) with | true => some (p.1, x) | false => _) = _
        rw [decide_eq_true e]; rfl
      · rw [if_neg e, decide_eq_false e]
        rw [List.any_cons, decide_eq_false e, Bool.false_or] at h
        exact ih h
  unfold dput
  split
  · rename_i h; exact key h
  · rename_i h
    have hn : kvs.find? (fun p => decide (p.1 = k)) = none := by
      rw [List.find?_eq_none]
      intro p hp z
      exact h (List.any_eq_true.mpr ⟨p, hp, z⟩)
    unfold dget
    rw [List.find?_append, hn, List.find?_cons, decide_eq_true (show (k, x).1 = k from rfl)]
    rfl
/-- name = place.setdefault(k, {}); name[k2] = e -/
theorem p_setd_setk [KeyC κ] [DecidableEq κ] [KeyC κ2] [DecidableEq κ2] {D : Ds ν β ρ ξ} {i : Nat} {pe ke z k2 e : E} {s : S} {τk : κ → Vw} [KeyV κ τk] [Flat τk] {τk2 : κ2 → Vw} [KeyV κ2 τk2] [Flat τk2] {τ : α → Ow} {kvs : List (κ × List (κ2 × α))} {put : Ow → Cx0} {pt : List (κ × List (κ2 × α)) → Cx0} {mk : Res κ} {mk2 : κ → Res κ2} {m : κ → Res α} {x0 : ξ} {x1 : κ → ξ} {K : List (κ × List (κ2 × α)) → Out ν β ρ ξ}
    (hp : Pl T C Γ (some pe) (fun kvs : List (κ × List (κ2 × α)) => oDO (fun ls : List (κ2 × α) => oDO τ ls) kvs) kvs put pt) (hk : EvB T C Γ ke τk mk) (hz : EvO T C Γ z (fun ls : List (κ2 × α) => oDO τ ls) (.ok [])) (w : Cv Γ (D.x x0)) (hl : ∀ ls, i < (pt ls).length)
    (h : ∀ k, EvO T C ((pt (dput kvs k ((dget kvs k).getD []))).set i none) e τ (m k)) (hk2 : ∀ k, EvB T C ((pt (dput kvs k ((dget kvs k).getD []))).set i none) k2 τk2 (mk2 k)) (w1 : ∀ k, Cv ((pt (dput kvs k ((dget kvs k).getD []))).set i none) (D.x (x1 k)))
    (hs : ∀ ls, Blk T cs C D ((pt ls).set i none) s (K ls)) :
    Blk T cs C D Γ (.seq (.asg i (.dsetd pe ke z)) (.seq (.setk (.var i) k2 e) s)) (mk.to x0 fun k => gdO (decide (kvs.length < sizeLine)) ((m k).to (x1 k) fun y => (mk2 k).to (x1 k) fun k2 => gdO (decide (((dget kvs k).getD []).length < sizeLine)) (ap K (dput kvs k (dput ((dget kvs k).getD []) k2 y))))) := fun W E σ B Z H fp o p => by
  show (rd T C pe W).E σ H _
  obtain ⟨u, fx, g, q1, ⟨ndk, l, vs, f0, rfl, hlc, ho, rfl⟩, q3, q4, q5, q6⟩ := hp.hold o
  refine q1 pe rfl W _ B H (.refl o.b) fun Ba Ha ga => ⟨l, rfl, .inl ⟨vs, .inl (ga.h _ _ hlc)⟩, ?_⟩
  show (rd T C ke W).E σ Ha _
  refine evB_post hk w (o.gon ga) (p.up (ga.gz o.z)) fun key v' B1 H1 g1 r' o1 p1 => ?_
  cases hzz : decide (kvs.length < sizeLine) with
  | false => rw [hzz] at p1; exact p1.elim
  | true =>
  rw [hzz] at p1
  replace p1 : Post C D ((m key).to (x1 key) fun y => (mk2 key).to (x1 key) fun k2 => gdO (decide (((dget kvs key).getD []).length < sizeLine)) (K (dput kvs key (dput ((dget kvs key).getD []) k2 y)))) W E B1 Z := p1
  show (rd T C z W).E σ H1 _
  refine hz W σ B1 H1 _ o1.envC fun vz B2 H2 g2 ⟨fz, rz, nz, fr⟩ => ?_
  have gg := (ga.trans g1).trans g2
  have o2 := o1.gon g2
  have p2 := p1.up (g2.gz o1.z)
  have inf : ∀ a ∈ l :: f0, a ∈ fp := fun a ha => q3.mem_iff.mp (List.mem_append_left _ ha)
  have ing : ∀ a ∈ g, a ∈ fp := fun a ha => q3.mem_iff.mp (List.mem_append_right _ ha)
  have alf : ∀ a ∈ fp, (H a).isSome = true := o.env.al
  have b2 : ∀ a ∈ fp, B2 a = none := fun a ha => (o2.fr a ha).2
  have hl2 : H2 l = some (.dK vs) := gg.h _ _ hlc
  have nd := List.nodup_cons.mp q4
  refine ⟨vs, KeyC.kk key, hl2, KeyV.kv key H1 v' (r' H1), by rw [owf_len ho]; exact of_decide_eq_true hzz, ?_⟩
  -- the state behind setdefault, in either case
  have mid : ∀ (a2 : Addr) (ws vs1 : List (Key × V)) (Hm : Hp) (fi fr' : List Addr) (x : List (κ2 × α)), (dget kvs key).getD [] = x → Same B2 Hm → Same Z Hm → (∀ a ∈ g, Hm a = H a) → Hm l = some (.dK vs1) → Hm a2 = some (.dK ws) → OwF B2 Hm ws (dO τ x) fi → (x.map (·.1)).Nodup →
      (l :: a2 :: (fi ++ fr')).Nodup → (∀ a ∈ a2 :: (fi ++ fr'), a ∉ g ∧ Z a = none ∧ B2 a = none) → (∀ B' H' (x' : List (κ2 × α)) fy, Same B2 B' → (∀ a ∈ fr', H' a = Hm a) → (oDO τ x').rel B' H' (.ref a2) fy → ∃ f', OwF B' H' vs1 (dO (fun ls : List (κ2 × α) => oDO τ ls) (dput kvs key x')) f' ∧ (fy ++ fr').Perm f') →
      rs T cs (.seq (.setk (.var i) k2 e) s) C W E (σ.set i (some (.ref a2))) Hm := fun a2 ws vs1 Hm fi fr' x hx sB sZ sg hl1 ha2 hin ndx ndall fall hup => by
    have ndall' := ndall
    obtain ⟨d1, d2⟩ := List.nodup_cons.mp ndall
    obtain ⟨d3, d4⟩ := List.nodup_cons.mp d2
    obtain ⟨d5, d6, d7⟩ := List.nodup_append.mp d4
    have lfp : l ∈ fp := inf l List.mem_cons_self
    have lg : l ∉ g := fun z => q5 l List.mem_cons_self z
    have hrel : (oDO τ x).rel B2 Hm (.ref a2) (a2 :: fi) := ⟨ndx, a2, ws, fi, rfl, ha2, hin, rfl⟩
    obtain ⟨f', w1', w2'⟩ := hup B2 Hm x (a2 :: fi) (sm_refl _) (fun _ _ => rfl) hrel
    have memf : ∀ a, a ∈ f' → a ∈ a2 :: (fi ++ fr') := fun a ha => by
      have := w2'.mem_iff.mpr ha
      simpa using this
    obtain ⟨fpm, om⟩ := q6 B2 Hm (oDO (fun ls : List (κ2 × α) => oDO τ ls) (dput kvs key x)) (l :: f') gg.b sB sZ (fun a ha => ⟨sg a ha, b2 a (ing a ha)⟩) ⟨nodup_dput ndk, l, vs1, f', rfl, hl1, w1', rfl⟩
      (List.nodup_cons.mpr ⟨fun z => d1 (memf l z), w2'.nodup_iff.mp (by
        show (a2 :: (fi ++ fr')).Nodup
        exact d2)⟩) (fun a ha => by
        rcases List.mem_cons.mp ha with rfl | ha
        · exact ⟨lg, (o.fr a lfp).1, b2 a lfp⟩
        · exact fall a (memf a ha))
    rw [hp.eq] at om
    have omn : ∃ fq, Oks ((pt (dput kvs key x)).set i none) (σ.set i (some (.ref a2))) B2 Z Hm fq := by
      have hi : i < (pt (dput kvs key x)).length := hl _
      have oz : Oks (some (oV (vC (.ref a2))) :: pt (dput kvs key x)) (some (.ref a2) :: σ) B2 Z Hm ([] ++ fpm) := ⟨⟨.ref a2, [], fpm, rfl, rfl, ⟨rfl, rfl⟩, om.env⟩, om.nd, om.fr, om.b, om.z⟩
      obtain ⟨fq, oq⟩ := oz.set hi
      obtain ⟨v, f1, g1', _, _, o3, _⟩ := oq.take (i := i) (o := oV (vC (.ref a2))) (by rw [List.getElem?_set_self hi])
      rw [List.set_set] at o3
      exact ⟨g1', o3⟩
    obtain ⟨fq, oq⟩ := omn
    have hli : i < σ.length := by rw [om.env.len]; exact hl _
    show (rd T C e W).E (σ.set i (some (.ref a2))) Hm _
    subst hx
    refine evO_post (h key) (w1 key) oq p2 fun y vy B3 H3 fq3 g3 r3 n3 fr3 o3 p3 => ?_
    refine ⟨.ref a2, by rw [List.getElem?_set_self hli], ?_⟩
    show (rd T C k2 W).E (σ.set i (some (.ref a2))) H3 _
    refine evB_post (hk2 key) (w1 key) o3 p3 fun kk v4 B4 H4 g4 r4 o4 p4 => ?_
    cases hz4 : decide (((dget kvs key).getD []).length < sizeLine) with
    | false => rw [hz4] at p4; exact p4.elim
    | true =>
    rw [hz4] at p4
    have g34 := g3.trans g4
    refine ⟨a2, _, rfl, .inl ⟨ws, KeyC.kk kk, g34.h _ _ ha2, KeyV.kv kk H4 v4 (r4 H4), by rw [owf_len hin]; exact of_decide_eq_true hz4, rfl⟩, ?_⟩
    have alm : ∀ a ∈ l :: a2 :: (fi ++ fr'), (Hm a).isSome = true := fun a ha => by
      rcases List.mem_cons.mp ha with rfl | ha
      · rw [hl1]; rfl
      · rcases List.mem_cons.mp ha with rfl | ha
        · rw [ha2]; rfl
        · have hf' : a ∈ f' := w2'.mem_iff.mp (by simpa using Or.inr (List.mem_append.mp ha))
          exact OwL.al w1'.2 a hf'
    have ntm : ∀ a ∈ a2 :: (fi ++ fr'), nTup Hm a := fun a ha => by
      have hf' : a ∈ f' := w2'.mem_iff.mp (by simpa using ha)
      exact OwL.nt w1'.2 a hf'
    have b4 : ∀ a ∈ a2 :: (fi ++ fr'), B4 a = none := fun a ha => newB_none g34.n (fall a ha).2.2 (alm a (List.mem_cons_of_mem _ ha)) (ntm a ha)
    have fq4 : ∀ a ∈ fq3, Hm a = none ∧ B4 a = none := fun a ha => ⟨(fr3 a ha).1, newB_none g4.n (fr3 a ha).2 ((τ y).al r3 a ha) ((τ y).nt r3 a ha)⟩
    have r5 : (τ y).rel B4 (upd H4 a2 (.dK (putK ws (KeyC.kk kk) vy))) vy fq3 := ow_upd r3 g4.b g4.h fun z => by
      have := (fq4 a2 z).1
      rw [ha2] at this; cases this
    obtain ⟨fi', di, z1, z2⟩ := owf_put (k := kk) hin ndx g34.b (fun b hb => upd_at g34.h (alm b (List.mem_cons_of_mem _ (List.mem_cons_of_mem _ (List.mem_append_left _ hb)))) fun (z : b = a2) => d3 (List.mem_append_left _ (z ▸ hb))) r5
    obtain ⟨f6, y1, y2⟩ := hup B4 (upd H4 a2 (.dK (putK ws (KeyC.kk kk) vy))) (dput ((dget kvs key).getD []) kk y) (a2 :: fi') g34.b (fun b hb => upd_at g34.h (alm b (List.mem_cons_of_mem _ (List.mem_cons_of_mem _ (List.mem_append_right _ hb)))) fun (z : b = a2) => d3 (List.mem_append_right _ (z ▸ hb))) ⟨nodup_dput ndx, a2, _, fi', rfl, upd_same, z1, rfl⟩
    have mem6 : ∀ a ∈ f6, a = a2 ∨ a ∈ fi' ∨ a ∈ fr' := fun a ha => by
      have := y2.mem_iff.mpr ha
      simpa using this
    have memi : ∀ a ∈ fi', a ∈ fi ∨ a ∈ fq3 := fun a ha => List.mem_append.mp (z2.mem_iff.mp (List.mem_append_left _ ha))
    have al4 : ∀ a ∈ g, Hm a = H a := sg
    have fresh4 : ∀ a ∈ fq3, a ∉ g ∧ Z a = none ∧ B4 a = none := fun a ha => ⟨fun z => absurd (alf a (ing a z)) (by rw [← sg a z, (fq4 a ha).1]; simp), none_back sZ (fq4 a ha).1, (fq4 a ha).2⟩
    have notq : ∀ a, (Hm a).isSome = true → a ∉ fq3 := fun a h1 h2 => by
      rw [(fq4 a h2).1] at h1; cases h1
    have ndi : fi'.Nodup := (List.nodup_append.mp (z2.nodup_iff.mpr (List.nodup_append.mpr ⟨d5, n3, fun a ha b hb e => notq a (alm a (List.mem_cons_of_mem _ (List.mem_cons_of_mem _ (List.mem_append_left _ ha)))) (e ▸ hb)⟩))).1
    have nd6 : f6.Nodup := by
      refine y2.nodup_iff.mp (List.nodup_cons.mpr ⟨fun z => ?_, List.nodup_append.mpr ⟨ndi, d6, fun a ha b hb e => ?_⟩⟩)
      · rcases List.mem_append.mp z with z | z
        · rcases memi a2 z with z | z
          · exact d3 (List.mem_append_left _ z)
          · exact notq a2 (by rw [ha2]; rfl) z
        · exact d3 (List.mem_append_right _ z)
      · subst e
        rcases memi a ha with z | z
        · exact d7 a z a hb rfl
        · exact notq a (alm a (List.mem_cons_of_mem _ (List.mem_cons_of_mem _ (List.mem_append_right _ hb)))) z
    have ne2 : l ≠ a2 := fun z => d1 (by rw [z]; exact List.mem_cons_self)
    have fin : ∀ a ∈ f6, a ∉ g ∧ Z a = none ∧ B4 a = none := fun a ha => by
      have hold : a ∈ a2 :: (fi ++ fr') → a ∉ g ∧ Z a = none ∧ B4 a = none := fun z => ⟨(fall a z).1, (fall a z).2.1, b4 a z⟩
      rcases mem6 a ha with rfl | z | z
      · exact hold List.mem_cons_self
      · rcases memi a z with z | z
        · exact hold (List.mem_cons_of_mem _ (List.mem_append_left _ z))
        · exact fresh4 a z
      · exact hold (List.mem_cons_of_mem _ (List.mem_append_right _ z))
    have alive : ∀ (M : Hp), Same M H4 → M a2 = none → Same M (upd H4 a2 (.dK (putK ws (KeyC.kk kk) vy))) := fun M s1 n a w e => by
      rw [upd_ne (fun z => by rw [z, n] at e; cases e)]
      exact s1 a w e
    have bl4 : B4 l = none := newB_none g34.n (b2 l lfp) (by rw [hl1]; rfl) (fun w z => by rw [hl1] at z; cases z; rfl)
    obtain ⟨fpe, oe⟩ := q6 B4 (upd H4 a2 (.dK (putK ws (KeyC.kk kk) vy))) (oDO (fun ls : List (κ2 × α) => oDO τ ls) (dput kvs key (dput ((dget kvs key).getD []) kk y))) (l :: f6) (sm_trans gg.b g34.b) (alive B4 g34.s (b4 a2 List.mem_cons_self)) (alive Z (sm_trans sZ g34.h) (fall a2 List.mem_cons_self).2.1)
      (fun a ha => ⟨by
        have h1 := alf a (ing a ha)
        rw [upd_ne (fun (z : a = a2) => (fall a2 List.mem_cons_self).1 (z ▸ ha)), same_at g34.h (by rw [sg a ha]; exact h1), sg a ha], newB_none g34.n (b2 a (ing a ha)) (by rw [sg a ha]; exact alf a (ing a ha)) (fun w z => o.env.nt a (ing a ha) w (by rw [← sg a ha]; exact z))⟩)
      ⟨nodup_dput ndk, l, vs1, f6, rfl, by rw [upd_ne ne2]; exact g34.h _ _ hl1, y1, rfl⟩
      (List.nodup_cons.mpr ⟨fun z => by
        rcases mem6 l z with z | z | z
        · exact ne2 z
        · rcases memi l z with z | z
          · exact d1 (List.mem_cons_of_mem _ (List.mem_append_left _ z))
          · exact notq l (by rw [hl1]; rfl) z
        · exact d1 (List.mem_cons_of_mem _ (List.mem_append_right _ z)), nd6⟩) (fun a ha => by
        rcases List.mem_cons.mp ha with rfl | ha
        · exact ⟨lg, (o.fr a lfp).1, bl4⟩
        · exact fin a ha)
    rw [hp.eq] at oe
    have oen : ∃ fq, Oks ((pt (dput kvs key (dput ((dget kvs key).getD []) kk y))).set i none) (σ.set i (some (.ref a2))) B4 Z (upd H4 a2 (.dK (putK ws (KeyC.kk kk) vy))) fq := by
      have hi : i < (pt (dput kvs key (dput ((dget kvs key).getD []) kk y))).length := hl _
      have oz : Oks (some (oV (vC (.ref a2))) :: pt (dput kvs key (dput ((dget kvs key).getD []) kk y))) (some (.ref a2) :: σ) B4 Z (upd H4 a2 (.dK (putK ws (KeyC.kk kk) vy))) ([] ++ fpe) := ⟨⟨.ref a2, [], fpe, rfl, rfl, ⟨rfl, rfl⟩, oe.env⟩, oe.nd, oe.fr, oe.b, oe.z⟩
      obtain ⟨fq, oq⟩ := oz.set hi
      obtain ⟨v, f1, g1', _, _, o3, _⟩ := oq.take (i := i) (o := oV (vC (.ref a2))) (by rw [List.getElem?_set_self hi])
      rw [List.set_set] at o3
      exact ⟨g1', o3⟩
    obtain ⟨fq5, o5⟩ := oen
    exact hs _ W E _ B4 Z _ fq5 o5 p4
  refine ⟨fun v hv => ?_, fun hv => ?_⟩
  · cases hx : dget kvs key with
    | none =>
      have := (dict_none ho hx).1
      rw [this] at hv; cases hv
    | some x =>
      obtain ⟨n, v0, fx, gx, a1, a2, a3, a4, a5, a6⟩ := dict_at ho ndk hx
      rw [a3] at hv
      cases hv
      obtain ⟨ndx, ax, ws, fi, rfl, hax, hin, rfl⟩ := a5
      have sub : ∀ a, a ∈ (ax :: fi) ++ gx → a ∈ f0 := fun a ha => a4.mem_iff.mp ha
      refine mid ax ws vs H2 fi gx x (by rw [hx]; rfl) o2.b o2.z (fun a ha => same_at gg.h (alf a (ing a ha))) hl2 (gg.h _ _ hax) ⟨hin.1, owl_up hin.2 gg.b gg.h⟩ ndx ?_ (fun a ha => ?_) (fun B' H' x' fy sb ng r => ?_)
      · refine List.nodup_cons.mpr ⟨fun z => nd.1 (sub l (by simpa using z)), ?_⟩
        exact a4.nodup_iff.mpr nd.2
      · have hf : a ∈ l :: f0 := List.mem_cons_of_mem _ (sub a (by simpa using ha))
        exact ⟨q5 a hf, (o.fr a (inf a hf)).1, b2 a (inf a hf)⟩
      · obtain ⟨f', y1, y2⟩ := a6 B' H' (oDO τ x') (.ref ax) fy (sm_trans gg.b sb) (fun a ha => by
          rw [ng a ha, same_at gg.h (alf a (inf a (List.mem_cons_of_mem _ (sub a (List.mem_append_right _ ha)))))]) r
        refine ⟨f', ?_, y2⟩
        rw [dput_set ndk a1 hx, ← dO_set]
        have : vs.set n (KeyC.kk key, V.ref ax) = vs := by
          refine List.ext_getElem? fun j => ?_
          rw [List.getElem?_set]
          split
          · rename_i e
            subst e
            split
            · exact a2.symm
            · rename_i hh
              rw [List.getElem?_eq_none (by omega)]
          · rfl
        rw [this] at y1
        exact y1
  · cases hx : dget kvs key with
    | some x =>
      obtain ⟨n, v0, fx, gx, a1, a2, a3, a4, a5, a6⟩ := dict_at ho ndk hx
      rw [a3] at hv; cases hv
    | none =>
      obtain ⟨_, hput⟩ := dict_none ho hx
      obtain ⟨_, az, ws, fi, rfl, haz, hin, rfl⟩ := rz
      have hws : ws = [] := by
        have := hin.1
        cases ws with
        | nil => rfl
        | cons _ _ => simp [dO] at this
      subst hws
      have hfi : fi = [] := hin.2
      subst hfi
      have fz1 := fr az List.mem_cons_self
      have hz0 : H az = none := none_back (ga.trans g1).h fz1.1
      have neq : az ≠ l := fun z => by rw [z, hlc] at hz0; cases hz0
      rw [hput]
      have azg : az ∉ g := fun z => by
        have := alf az (ing az z)
        rw [hz0] at this; cases this
      have azf : az ∉ f0 := fun z => by
        have := alf az (inf az (List.mem_cons_of_mem _ z))
        rw [hz0] at this; cases this
      have up : ∀ (M : Hp), Same M H2 → M l = none → Same M (upd H2 l (.dK (vs ++ [(KeyC.kk key, V.ref az)]))) := fun M s1 n a w e => by
        rw [upd_ne (fun z => by rw [z, n] at e; cases e)]
        exact s1 a w e
      have lfp : l ∈ fp := inf l List.mem_cons_self
      refine mid az [] (vs ++ [(KeyC.kk key, V.ref az)]) (upd H2 l (.dK (vs ++ [(KeyC.kk key, V.ref az)]))) [] f0 [] (by rw [hx]; rfl) (up B2 o2.b (b2 l lfp)) (up Z o2.z (o.fr l lfp).1) (fun a ha => upd_at gg.h (alf a (ing a ha)) fun z => q5 l List.mem_cons_self (z ▸ ha)) upd_same (by rw [upd_ne neq]; exact haz) ⟨rfl, rfl⟩ List.nodup_nil ?_ (fun a ha => ?_) (fun B' H' x' fy sb ng r => ?_)
      · refine List.nodup_cons.mpr ⟨fun z => ?_, List.nodup_cons.mpr ⟨by simpa using azf, by simpa using nd.2⟩⟩
        rcases List.mem_cons.mp z with z | z
        · exact neq z.symm
        · exact nd.1 (by simpa using z)
      · rcases List.mem_cons.mp ha with rfl | ha
        · exact ⟨azg, none_back o.z hz0, fz1.2⟩
        · have hf : a ∈ l :: f0 := List.mem_cons_of_mem _ (by simpa using ha)
          exact ⟨q5 a hf, (o.fr a (inf a hf)).1, b2 a (inf a hf)⟩
      · rw [dput_abs hx]
        refine ⟨f0 ++ fy, ⟨?_, ?_⟩, List.perm_append_comm⟩
        · rw [List.map_append, ho.1]
          unfold dO
          rw [List.map_append, List.map_append]
          rfl
        · rw [List.map_append]
          unfold dO
          rw [List.map_append, List.map_append]
          exact OwL.append (OwL.mono (sm_trans gg.b sb) (fun a ha => by
            rw [ng a ha, upd_ne (fun (z : a = l) => nd.1 (z ▸ ha)), same_at gg.h (alf a (inf a (List.mem_cons_of_mem _ ha)))]) ho.2) ⟨fy, [], by simp, r, rfl⟩
/-! small rules -/
theorem b_okR {D : Ds ν β ρ ξ} {s : S} {m : Res α} {x0 : ξ} {k : α → Out ν β ρ ξ} (no : NoX m) (h : ∀ x, m = .ok x → Blk T cs C D Γ s (k x)) : Blk T cs C D Γ s (m.to x0 k) := fun W E σ B Z H fp o p => by
  cases q : m with
  | ok x => rw [q] at p; exact h x q W E σ B Z H fp o p
  | exc e => exact absurd q (no e)
  | bad => rw [q] at p; exact p.elim
theorem nox_noE {m : Res α} : NoX (noE m) := by
  cases m with
  | ok x => exact nox_ok
  | exc e => exact fun _ z => by cases z
  | bad => exact fun _ z => by cases z
theorem noE_inv {m : Res α} {x : α} (h : noE m = .ok x) : m = .ok x := by
  cases m with
  | ok y => exact h
  | exc e => cases h
  | bad => cases h
theorem ev_is {P : PR α} {e : E} {m : Res α} {x : α} (h : Ev T C P Γ e m) (q : m = .ok x) : Ev T C P Γ e (.ok x) := q ▸ h
theorem getR_inv {m : Option α} {x : α} (h : getR m = .ok x) : m = some x := by
  cases m with
  | none => cases h
  | some y => cases h; rfl
theorem p_fz {D : Ds ν β ρ ξ} {i : Nat} {o : α → Ow} {v : α → Vw} [iv : OwV o v] {x : α} {s : S} {m : Out ν β ρ ξ} (hi : Γ[i]? = some (some (o x))) (h : Blk T cs C D (Γ.set i (some (oV (v x)))) s m) : Blk T cs C D Γ s m := by
  refine b_frz hi ?_
  rw [show (o x).vw = v x from iv.eq x]
  exact h
theorem ev_mthTP {a es : E} {mt : Str} {cls : List Nat} {c : Nat} {fw : α → List (Str × Vw)} {os : κ → List Vw} {ws : κ' → List Vw} {τ : β → Ow} [CloT τ] {f : κ' → Res β} {g : α → κ → κ'} {dv : List V} {wd : List Vw} {x : α} {m : α → Res β} {iR : Nat} (hmt : T.mt c mt = iR) (hf : FnT C (T.f iR) ws τ f) (hc : c ∈ cls) (hno : ∀ x, ((fw x).map (·.1)).contains mt = false)
    (har : elen es + 1 ≤ (T.f iR).ar ∧ (T.f iR).ar ≤ elen es + 1 + (T.f iR).dfl.length) (hdv : (T.f iR).dfl.drop (elen es + 1 + (T.f iR).dfl.length - (T.f iR).ar) = dv) (hwd : ∀ H, VwL H dv wd) (hg : ∀ x k, ws (g x k) = vIn C c (fw x) :: (os k ++ wd))
    (ha : EvB T C Γ a (fun x => vIn C c (fw x)) (.ok x)) (h : ∀ x, EvLV T C Γ es os (fun k => f (g x k)) (m x)) : EvO T C Γ (.mth cls a mt es) τ (m x) := ev_mthT hmt hf hc hno har hdv hwd hg ha h
end
end Q
/-! Q45: comprehensions with tuple targets, dict copies, defs that fall off their end. -/
namespace Q
open PySem L2 PySem.Spec
section
variable {T : Tb} {cs : List Nat} {C : Kc} {Γ Γ' : Cx0} {α β γ ν ν' ρ ξ ι ι' η κ κ' : Type}
/-- [e for x, y in xs if t], xs frozen -/
theorem ev_lcT {it t e : E} {js : List Nat} {ws : α → List Vw} {ε : γ → Ow} {c : α → Res Bool} {f : α → Res γ} {m : Res (List α)} (h : EvO T C Γ it (fun xs => oV (vL C (fun x => vTup C (ws x)) xs)) m) (hj : 2 ≤ js.length) (hw : ∀ x, js.length = (ws x).length) (l : ∀ st : Unit, ∀ j ∈ js, j < Γ.length)
    (hc : ∀ x, EvPs T C (setL (wipeΓ Γ js) js (ws x)) t (c x)) (he : ∀ x, EvO T C (setL (wipeΓ Γ js) js (ws x)) e ε (f x)) : EvO T C Γ (.lc js (.iL it) t e) (oL C ε) (m >>= fun xs => gd (decide (xs.length ≤ sizeLine)) (lcR c f xs)) := fun W σ B H Q g z => by
  show (rd T C it W).E σ H _
  refine h W σ B H _ g (rz_imp (rz_bind.mp z) (fun xs z v B1 H1 g1 ⟨fp, ⟨⟨a, vs, hv, hl, hp⟩, hfp⟩, _, _⟩ => ?_) fun _ z => z)
  subst hv
  have hgd : decide (xs.length ≤ sizeLine) = true ∧ Rz (lcR c f xs) (fun x => ∀ (v : V) (B' H' : Hp), Gon B H B' H' → pO (oL C ε) x B H B' H' v → Q v H') (ExK C W σ H) := by
    cases hd : decide (xs.length ≤ sizeLine) with
    | true => rw [hd] at z; exact ⟨rfl, z⟩
    | false => rw [hd] at z; exact z.elim
  refine ⟨a, rfl, ⟨vs, sm_sqL g1.s hl⟩, fun D hD => ?_⟩
  have g0 := wipe_env (g.up g1.b g1.h g1.s) js
  refine lc_core (α := α) (xs := xs) (js := js) (σ := σ) (ε := ε) (Γ1 := fun x => setL (wipeΓ Γ js) js (ws x)) (E := ExK C W σ H) g1.s (of_decide_eq_true hgd.1) (fun i x hx H2 s => ?_) (fun H2 s => ?_) (fun i x hx B' H2 v H' Q2 sb s sh y q => ?_) hc he (rz_imp hgd.2 (fun ys q v B' H' g2 p => q v B' H' (g1.trans g2) (Back.bk (P := pO (oL C ε)) ys B H B1 H1 B' H' v g1 p)) fun _ z => z) D hD
  · obtain ⟨v, h1, h2⟩ := vwl_nth (τ := fun x => vTup C (ws x)) hp hx
    exact ⟨vs, v, sm_sqL (sm_trans g1.s s) hl, h1⟩
  · exact ⟨vs, sm_sqL (sm_trans g1.s s) hl, by rw [hp.len, List.length_map]; exact Nat.le_refl _⟩
  · obtain ⟨rfl, y⟩ := y
    obtain ⟨u, h1, h2⟩ := vwl_nth (τ := fun x => vTup C (ws x)) hp hx
    have := y vs (sm_sqL (sm_trans g1.s sh) hl)
    rw [h1] at this
    cases this
    obtain ⟨c', us, rfl, h3, h4⟩ := h2
    rw [gTg_tup hj]
    refine ⟨c', us, rfl, sm_sqT (sm_trans g1.s sh) h3, by rw [h4.len, hw x], ?_⟩
    exact envC_setL (js0 := js) (σ0 := σ) (h4.mono sb) (hw x) (fun j hj => hj) wipe_wipe (g0.up sb sh s) fun σ2 h5 h6 => q σ2 h5 (sm_refl _) h6
theorem ev_lcTP {it t e : E} {js : List Nat} {ws : α → List Vw} {ε : γ → Ow} {c : α → Res Bool} {f : α → Res γ} {xs : List α} (h : EvO T C Γ it (fun xs => oV (vL C (fun x => vTup C (ws x)) xs)) (.ok xs)) (hj : 2 ≤ js.length) (hw : ∀ x, js.length = (ws x).length) (l : ∀ st : Unit, ∀ j ∈ js, j < Γ.length)
    (hc : ∀ x, EvPs T C (setL (wipeΓ Γ js) js (ws x)) t (c x)) (he : ∀ x, EvO T C (setL (wipeΓ Γ js) js (ws x)) e ε (f x)) : EvO T C Γ (.lc js (.iL it) t e) (oL C ε) (gd (decide (xs.length ≤ sizeLine)) (lcR c f xs)) := ev_lcT h hj hw l hc he
/-- dict(d) -/
theorem ev_dcopy [KeyC κ] [DecidableEq κ] {e : E} {τ : α → Vw} {m : Res (List (κ × α))} (h : EvO T C Γ e (fun kvs : List (κ × α) => oV (vD τ kvs)) m) : EvO T C Γ (.blt .dict (.cons e .nil)) (fun kvs : List (κ × α) => oDO (fun x => oV (τ x)) kvs) m := fun W σ B H Q g z => by
  show (rd T C e W).E σ H _
  refine h W σ B H _ g (rz_imp z (fun kvs z v B1 H1 g1 ⟨fp, ⟨⟨nd, p, vs, hv, h2, h3⟩, _⟩, _, _⟩ => ?_) fun _ z => z)
  subst hv
  refine .inl ⟨p, vs, rfl, sm_rd g1.s h2, fun q hq => ?_⟩
  have hqB := none_back g1.s hq
  refine z (.ref q) B1 _ ⟨g1.b, sm_trans g1.h (sm_new hq), sm_trans g1.s (sm_new hq), g1.n⟩ ⟨[q], ⟨nd, q, vs, [], rfl, upd_same, owf_of h3, rfl⟩, by simp, fun a ha => ?_⟩
  rw [List.mem_singleton.mp ha]
  exact ⟨none_back g1.h hq, hqB⟩
/-! defs that fall off their end -/
def outRN (y0 : ρ) (m : Out Unit Unit ρ ξ) : Res ρ := match m with
  | .nx _ => .ok y0
  | .bk _ => .bad
  | .ct _ => .bad
  | .rt x => .ok x
  | .exc e _ => .exc e
  | .bad => .bad
theorem fn_readN {R : Row} {ws : κ → List Vw} {τ : ρ → Ow} {y0 : ρ} {f : κ → Out Unit Unit ρ Unit} {n N : Nat} {s : S} (hR : ∀ C, R.sp C = spB T cs n N s C) (hn : ∀ k, (ws k).length = n) (hy : ∀ B H, (τ y0).rel B H .non [])
    (h : ∀ k, Blk T cs C (⟨fun _ => List.replicate N none, fun _ => [], τ, fun _ => List.replicate N none, fun _ => List.replicate N none⟩ : Ds Unit Unit ρ Unit) ((ws k).map (fun w => some (oV w)) ++ List.replicate (N - n) none) s (f k)) : FnT C R ws τ (fun k => outRN y0 (f k)) := fun k vs B H Q E s hv z => by
  have hl : vs.length = n := by rw [hv.len, hn]
  rw [hR]
  refine ⟨hl, ?_⟩
  rw [hl]
  refine h k _ _ _ B H H [] ⟨envo_args _ hv, List.nodup_nil, (fun _ z => nomatch z), s, sm_refl _⟩ ?_
  replace z : Rz (outRN y0 (f k)) _ _ := z
  cases q : f k with
  | nx x =>
    rw [q] at z
    intro σ B' H' fp g o
    exact z .non B' H' ⟨g.b, o.z, o.b, g.n⟩ ⟨[], hy B' H', List.nodup_nil, fun _ z => nomatch z⟩
  | bk x => rw [q] at z; exact z.elim
  | ct x => rw [q] at z; exact z.elim
  | bad => rw [q] at z; exact z.elim
  | rt x =>
    rw [q] at z
    intro v σ B' H' fp g o
    obtain ⟨⟨u, f0, g0, h0, h1, h2, h3⟩, nd, fr, b, zz⟩ := o
    cases h0
    subst h1
    exact z v B' H' ⟨g.b, zz, b, g.n⟩ ⟨f0, h2, (List.nodup_append.mp nd).1, fun a ha => fr a (List.mem_append_left _ ha)⟩
  | exc e x =>
    rw [q] at z
    intro cls d σ B' H' fp g o r
    exact z cls d H' o.z (r.imp_right fun h => h.imp_right fun ⟨d, h1, h2, h3⟩ => ⟨d, h1, o.b _ _ h2, h3⟩)
theorem le_qany {p : V → Prop} {o : Ow} : Le (oQ p o) (oQ p oAny) := ⟨fun _ _ _ _ h => ⟨h.1, fun a ha => ⟨o.al h.2 a ha, o.nt h.2 a ha⟩⟩⟩
end
end Q
/-! Q46: a method of a thing at a place; things known to stand somewhere within lists and dicts. -/
namespace Q
open PySem L2 PySem.Spec
section
variable {T : Tb} {cs : List Nat} {C : Kc} {Γ Γ' : Cx0} {α β γ ν ν' ρ ξ ι ι' η κ κ' : Type}
/-- x.m(..), only x being lent -/
theorem evx_mth1 {ν β' ρ ξ : Type} {D : Ds ν β' ρ ξ} {a es : E} {mt : Str} {cls : List Nat} {c : Nat} {sh : List Bool} {fs : ι → List (Str × Ow)} {s : ι} {put : Ow → Cx0} {pt : ι → Cx0} {ws : κ' → List Vw} {os : κ → List Vw} {τ : β → Ow} {f : κ' → ι → Out Unit Unit (β × ι) ι} {g : κ → κ'} {dv : List V} {wd : List Vw} {m : Res κ} {x0 : ξ} {x1 : ι → ξ} {K : β → ι → Out ν β' ρ ξ}
    {iR : Nat} (hmt : T.mt c mt = iR) (hf : FnG C (T.f iR) (true :: sh) ws (fun s => [oIn C c (fs s)]) (fun s => [oIn C c (fs s)]) (fun s => [oIn C c (fs s)]) τ f) (hp : Pl T C Γ (some a) (fun s => oIn C c (fs s)) s put pt) (hc : c ∈ cls) (hno : ((fs s).map (·.1)).contains mt = false)
    (har : elen es + 1 ≤ (T.f iR).ar ∧ (T.f iR).ar ≤ elen es + 1 + (T.f iR).dfl.length) (hdv : (T.f iR).dfl.drop (elen es + 1 + (T.f iR).dfl.length - (T.f iR).ar) = dv) (hwd : ∀ H, VwL H dv wd) (hg : ∀ k, mkW sh [] (ws (g k)) = os k ++ wd)
    (h : EvLO T C Γ es (fun k => (os k).map oV) (fun k => Res.ok k) m) (w : Cv Γ (D.x x0)) (w1 : ∀ s', Cv (pt s') (D.x (x1 s'))) :
    EvX T C D Γ (.mth cls a mt es) (fun y : β × ι => τ y.1) (fun y => pt y.2) (fun y => K y.1 y.2) (m.to x0 fun k => (f (g k) s).mth x1 K) := fun W E σ B Z H fp Q ok p qq => by
  subst hmt
  show rMeth T C cls mt (elen es) (WE W) (rd T C a W).E (rd T C es W).L σ H Q
  refine ⟨c, hc, har, ?_⟩
  rw [hdv]
  show (rd T C a W).E σ H _
  obtain ⟨u, fx, g0, q1, q2, q3, q4⟩ := hp.run σ B H fp ok.env ok.b
  refine q1 a rfl W _ B H (.refl ok.b) fun Ba Ha ga => ?_
  have q2' := q2
  obtain ⟨pa, dx, vs0, ff, hv, hpa, ⟨hk, _⟩, _⟩ := q2'
  refine ⟨pa, dx, vs0, hv, ga.h _ _ hpa, lookup_none (by rw [hk]; exact hno), ?_⟩
  have oka := ok.gon ga
  refine evL_post h w oka (p.up (ga.gz ok.z)) fun k vs B1 H1 g1 p2 pk => ?_
  have la : ∃ fx g, OwL B H [u] [oIn C c (fs s)] fx ∧ (fx ++ g).Perm fp ∧ ∀ B' H' (xs' : List Ow) fy, Same B B' → Same B' H' → (∀ a ∈ g, H' a = H a) → OwL B' H' [u] xs' fy → ∃ fp', EnvO B' H' σ ((fun | [o] => put o | _ => []) xs') fp' ∧ (fy ++ g).Perm fp' := by
    refine ⟨fx, g0, ⟨fx, [], by simp, q2, rfl⟩, q3, fun B' H' xs' fy b _ n r => ?_⟩
    match xs', r with
    | [o], ⟨f1, f2, h1, h2, h3⟩ =>
      have h3 : f2 = [] := h3
      subst h3
      rw [List.append_nil] at h1
      subst h1
      exact q4 B' H' o fy b n h2
    | o :: o' :: os, ⟨_, _, _, _, h3⟩ => exact h3.elim
  obtain ⟨Z', fx', c1, c2, c3, c4, c5⟩ := call_lent (τ := τ) (Q := Q) (own' := fun s => [oIn C c (fs s)]) (ownX := fun s => [oIn C c (fs s)]) (x1 := x1) la (fun s' => by
    show Cv (put (oIn C c (fs s'))) _
    rw [hp.eq]
    exact w1 s') ok (ga.trans g1) pk (fun y v B' H' fp' gz o p => qq y v B' H' fp' gz (by
    show Oks (some (τ y.1) :: pt y.2) _ _ _ _ _
    rw [← hp.eq y.2]
    exact o) p)
  exact hf (g k) s [u] (u :: (vs ++ dv)) B1 Z' H1 fx' Q (WE W σ) g1.s c1 (.cons rfl (by rw [hg]; exact vwl_append p2 (hwd B1))) c2 c3 c4 c5
/-- the item of a list that is known to stand somewhere -/
theorem evP_ixA {a b : E} {τ : α → Ow} {xs : List α} {x : α} {j : Int} {o : Ow} (h : EvP T C Γ a (fun _ : Unit => oLs C (setJ (xs.map τ) j o)) (.ok ())) (hb : EvB T C Γ b vInt (.ok j)) (hx : ixR xs j = .ok x) : EvP T C Γ (.ix a b) (fun _ : Unit => o) (.ok ()) := fun W σ B H Q g z => by
  obtain ⟨n, hn, hxn⟩ : ∃ n, ixN xs.length j = some n ∧ xs[n]? = some x := by
    unfold ixR at hx
    cases q : atI xs j with
    | none => rw [q] at hx; cases hx
    | some z =>
      rw [q] at hx
      cases hx
      unfold atI at q
      cases q2 : ixN xs.length j with
      | none => rw [q2] at q; cases q
      | some n => rw [q2] at q; exact ⟨n, rfl, q⟩
  have e1 : setJ (xs.map τ) j o = (xs.map τ).set n o := by
    unfold setJ
    rw [List.length_map, hn]
  have hnl : n < xs.length := ixN_lt hn
  show (rd T C a W).E σ H _
  refine h W σ B H _ g fun v B1 H1 g1 ⟨fp, p, vs, ff, hv, hp, hl, _⟩ => ?_
  subst hv
  refine hb W σ B1 H1 _ (g.up g1.b g1.h g1.s) fun u B2 H2 g2 e => ?_
  have e : u = .int j := e
  subst e
  rw [e1] at hl
  obtain ⟨w, fx, gg, k1, k2, k3, k4⟩ := OwL.foc (n := n) (o := o) hl (by rw [List.getElem?_set_self (by rw [List.length_map]; exact hnl)])
  refine .inl (.inl ⟨p, vs, j, w, rfl, rfl, .inl (.inl (g2.h _ _ hp)), ?_, z w B2 H2 (g1.trans g2) ⟨fx, ow_up k3 g2.b g2.h⟩⟩)
  unfold atI
  rw [hl.len, List.length_set, List.length_map, hn]
  exact k1
theorem pl_ixA {oe : Option E} {τ : α → Ow} {xs : List α} {x : α} {j : Int} {o : Ow} {put : Ow → Cx0} {pt : Unit → Cx0} (h : Pl T C Γ oe (fun _ : Unit => oLs C (setJ (xs.map τ) j o)) () put pt) (hx : ixR xs j = .ok x) :
    Pl T C Γ none (fun _ : Unit => o) () (fun o' => put (oLs C (setJ (xs.map τ) j o'))) (fun _ => put (oLs C (setJ (xs.map τ) j o))) := by
  obtain ⟨n, hn, hxn⟩ : ∃ n, ixN xs.length j = some n ∧ xs[n]? = some x := by
    unfold ixR at hx
    cases q : atI xs j with
    | none => rw [q] at hx; cases hx
    | some z =>
      rw [q] at hx
      cases hx
      unfold atI at q
      cases q2 : ixN xs.length j with
      | none => rw [q2] at q; cases q
      | some n => rw [q2] at q; exact ⟨n, rfl, q⟩
  have e1 : ∀ o : Ow, setJ (xs.map τ) j o = (xs.map τ).set n o := fun o => by
    unfold setJ
    rw [List.length_map, hn]
  have hnl : n < xs.length := ixN_lt hn
  refine ⟨fun σ B H fp k s => ?_, fun _ => rfl⟩
  obtain ⟨v, f0, g, _, ⟨p, vs, ff, rfl, hp, hl, rfl⟩, q3, q4⟩ := h.run σ B H fp k s
  rw [e1] at hl
  obtain ⟨w, fx, g2, k1, k2, k3, k4⟩ := OwL.foc (n := n) (o := o) hl (by rw [List.getElem?_set_self (by rw [List.length_map]; exact hnl)])
  refine ⟨w, fx, p :: (g2 ++ g), fun e he => (nomatch he), k3, ?_, fun B' H' x' fy b n' r => ?_⟩
  · rw [perm_cnt] at k2 q3 ⊢
    intro a
    have h1 := k2 a
    have h2 := q3 a
    simp only [List.count_append, List.count_cons] at h1 h2 ⊢
    omega
  · obtain ⟨f', z1, z2⟩ := k4 B' H' x' fy b (fun a ha => n' a (List.mem_cons_of_mem _ (List.mem_append_left _ ha))) r
    rw [List.set_set] at z1
    obtain ⟨fp', y1, y2⟩ := q4 B' H' (oLs C (setJ (xs.map τ) j x')) (p :: f') b (fun a ha => n' a (List.mem_cons_of_mem _ (List.mem_append_right _ ha))) ⟨p, vs, f', rfl, by rw [n' p List.mem_cons_self]; exact hp, by rw [e1]; exact z1, rfl⟩
    refine ⟨fp', y1, ?_⟩
    rw [perm_cnt] at z2 y2 ⊢
    intro a
    have h1 := z2 a
    have h2 := y2 a
    simp only [List.count_append, List.count_cons] at h1 h2 ⊢
    omega
theorem setJ_map {τ : α → Ow} {xs : List α} {j : Int} {y : α} : setJ (xs.map τ) j (τ y) = (setJ xs j y).map τ := by
  unfold setJ
  rw [List.length_map]
  cases ixN xs.length j with
  | none => rfl
  | some n => exact List.map_set.symm
theorem cv_eq (h : Γ = Γ') : Cv Γ Γ' := h ▸ Cv.refl _
/-- a, b, .. = f(..): what it gave is a frozen tuple -/
theorem b_asgTX {D : Ds ν β ρ ξ} {e : E} {is : List Nat} {s : S} {ws : α → List Vw} {Γ1 : α → Cx0} {k : α → Out ν β ρ ξ} {m : Out ν β ρ ξ} (h : EvX T C D Γ e (fun x => oV (vTup C (ws x))) Γ1 k m) (hw : ∀ x, is.length = (ws x).length) (l : ∀ x, ∀ i ∈ is, i < (Γ1 x).length)
    (hs : ∀ x, Blk T cs C D (setL (Γ1 x) is (ws x)) s (k x)) : Blk T cs C D Γ (.seq (.asgT is e) s) m := fun W E σ B Z H fp o p => by
  show (rd T C e W).E σ H _
  refine h W E σ B Z H fp _ o p fun x v B1 H1 fq g1 o1 p1 => ?_
  obtain ⟨⟨u, f, g', h0, h1, ⟨⟨a, vs, hv, h3, h4⟩, hf⟩, h5⟩, nd, fr, b, z⟩ := o1
  cases h0
  subst h1 hv
  have o2 : Oks (Γ1 x) σ B1 Z H1 g' := ⟨h5, (List.nodup_append.mp nd).2.1, fun a ha => fr a (List.mem_append_right _ ha), b, z⟩
  exact ⟨a, vs, rfl, sm_sqT b h3, by rw [h4.len, hw x], setL_ok h4 (hw x) (l x) o2 fun σ2 fp2 o3 => hs x W E σ2 B1 Z H1 fp2 o3 p1⟩
end
end Q
namespace Q
open PySem L2 PySem.Spec
section
variable {T : Tb} {cs : List Nat} {C : Kc} {Γ Γ' : Cx0} {α β γ ν ν' ρ ξ ι ι' η κ κ' : Type}
/-- d.get(k, z), kept -/
theorem ev_dgetF [KeyC κ] [DecidableEq κ] {d ke ze : E} {τk : κ → Vw} [KeyV κ τk] {τ : α → Vw} {md : Res (List (κ × α))} {mk : Res κ} {mz : Res α} (hd : EvO T C Γ d (fun kvs : List (κ × α) => oV (vD τ kvs)) md) (hk : EvB T C Γ ke τk mk) (hz : EvO T C Γ ze (fun x => oV (τ x)) mz) :
    EvO T C Γ (.dget d ke ze) (fun x => oV (τ x)) (md >>= fun kvs => mk >>= fun k => mz >>= fun z => .ok ((dget kvs k).getD z)) := fun W σ B H Q g z => by
  show (tDGet2 _ _ _) σ H Q
  refine hd W σ B H _ g (rz_imp (rz_bind.mp z) (fun kvs z v B1 H1 g1 ⟨fp, ⟨⟨nd, p, vs, hv, h2, h3⟩, _⟩, _, _⟩ => ?_) fun _ z => z)
  subst hv
  refine ⟨p, rfl, .inl ⟨vs, sm_rd g1.s h2⟩, ?_⟩
  refine hk W σ B1 H1 _ (g.up g1.b g1.h g1.s) (rz_imp (rz_bind.mp z) (fun k z u B2 H2 g2 p2 => ?_) fun _ z => z.up g1.h)
  refine hz W σ B2 H2 _ (g.up (g1.trans g2).b (g1.trans g2).h g2.s) (rz_imp (rz_bind.mp z) (fun y z w B3 H3 g3 ⟨fp3, p3, _, _⟩ => ?_) fun _ z => z.up (g1.trans g2).h)
  have b13 := sm_trans g2.b g3.b
  refine ⟨_, .inl ⟨vs, KeyC.kk k, sm_rd g3.s (sm_rd b13 h2), KeyV.kv k H2 u p2, rfl⟩, z _ B3 H3 ((g1.trans g2).trans g3) ⟨[], ⟨?_, rfl⟩, List.nodup_nil, fun _ z => nomatch z⟩⟩
  rcases drel_get k (h3.mono b13) with ⟨e1, e2⟩ | ⟨v, x, e1, e2, r⟩
  · rw [e1, e2]; exact p3.1
  · rw [e1, e2]; exact r
theorem ev_dgetFP [KeyC κ] [DecidableEq κ] {d ke ze : E} {τk : κ → Vw} [KeyV κ τk] {τ : α → Vw} {kvs : List (κ × α)} {k : κ} {z : α} (hd : EvO T C Γ d (fun kvs : List (κ × α) => oV (vD τ kvs)) (.ok kvs)) (hk : EvB T C Γ ke τk (.ok k)) (hz : EvO T C Γ ze (fun x => oV (τ x)) (.ok z)) :
    EvO T C Γ (.dget d ke ze) (fun x => oV (τ x)) (.ok ((dget kvs k).getD z)) := ev_dgetF hd hk hz
theorem evP_attP {a : E} {c n : Nat} {f : Str} {os : α → List (Str × Ow)} {τ : γ → Ow} {fl : α → γ} {x : α} (hcl : Cls C.K (C.cl c)) (hna : NoAttr C.K (C.cl c) f) (h : EvP T C Γ a (fun x => oIn C c (os x)) (.ok x)) (hf : ∀ x, fix f (os x) = some n) (ho : ∀ x, ((os x).map (·.2))[n]? = some (τ (fl x))) :
    EvP T C Γ (.att a f) τ (.ok (fl x)) := evP_att hcl hna h hf ho
theorem evP_tupP {a : E} {n : Nat} {os : α → List Ow} {τ : γ → Ow} {fl : α → γ} {x : α} (h : EvP T C Γ a (fun x => oTup C (os x)) (.ok x)) (ho : ∀ x, (os x)[n]? = some (τ (fl x))) : EvP T C Γ (.ix a (.int n)) τ (.ok (fl x)) := evP_tup h ho
theorem evP_ixP {a b : E} {τ : α → Ow} {x : List α} {y : Int} (h : EvP T C Γ a (oL C τ) (.ok x)) (hb : EvB T C Γ b vInt (.ok y)) : EvP T C Γ (.ix a b) τ (ixR x y) := evP_ix h hb
theorem evP_ixL {a b : E} {τ : α → Ow} {x : List α} {mb : Res Int} (h : EvP T C Γ a (oL C τ) (.ok x)) (hb : EvB T C Γ b vInt mb) : EvP T C Γ (.ix a b) τ (mb >>= fun j => ixR x j) := evP_ix h hb
theorem evP_ixR {a b : E} {τ : α → Ow} {m : Res (List α)} {y : Int} (h : EvP T C Γ a (oL C τ) m) (hb : EvB T C Γ b vInt (.ok y)) : EvP T C Γ (.ix a b) τ (m >>= fun xs => ixR xs y) := evP_ix h hb
theorem evP_dkP [KeyC κ] [DecidableEq κ] {a b : E} {τk : κ → Vw} [KeyV κ τk] {τ : α → Ow} {x : List (κ × α)} {y : κ} (h : EvP T C Γ a (fun kvs : List (κ × α) => oDO τ kvs) (.ok x)) (hb : EvB T C Γ b τk (.ok y)) : EvP T C Γ (.ix a b) τ (getR (dget x y)) := evP_dk h hb
theorem evP_dkL [KeyC κ] [DecidableEq κ] {a b : E} {τk : κ → Vw} [KeyV κ τk] {τ : α → Ow} {x : List (κ × α)} {mb : Res κ} (h : EvP T C Γ a (fun kvs : List (κ × α) => oDO τ kvs) (.ok x)) (hb : EvB T C Γ b τk mb) : EvP T C Γ (.ix a b) τ (mb >>= fun k => getR (dget x k)) := evP_dk h hb
theorem evP_dkR [KeyC κ] [DecidableEq κ] {a b : E} {τk : κ → Vw} [KeyV κ τk] {τ : α → Ow} {m : Res (List (κ × α))} {y : κ} (h : EvP T C Γ a (fun kvs : List (κ × α) => oDO τ kvs) m) (hb : EvB T C Γ b τk (.ok y)) : EvP T C Γ (.ix a b) τ (m >>= fun kvs => getR (dget kvs y)) := evP_dk h hb
theorem setJ_same {τ : α → Ow} {xs : List α} {j : Int} {x : α} (hx : ixR xs j = .ok x) : setJ (xs.map τ) j (τ x) = xs.map τ := by
  obtain ⟨n, hn, hxn⟩ : ∃ n, ixN xs.length j = some n ∧ xs[n]? = some x := by
    unfold ixR at hx
    cases q : atI xs j with
    | none => rw [q] at hx; cases hx
    | some z =>
      rw [q] at hx
      cases hx
      unfold atI at q
      cases q2 : ixN xs.length j with
      | none => rw [q2] at q; cases q
      | some n => rw [q2] at q; exact ⟨n, rfl, q⟩
  unfold setJ
  rw [List.length_map, hn]
  refine List.ext_getElem? fun k => ?_
  rw [List.getElem?_set]
  split
  · rename_i e
    subst e
    split
    · rw [List.getElem?_map, hxn]; rfl
    · rename_i hh
      rw [List.getElem?_eq_none (by omega)]
  · rfl
def outR' (m : Out ι' Unit (β × ι') η) : Out Unit Unit (β × ι') η := match m with
  | .nx _ => .bad
  | .bk _ => .bad
  | .ct _ => .bad
  | .rt x => .rt x
  | .exc e x => .exc e x
  | .bad => .bad
/-- a def that never falls off its end -/
theorem fn_ownR {R : Row} {sh : List Bool} {ws : κ → List Vw} {own : ι → List Ow} {own' : ι' → List Ow} {ownX : η → List Ow} {τ : β → Ow} {f : κ → ι → Out ι' Unit (β × ι') η} {n N : Nat} {s b : S} (hR : ∀ C, R.sp C = spB T cs n N s C) (hn : sh.length = n)
    (hw : ∀ k, (ws k).length = sh.count false) (ho : ∀ s, (own s).length = sh.count true) (ho' : ∀ s, (own' s).length = sh.count true) (hoX : ∀ s, (ownX s).length = sh.count true)
    (h : ∀ k s as, as.length = sh.count true → Blk T cs C (dsG (N - n) sh own' ownX τ as) (mkΓ sh as (own s) (ws k) ++ List.replicate (N - n) none) b (f k s)) (hb : b = s) : FnG C R sh ws own own' ownX τ (fun k s => outR' (f k s)) := fun k s0 as vs B Z H fp Q E sB sZ hv hl nd fr z => by
  subst hb
  have la : as.length = sh.count true := by rw [hl.len, ho]
  have hlv : vs.length = n := by rw [hv.len, mkW_len la (hw k), hn]
  rw [hR]
  refine ⟨hlv, ?_⟩
  rw [hlv]
  refine h k s0 as la _ _ _ B Z H fp ⟨mk_env hv hl la (hw k), nd, fr, sB, sZ⟩ ?_
  replace z : GPost C own' ownX τ as (outR' (f k s0)) Q E B Z := z
  cases q : f k s0 with
  | nx s' => rw [q] at z; exact z.elim
  | bk x => rw [q] at z; exact z.elim
  | ct x => rw [q] at z; exact z.elim
  | bad => rw [q] at z; exact z.elim
  | rt y =>
    rw [q] at z
    intro v σ B' H' fp' g o
    obtain ⟨⟨u, f0, g0, h0, h1, h2, h3⟩, nd', fr', b', zz⟩ := o
    cases h0
    exact z v B' H' fp' g b' zz ⟨f0, g0, h1, h2, mk_end h3 la (ho' _)⟩ nd' fr'
  | exc e x =>
    rw [q] at z
    intro cls d σ B' H' fp' g o r
    exact z cls d B' H' fp' g o.b o.z (mk_end o.env la (hoX _)) o.nd o.fr r
theorem mtI_of {G : Gx} {k n i : Nat} {m : Str} {f : Addr} (e : G.T.mt n m = i) (h : FnC G k (G.T.f i) f) (c : Cls G.C.K (G.C.cl n)) (hm : Meth G.C.K (G.C.cl n) m f) : MtI G k n m := ⟨f, by rw [e]; exact h, c, hm⟩
theorem op_isU : Op2 (rCmp C.K .Is) vNon vNon (pB vBl) fun _ _ => .ok true where
  no := fun _ _ => nox_ok
  run := fun x y B H v w Q s h1 h2 q => ⟨h2, say_ok s q (by rw [show v = .non from h1]; rfl)⟩
theorem op_isNU : Op2 (rCmp C.K .IsNot) vNon vNon (pB vBl) fun _ _ => .ok false where
  no := fun _ _ => nox_ok
  run := fun x y B H v w Q s h1 h2 q => ⟨h2, say_ok s q (by rw [show v = .non from h1]; rfl)⟩
theorem op_isX {τ : α → Vw} [i : NN τ] : Op2 (rCmp C.K .Is) τ vNon (pB vBl) fun _ _ => .ok false where
  no := fun _ _ => nox_ok
  run := fun x y B H v w Q s h1 h2 q => ⟨h2, say_ok s q (by rw [decide_eq_false (i.nn x H v h1)]; rfl)⟩
theorem op_isNX {τ : α → Vw} [i : NN τ] : Op2 (rCmp C.K .IsNot) τ vNon (pB vBl) fun _ _ => .ok true where
  no := fun _ _ => nox_ok
  run := fun x y B H v w Q s h1 h2 q => ⟨h2, say_ok s q (by rw [decide_eq_false (i.nn x H v h1)]; rfl)⟩
/-! what a call gave and the state, as two names -/
theorem b_exp2 {D : Ds ν β ρ ξ} {e : E} {s : S} {τ : α × ι → Ow} {Γ1 : α × ι → Cx0} {k : α × ι → Out ν β ρ ξ} {m : Out ν β ρ ξ} (h : EvX T C D Γ e τ Γ1 k m) (hs : ∀ y st, Blk T cs C D (Γ1 (y, st)) s (k (y, st))) : Blk T cs C D Γ (.seq (.exp e) s) m := b_exp h fun x => hs x.1 x.2
theorem b_asg2 {D : Ds ν β ρ ξ} {i : Nat} {e : E} {s : S} {τ : α × ι → Ow} {Γ1 : α × ι → Cx0} {k : α × ι → Out ν β ρ ξ} {m : Out ν β ρ ξ} (h : EvX T C D Γ e τ Γ1 k m) (l : ∀ x, i < (Γ1 x).length) (hs : ∀ y st, Blk T cs C D ((Γ1 (y, st)).set i (some (τ (y, st)))) s (k (y, st))) : Blk T cs C D Γ (.seq (.asg i e) s) m := b_asg h l fun x => hs x.1 x.2
theorem b_asgT2 {D : Ds ν β ρ ξ} {e : E} {is : List Nat} {s : S} {ws : α × ι → List Vw} {Γ1 : α × ι → Cx0} {k : α × ι → Out ν β ρ ξ} {m : Out ν β ρ ξ} (h : EvX T C D Γ e (fun x => oV (vTup C (ws x))) Γ1 k m) (hw : ∀ x, is.length = (ws x).length) (l : ∀ x, ∀ i ∈ is, i < (Γ1 x).length)
    (hs : ∀ y st, Blk T cs C D (setL (Γ1 (y, st)) is (ws (y, st))) s (k (y, st))) : Blk T cs C D Γ (.seq (.asgT is e) s) m := b_asgTX h hw l fun x => hs x.1 x.2
/-! d[k] -/
theorem op_ixD [KeyC κ] [DecidableEq κ] {τk : κ → Vw} [KeyV κ τk] {τ : α → Vw} : Op2 (rIxA C.K) (fun kvs : List (κ × α) => vD τ kvs) τk (pB τ) fun kvs k => getR (dget kvs k) where
  no := fun _ _ => nox_get
  run := fun kvs k B H v w Q s ⟨nd, p, vs, h1, h2, h3⟩ hk q => by
    subst h1
    obtain ⟨z, e, q⟩ := say_get q
    refine .inr ?_
    rcases drel_get k h3 with ⟨e1, e2⟩ | ⟨v', x, e1, e2, r⟩
    · rw [e2] at e; cases e
    · rw [e2] at e
      cases e
      exact ⟨p, v', rfl, .inl ⟨vs, KeyC.kk k, h2, KeyV.kv k H w hk, e1.symm⟩, say_ok s q r⟩
theorem ev_ixDF [KeyC κ] [DecidableEq κ] {a b : E} {τk : κ → Vw} [KeyV κ τk] {τ : α → Vw} {ma : Res (List (κ × α))} {mb : Res κ} (ha : EvO T C Γ a (fun kvs : List (κ × α) => oV (vD τ kvs)) ma) (hb : EvB T C Γ b τk mb) : EvO T C Γ (.ix a b) (fun x => oV (τ x)) (ma >>= fun kvs => mb >>= fun k => getR (dget kvs k)) := fun W σ B H Q g z => by
  show (rd T C a W).E σ H _
  refine ha W σ B H _ g (rz_imp (rz_bind.mp z) (fun kvs z v B1 H1 g1 ⟨fp, ⟨⟨nd, p, vs, hv, h2, h3⟩, _⟩, _, _⟩ => ?_) fun _ z => z)
  subst hv
  refine hb W σ B1 H1 _ (g.up g1.b g1.h g1.s) (rz_imp (rz_bind.mp z) (fun k z w B2 H2 g2 p2 => ?_) fun _ z => z.up g1.h)
  rcases drel_get k (h3.mono g2.b) with ⟨e1, e2⟩ | ⟨v', x, e1, e2, r⟩
  · rw [e2] at z; exact z.elim
  · rw [e2] at z
    exact .inr ⟨p, v', rfl, .inl ⟨vs, KeyC.kk k, sm_rd (sm_trans g2.b g2.s) h2, KeyV.kv k H2 w p2, e1.symm⟩, z v' B2 H2 (g1.trans g2) ⟨[], ⟨r, rfl⟩, List.nodup_nil, fun _ z => nomatch z⟩⟩
theorem ev_ixDFP [KeyC κ] [DecidableEq κ] {a b : E} {τk : κ → Vw} [KeyV κ τk] {τ : α → Vw} {x : List (κ × α)} {y : κ} (ha : EvO T C Γ a (fun kvs : List (κ × α) => oV (vD τ kvs)) (.ok x)) (hb : EvB T C Γ b τk (.ok y)) : EvO T C Γ (.ix a b) (fun x => oV (τ x)) (getR (dget x y)) := ev_ixDF ha hb
theorem ev_ixDFL [KeyC κ] [DecidableEq κ] {a b : E} {τk : κ → Vw} [KeyV κ τk] {τ : α → Vw} {x : List (κ × α)} {mb : Res κ} (ha : EvO T C Γ a (fun kvs : List (κ × α) => oV (vD τ kvs)) (.ok x)) (hb : EvB T C Γ b τk mb) : EvO T C Γ (.ix a b) (fun x => oV (τ x)) (mb >>= fun k => getR (dget x k)) := ev_ixDF ha hb
theorem ev_ixDFR [KeyC κ] [DecidableEq κ] {a b : E} {τk : κ → Vw} [KeyV κ τk] {τ : α → Vw} {ma : Res (List (κ × α))} {y : κ} (ha : EvO T C Γ a (fun kvs : List (κ × α) => oV (vD τ kvs)) ma) (hb : EvB T C Γ b τk (.ok y)) : EvO T C Γ (.ix a b) (fun x => oV (τ x)) (ma >>= fun kvs => getR (dget kvs y)) := ev_ixDF ha hb
/-- a test that is a call which changes what it is lent -/
theorem tx_call {ν ρ ξ β0 : Type} {D : Ds ν β0 ρ ξ} {i : Nat} {es : E} {us : List V} {xs : List Ow} {back : List Ow → Cx0} {sh : List Bool} {own : ι → List Ow} {own' : ι' → List Ow} {ownX : η → List Ow} {s : ι} {ws : κ' → List Vw} {os : κ → List Vw} {f : κ' → ι → Out Unit Unit (Bool × ι') η} {g : κ → κ'} {dv : List V} {wd : List Vw} {m : Res κ} {x0 : ξ} {x1 : η → ξ} {Γ' : ι' → Cx0} {K : Bool → ι' → Out ν β0 ρ ξ}
    (hf : FnG C (T.f i) sh ws own own' ownX (fun b : Bool => oV (vBl b)) f) (ln : Ln T C Γ us xs back) (hx : xs = own s)
    (har : elen es ≤ (T.f i).ar ∧ (T.f i).ar ≤ elen es + (T.f i).dfl.length) (hdv : (T.f i).dfl.drop (elen es + (T.f i).dfl.length - (T.f i).ar) = dv) (hwd : ∀ H, VwL H dv wd) (hg : ∀ k, mkW sh us (ws (g k)) = os k ++ wd)
    (h : EvLO T C Γ es (fun k => (os k).map oV) (fun k => Res.ok k) m) (w : Cv Γ (D.x x0)) (w1 : ∀ s', Cv (back (ownX s')) (D.x (x1 s'))) (hG : ∀ s', back (own' s') = Γ' s') :
    TX T C D Γ (.call i es) Γ' K (m.to x0 fun k => (f (g k) s).mth x1 K) :=
  tx_x (bf := fun z : Bool × ι' => z.1) (sf := fun z => z.2) (evx_call (K := K) hf ln hx har hdv hwd hg h w w1) (fun _ => rfl) (fun y => hG y.2)
theorem tx_mth1 {ν ρ ξ β0 : Type} {D : Ds ν β0 ρ ξ} {a es : E} {mt : Str} {cls : List Nat} {c : Nat} {sh : List Bool} {fs : ι → List (Str × Ow)} {s : ι} {put : Ow → Cx0} {pt : ι → Cx0} {ws : κ' → List Vw} {os : κ → List Vw} {f : κ' → ι → Out Unit Unit (Bool × ι) ι} {g : κ → κ'} {dv : List V} {wd : List Vw} {m : Res κ} {x0 : ξ} {x1 : ι → ξ} {Γ' : ι → Cx0} {K : Bool → ι → Out ν β0 ρ ξ}
    {iR : Nat} (hmt : T.mt c mt = iR) (hf : FnG C (T.f iR) (true :: sh) ws (fun s => [oIn C c (fs s)]) (fun s => [oIn C c (fs s)]) (fun s => [oIn C c (fs s)]) (fun b : Bool => oV (vBl b)) f) (hp : Pl T C Γ (some a) (fun s => oIn C c (fs s)) s put pt) (hc : c ∈ cls) (hno : ((fs s).map (·.1)).contains mt = false)
    (har : elen es + 1 ≤ (T.f iR).ar ∧ (T.f iR).ar ≤ elen es + 1 + (T.f iR).dfl.length) (hdv : (T.f iR).dfl.drop (elen es + 1 + (T.f iR).dfl.length - (T.f iR).ar) = dv) (hwd : ∀ H, VwL H dv wd) (hg : ∀ k, mkW sh [] (ws (g k)) = os k ++ wd)
    (h : EvLO T C Γ es (fun k => (os k).map oV) (fun k => Res.ok k) m) (w : Cv Γ (D.x x0)) (w1 : ∀ s', Cv (pt s') (D.x (x1 s'))) (hG : ∀ s', pt s' = Γ' s') :
    TX T C D Γ (.mth cls a mt es) Γ' K (m.to x0 fun k => (f (g k) s).mth x1 K) :=
  tx_x (bf := fun z : Bool × ι => z.1) (sf := fun z => z.2) (evx_mth1 (K := K) hmt hf hp hc hno har hdv hwd hg h w w1) (fun _ => rfl) (fun y => hG y.2)
/-- isinstance(x, C), x made by C itself -/
theorem ev_isC {a : E} {n : Nat} {ws : α → List (Str × Vw)} {m : Res α} (h : EvB T C Γ a (fun x => vIn C n (ws x)) m) : EvB T C Γ (.isC a n) vBl (m >>= fun _ => .ok true) := fun W σ B H Q g z => by
  refine h W σ B H _ g (rz_imp (rz_bind.mp z) (fun x z v B1 H1 g1 p1 => ?_) fun _ z => z)
  obtain ⟨p, dx, vs, rfl, h3, h4⟩ := p1
  exact ⟨p, dx, vs, rfl, h3, z (.bl true) B1 H1 g1 rfl⟩
theorem ev_isCP {a : E} {n : Nat} {ws : α → List (Str × Vw)} {x : α} (h : EvB T C Γ a (fun x => vIn C n (ws x)) (.ok x)) : EvB T C Γ (.isC a n) vBl (.ok true) := ev_isC h
end
section
variable {T : Tb} {C : Kc} {Γ : Cx0}
/-- the items of xs at ks -/
def ksR (xs : List Str) : List Int → Res (List Str)
  | [] => .ok []
  | k :: ks => ixR xs k >>= fun n => ksR xs ks >>= fun ns => .ok (n :: ns)
theorem dd_pairs {a : E} {xs : List Str} {z : Int} (ha : EvB T C Γ a (vL C vStr) (.ok xs)) (W : WX) (σ : L2.St) : ∀ (ks : List Int) (ns : List Str) (B H : Hp) (Q : List (V × V) → Hp → Prop), ksR xs ks = .ok ns → EnvC Γ σ B H →
    (∀ B' H', Gon B H B' H' → Q (ns.map fun n => (V.str n, V.int z)) H') → tPairs (ks.map fun k => (tOp (rIxA C.K) (rd T C a W).E (tC (.int k)), tC (.int z))) σ H Q
  | [], ns, B, H, Q, e, g, q => by
    cases e
    exact q B H (.refl g.sub)
  | k :: ks, ns, B, H, Q, e, g, q => by
    unfold ksR at e
    cases h1 : ixR xs k with
    | bad => rw [h1] at e; cases e
    | exc x => rw [h1] at e; cases e
    | ok n =>
      rw [h1] at e
      cases h2 : ksR xs ks with
      | bad => rw [ok_bindN, h2] at e; cases e
      | exc x => rw [ok_bindN, h2] at e; cases e
      | ok ms =>
        rw [ok_bindN, h2] at e
        cases e
        have hk : EvB T C Γ (.ix a (.int k)) vStr (ixR xs k) := ev_ixP ha (ev_int k) op_ixL
        show (rd T C (.ix a (.int k)) W).E σ H _
        refine hk W σ B H _ g ?_
        rw [h1]
        intro v B1 H1 g1 p1
        have p1 : v = .str n := p1
        subst p1
        show tPairs _ σ H1 _
        refine dd_pairs ha W σ ks ms B1 H1 _ h2 (g.up g1.b g1.h g1.s) fun B' H' g2 => ?_
        exact q B' H' (g1.trans g2)
theorem dd_own {z : Int} {B H : Hp} : ∀ (ns : List Str) (vs : List (Key × V)) (kvs : List (Str × Int)), (kvs.map (·.1)).Nodup → OwF B H vs (dO (fun x : Int => oV (vInt x)) kvs) [] →
    (((ns.foldl (fun d n => dput d n z) kvs).map (·.1)).Nodup ∧ OwF B H (mergeK vs (ns.map fun n => (KeyC.kk n, V.int z))) (dO (fun x : Int => oV (vInt x)) (ns.foldl (fun d n => dput d n z) kvs)) [])
  | [], vs, kvs, nd, h => ⟨nd, h⟩
  | n :: ns, vs, kvs, nd, h => by
    obtain ⟨f', d, h1, h2⟩ := owf_put (B' := B) (H' := H) (k := n) (y := z) (u := .int z) (fq := []) h nd (sm_refl _) (fun _ _ => rfl) ⟨rfl, rfl⟩
    have : f' = [] := by
      have := h2.length_eq
      simp at this
      exact this.1
    subst this
    exact dd_own ns _ _ (nodup_dput nd) h1
/-- {x[k]: z, ..} -/
theorem ev_dd0 {a : E} {xs : List Str} {z : Int} {ks : List Int} (h15 : ks.length ≤ 15) (ha : EvB T C Γ a (vL C vStr) (.ok xs)) : EvO T C Γ (.dd0 a ks z) (fun kvs : List (Str × Int) => oDO (fun x : Int => oV (vInt x)) kvs) (ksR xs ks >>= fun ns => .ok (ns.foldl (fun d n => dput d n z) [])) := fun W σ B H Q c q => fun p hp => by
  have hpB := none_back c.sub hp
  cases h : ksR xs ks with
  | bad => rw [h] at q; exact q.elim
  | exc x =>
    exfalso
    have : ∀ ks : List Int, ∀ x, ksR xs ks ≠ .exc x := fun ks => by
      induction ks with
      | nil => exact fun x z => by cases z
      | cons k ks ih =>
        intro x z
        unfold ksR at z
        cases h1 : ixR xs k with
        | bad => rw [h1] at z; cases z
        | exc y => exact nox_get _ h1
        | ok n =>
          rw [h1, ok_bindN] at z
          cases h2 : ksR xs ks with
          | bad => rw [h2] at z; cases z
          | exc y => exact ih y h2
          | ok ms => rw [h2] at z; cases z
    exact this ks x h
  | ok ns =>
    rw [h] at q
    have hl : ns.length = ks.length := by
      clear q hp hpB c h15
      induction ks generalizing ns with
      | nil => cases h; rfl
      | cons k ks ih =>
        unfold ksR at h
        cases h1 : ixR xs k with
        | bad => rw [h1] at h; cases h
        | exc y => rw [h1] at h; cases h
        | ok n =>
          rw [h1, ok_bindN] at h
          cases h2 : ksR xs ks with
          | bad => rw [h2] at h; cases h
          | exc y => rw [h2] at h; cases h
          | ok ms => rw [h2] at h; cases h; rw [List.length_cons, List.length_cons, ih ms h2]
    have g0 : Gon B H B (upd H p (.dK [])) := .up c.sub (sm_new hp)
    refine dd_pairs ha W σ ks ns B (upd H p (.dK [])) _ h (c.up (sm_refl _) (sm_new hp) (sm_trans c.sub (sm_new hp))) fun B' H' g => ?_
    have hp' : H' p = some (.dK []) := g.h _ _ upd_same
    refine ⟨hp', ns.map fun n => (KeyC.kk n, V.int z), by rw [List.map_map]; rfl, by rw [List.length_map]; omega, ?_⟩
    have hB' : B' p = none := newB_none g.n hpB (by rw [upd_same]; rfl) (by
      intro o ho
      rw [upd_same] at ho
      cases ho
      rfl)
    have gg := g0.trans g
    obtain ⟨nd, ow⟩ := dd_own (z := z) (B := B') (H := upd H' p (.dK (mergeK [] (ns.map fun n => (KeyC.kk n, V.int z))))) ns [] [] List.nodup_nil ⟨rfl, rfl⟩
    exact q (.ref p) B' _ ⟨gg.b, fun a o e => by
      have ne : a ≠ p := fun z => by rw [z, hp] at e; cases e
      rw [upd_ne ne]
      exact gg.h a o e, fun a o e => by
      have ne : a ≠ p := fun z => by rw [z, hB'] at e; cases e
      rw [upd_ne ne]
      exact gg.s a o e, gg.n⟩ ⟨[p], ⟨nd, p, _, [], rfl, upd_same, ow, rfl⟩, by simp, fun a ha => by
      rw [List.mem_singleton.mp ha]; exact ⟨hp, hB'⟩⟩
end
end Q
/-! Q47: sorted texts; sorted(set(texts)). -/
namespace Q
open PySem L2 PySem.Spec
/-! ### the order of texts -/
def ltT (a b : Str) : Bool := ltCps a.cps.toList b.cps.toList
theorem ltT_iff (a b : Str) : ltT a b = true ↔ a.cps.toList < b.cps.toList := by
  unfold ltT
  rw [PyProof.Rows.ltCps_eq, decide_eq_true_iff]
theorem ltT_irrefl (a : Str) : ltT a a = false := by
  cases h : ltT a a with
  | false => rfl
  | true => exact absurd ((ltT_iff a a).mp h) (List.lt_irrefl _)
theorem ltT_trans {a b c : Str} (h : ltT a b = true) (k : ltT b c = true) : ltT a c = true :=
  (ltT_iff a c).mpr (List.lt_trans ((ltT_iff a b).mp h) ((ltT_iff b c).mp k))
theorem ltT_asymm {a b : Str} (h : ltT a b = true) : ltT b a = false := by
  cases k : ltT b a with
  | false => rfl
  | true => have := ltT_trans h k; rw [ltT_irrefl] at this; cases this
theorem ltT_tri {a b : Str} (h : ltT a b = false) (k : ltT b a = false) : a = b := by
  have h1 : ¬ a.cps.toList < b.cps.toList := fun z => by rw [(ltT_iff a b).mpr z] at h; cases h
  have h2 : ¬ b.cps.toList < a.cps.toList := fun z => by rw [(ltT_iff b a).mpr z] at k; cases k
  have e : a.cps.toList = b.cps.toList := List.le_antisymm h2 h1
  rw [← tS_tl a, ← tS_tl b, e]
/-- a is not behind b -/
def leT (a b : Str) : Prop := ltT b a = false
theorem leT_trans {a b c : Str} (h : leT a b) (k : leT b c) : leT a c := by
  unfold leT at *
  cases q : ltT c a with
  | false => rfl
  | true =>
    by_cases e : a = b
    · subst e; rw [k] at q; cases q
    · have : ltT a b = true := by
        cases z : ltT a b with
        | true => rfl
        | false => exact absurd (ltT_tri z h) e
      have := ltT_trans q this
      rw [k] at this; cases this
theorem leT_total {a b : Str} (h : ¬ leT a b) : leT b a := by
  unfold leT at *
  cases q : ltT b a with
  | false => exact absurd q h
  | true => exact ltT_asymm q
theorem leT_anti {a b : Str} (h : leT a b) (k : leT b a) : a = b := ltT_tri k h
theorem sortedS_pw : ∀ {l : List Str}, PyProof.Rows.sortedS l = true → l.Pairwise leT
  | [], _ => .nil
  | [x], _ => List.pairwise_singleton _ _
  | x :: y :: l, h => by
    have h : (!ltCps y.cps.toList x.cps.toList && PyProof.Rows.risingS y l) = true := h
    rw [Bool.and_eq_true, Bool.not_eq_true'] at h
    have ih := sortedS_pw (l := y :: l) h.2
    obtain ⟨h1, h2⟩ := List.pairwise_cons.mp ih
    have xy : leT x y := h.1
    refine List.pairwise_cons.mpr ⟨fun z hz => ?_, ih⟩
    rcases List.mem_cons.mp hz with e | hz
    · rw [e]; exact xy
    · exact leT_trans xy (h1 z hz)
def insT (x : Str) : List Str → List Str
  | [] => [x]
  | y :: l => cond (ltT y x) (y :: insT x l) (x :: y :: l)
/-- sorted texts -/
def sortS : List Str → List Str
  | [] => []
  | x :: l => insT x (sortS l)
theorem insT_perm (x : Str) : ∀ l, (insT x l).Perm (x :: l)
  | [] => .refl _
  | y :: l => by
    unfold insT
    cases ltT y x with
    | true => exact ((insT_perm x l).cons y).trans (.swap x y l)
    | false => exact .refl _
theorem sortS_perm : ∀ l, (sortS l).Perm l
  | [] => .refl _
  | x :: l => (insT_perm x _).trans ((sortS_perm l).cons x)
theorem insT_sorted (x : Str) : ∀ l : List Str, l.Pairwise leT → (insT x l).Pairwise leT
  | [], _ => by simp [insT]
  | y :: l, h => by
    obtain ⟨h1, h2⟩ := List.pairwise_cons.mp h
    unfold insT
    cases q : ltT y x with
    | true =>
      refine List.pairwise_cons.mpr ⟨fun z hz => ?_, insT_sorted x l h2⟩
      rcases List.mem_cons.mp ((insT_perm x l).mem_iff.mp hz) with e | hz
      · rw [e]; exact ltT_asymm q
      · exact h1 z hz
    | false =>
      refine List.pairwise_cons.mpr ⟨fun z hz => ?_, h⟩
      rcases List.mem_cons.mp hz with e | hz
      · rw [e]; exact q
      · exact leT_trans q (h1 z hz)
theorem sortS_sorted : ∀ l : List Str, (sortS l).Pairwise leT
  | [] => .nil
  | x :: l => insT_sorted x _ (sortS_sorted l)
theorem sortS_uniq : ∀ {l m : List Str}, l.Perm m → l.Pairwise leT → m.Pairwise leT → l = m
  | [], m, p, _, _ => by rw [List.nil_perm.mp p]
  | x :: l, [], p, _, _ => by have := p.length_eq; simp at this
  | x :: l, y :: m, p, h, h' => by
    obtain ⟨h1, h2⟩ := List.pairwise_cons.mp h
    obtain ⟨h3, h4⟩ := List.pairwise_cons.mp h'
    have e : x = y := by
      rcases List.mem_cons.mp (p.mem_iff.mpr List.mem_cons_self) with e | a
      · exact e.symm
      · rcases List.mem_cons.mp (p.mem_iff.mp List.mem_cons_self) with e | b
        · exact e
        · exact leT_anti (h1 y a) (h3 x b)
    subst e
    rw [sortS_uniq (p.cons_inv) h2 h4]
theorem sortS_len (l : List Str) : (sortS l).length = l.length := (sortS_perm l).length_eq
theorem sortS_mem {l : List Str} {x : Str} : x ∈ sortS l ↔ x ∈ l := (sortS_perm l).mem_iff
/-- each text once -/
def dedS : List Str → List Str
  | [] => []
  | x :: l => cond (decide (x ∈ l)) (dedS l) (x :: dedS l)
theorem dedS_mem {x : Str} : ∀ {l : List Str}, x ∈ dedS l ↔ x ∈ l
  | [] => Iff.rfl
  | y :: l => by
    unfold dedS
    by_cases h : y ∈ l
    · rw [decide_eq_true h, cond_true, dedS_mem, List.mem_cons]
      exact ⟨.inr, fun z => z.elim (fun e => by rw [e]; exact h) id⟩
    · rw [decide_eq_false h, cond_false, List.mem_cons, List.mem_cons, dedS_mem]
theorem dedS_nd : ∀ l : List Str, (dedS l).Nodup
  | [] => List.nodup_nil
  | y :: l => by
    unfold dedS
    by_cases h : y ∈ l
    · rw [decide_eq_true h]; exact dedS_nd l
    · rw [decide_eq_false h]
      exact List.nodup_cons.mpr ⟨fun z => h (dedS_mem.mp z), dedS_nd l⟩
/-- sorted(set(l)) -/
def sset (l : List Str) : List Str := sortS (dedS l)
theorem sset_mem {l : List Str} {x : Str} : x ∈ sset l ↔ x ∈ l := sortS_mem.trans dedS_mem
theorem sset_nd (l : List Str) : (sset l).Nodup := (sortS_perm _).nodup_iff.mpr (dedS_nd l)
theorem sset_sorted (l : List Str) : (sset l).Pairwise leT := sortS_sorted _
/-- two sorted rows of the same texts, each once, are the same -/
theorem nd_perm : ∀ {l m : List Str}, l.Nodup → m.Nodup → (∀ x, x ∈ l ↔ x ∈ m) → l.Perm m := fun {l m} h k e => List.perm_iff_count.mpr fun a => by
  by_cases z : a ∈ l
  · rw [List.Nodup.count h, List.Nodup.count k, if_pos z, if_pos ((e a).mp z)]
  · rw [List.count_eq_zero.mpr z, List.count_eq_zero.mpr fun y => z ((e a).mpr y)]
theorem sset_uniq {l m : List Str} (h : l.Nodup) (s : l.Pairwise leT) (e : ∀ x, x ∈ l ↔ x ∈ m) : l = sset m :=
  sortS_uniq (nd_perm h (sset_nd m) fun x => (e x).trans sset_mem.symm) s (sset_sorted m)
section
variable {T : Tb} {C : Kc} {Γ : Cx0} {α : Type}
theorem bl_sortS : Op1 (fun v H Q => rBlt C.K .sorted [v] H Q) (vL C vStr) (pO (oL C fun x => oV (vStr x))) fun xs => gd (decide (xs.length < 64)) (.ok (sortS xs)) where
  no := fun _ => nox_gd nox_ok
  run := fun x B H v Q s ⟨p, vs, h1, h2, h3⟩ q => by
    rw [vl_strs h3] at h2
    refine .inl (.inr ⟨p, x, by rw [h1], h2, of_decide_eq_true (say_gd q).1, fun ns' l pm pw hl => ?_⟩)
    have e : ns' = sortS x := sortS_uniq (pm.trans (sortS_perm x).symm) (sortedS_pw pw) (sortS_sorted x)
    rw [e]
    exact say_new (C := C) s rfl (say_gd q).2 (owl_strs _) l hl
theorem ev_sset {a : E} {ma : Res (List Str)} (ha : EvO T C Γ a (fun xs => oV (vL C vStr xs)) ma) : EvO T C Γ (.sset a) (oL C fun x => oV (vStr x)) (ma >>= fun xs => gd (decide (xs.length < 64)) (.ok (sset xs))) := fun W σ B H Q g z => by
  show (rd T C a W).E σ H _
  refine ha W σ B H _ g (rz_imp (rz_bind.mp z) (fun xs z v B1 H1 g1 ⟨fp, ⟨⟨p, vs, hv, h2, h3⟩, _⟩, _, _⟩ => ?_) fun _ z => z)
  obtain ⟨z1, z2⟩ := rz_gd.mp z
  have h3 := vl_strs h3
  subst h3
  refine ⟨p, xs, hv, sm_sqL g1.s h2, of_decide_eq_true z1, fun ys q hnd hm hs hq => ?_⟩
  have e : ys = sset xs := sset_uniq hnd (sortedS_pw hs) hm
  rw [e]
  have ho := owl_strs (B := B1) (H := H1) (sset xs)
  obtain ⟨k1, k2, k3, k4⟩ := new_ls (C := C) g1.s hq ho
  exact z2 (.ref q) B1 _ (g1.trans k1) ⟨[q], k2, k3, fun b hb => ⟨none_back g1.h (k4 b hb).1, (k4 b hb).2⟩⟩
theorem ev_ssetP {a : E} {xs : List Str} (ha : EvO T C Γ a (fun xs => oV (vL C vStr xs)) (.ok xs)) : EvO T C Γ (.sset a) (oL C fun x => oV (vStr x)) (gd (decide (xs.length < 64)) (.ok (sset xs))) := ev_sset ha
end
/-! ### place.insert(j, y) -/
theorem OwL.split {B H : Hp} : ∀ {os : List Ow} {vs : List V} {f : List Addr} (n : Nat), OwL B H vs os f → ∃ f1 f2, f = f1 ++ f2 ∧ OwL B H (vs.take n) (os.take n) f1 ∧ OwL B H (vs.drop n) (os.drop n) f2
  | os, vs, f, 0, h => ⟨[], f, rfl, by rw [List.take_zero, List.take_zero]; rfl, by rw [List.drop_zero, List.drop_zero]; exact h⟩
  | [], [], f, n + 1, h => ⟨[], f, rfl, by rw [List.take_nil, List.take_nil]; rfl, by rw [List.drop_nil, List.drop_nil]; exact h⟩
  | o :: os, v :: vs, f, n + 1, ⟨f1, g, e, h1, h2⟩ => by
    obtain ⟨g1, g2, e2, h3, h4⟩ := OwL.split n h2
    exact ⟨f1 ++ g1, g2, by rw [e, e2, List.append_assoc], ⟨f1, g1, rfl, h1, h3⟩, h4⟩
section
variable {T : Tb} {cs : List Nat} {C : Kc} {Γ : Cx0} {α ν β ρ ξ : Type}
theorem p_ins {D : Ds ν β ρ ξ} {pe ej e : E} {s : S} {τ : α → Ow} {xs : List α} {put : Ow → Cx0} {pt : List α → Cx0} {mj : Res Int} {m : Res α} {x0 : ξ} {k : Int → α → Out ν β ρ ξ} (hp : Pl T C Γ (some pe) (oL C τ) xs put pt) (hj : EvB T C Γ ej vInt mj) (h : EvO T C Γ e τ m) (w : Cv Γ (D.x x0))
    (hs : ∀ j y, Blk T cs C D (pt (xs.take j.toNat ++ [y] ++ xs.drop j.toNat)) s (k j y)) : Blk T cs C D Γ (.seq (.exp (.bm .lIns pe (.cons ej (.cons e .nil)))) s) (mj.to x0 fun j => m.to x0 fun y => gdO (decide (xs.length < sizeLine) && decide (0 ≤ j) && decide (j < 2 ^ 63)) (k j y)) := fun W E σ B Z H fp o p => by
  show (rd T C pe W).E σ H _
  obtain ⟨u, fx, q1, ⟨l, vs, f0, rfl, hl, ho, rfl⟩, q3, q4, q5⟩ := hp.chg o
  refine q1 pe rfl W _ B H (.refl o.b) fun Ba Ha ga0 => ⟨.inl ⟨rfl, vs, .inl (.inl (ga0.h _ _ hl))⟩, ?_⟩
  show (rd T C ej W).E σ Ha _
  refine evO_post (ev_flat hj) w (o.gon ga0) (p.up (ga0.gz o.z)) fun j v0 B0 H0 fq0 gg r0 n0 f00 o0 p0 => ?_
  obtain ⟨rj, rfl⟩ := r0
  have rj : v0 = .int j := rj
  subst rj
  have ga := ga0.trans gg
  show (rd T C e W).E σ H0 _
  refine evO_post h w o0 p0 fun y v B1 H1 fq g1' r n f o1 p1 => ?_
  have g1 := ga.trans g1'
  cases hz : (decide (xs.length < sizeLine) && decide (0 ≤ j) && decide (j < 2 ^ 63)) with
  | false => rw [hz] at p1; exact p1.elim
  | true =>
    rw [hz] at p1
    simp only [Bool.and_eq_true, decide_eq_true_eq] at hz
    have ln := ho.len
    rw [List.length_map] at ln
    have al : ∀ a ∈ l :: f0, (H a).isSome = true := fun a ha => by
      rcases List.mem_cons.mp ha with rfl | ha
      · rw [hl]; rfl
      · exact OwL.al ho a ha
    have hl1 : H1 l = some (.lst vs) := g1.h l _ hl
    have nf : ∀ a ∈ fq, a ∉ l :: f0 := fun a ha z => by
      have h1 := al a z
      rw [none_back ga.h (f a ha).1] at h1; cases h1
    obtain ⟨m1, m2⟩ := List.nodup_cons.mp q3
    obtain ⟨fa, fb, rfl, ha1, hb1⟩ := OwL.split j.toNat ho
    have up : ∀ a, a ≠ l → upd H1 l (.lst (vs.take j.toNat ++ [v] ++ vs.drop j.toNat)) a = H1 a := fun a ha => upd_ne ha
    have old : ∀ a ∈ fa ++ fb, upd H1 l (.lst (vs.take j.toNat ++ [v] ++ vs.drop j.toNat)) a = H a := fun a ha => by
      rw [up a (fun z => m1 (z ▸ ha))]
      obtain ⟨w', hw⟩ := Option.isSome_iff_exists.mp (OwL.al ho a ha)
      rw [hw, g1.h a w' hw]
    obtain ⟨d1, d2, d3⟩ := List.nodup_append.mp m2
    obtain ⟨fp', o2⟩ := q5 B1 H1 g1 (oL C τ (xs.take j.toNat ++ [y] ++ xs.drop j.toNat)) (upd H1 l (.lst (vs.take j.toNat ++ [v] ++ vs.drop j.toNat))) (l :: (fa ++ fq ++ fb)) ⟨l, vs.take j.toNat ++ [v] ++ vs.drop j.toNat, fa ++ fq ++ fb, rfl, upd_same, by
        show OwL _ _ _ ((xs.take j.toNat ++ [y] ++ xs.drop j.toNat).map τ) _
        rw [List.map_append, List.map_append, List.map_take, List.map_drop]
        refine OwL.append (OwL.append (OwL.mono g1.b (fun a ha => old a (List.mem_append_left _ ha)) ha1) ⟨fq, [], by simp, (τ y).mono (sm_refl _) (fun a ha => up a fun z => nf a ha (by rw [z]; exact List.mem_cons_self)) r, rfl⟩) (OwL.mono g1.b (fun a ha => old a (List.mem_append_right _ ha)) hb1), rfl⟩ (by
        refine List.nodup_cons.mpr ⟨fun z => ?_, ?_⟩
        · rcases List.mem_append.mp z with z | z
          · rcases List.mem_append.mp z with z | z
            · exact m1 (List.mem_append_left _ z)
            · exact nf l z List.mem_cons_self
          · exact m1 (List.mem_append_right _ z)
        · refine List.nodup_append.mpr ⟨List.nodup_append.mpr ⟨d1, n, fun a ha b hb e => nf b hb (by rw [← e]; exact List.mem_cons_of_mem _ (List.mem_append_left _ ha))⟩, d2, fun a ha b hb e => ?_⟩
          rcases List.mem_append.mp ha with ha | ha
          · exact d3 a ha b hb e
          · exact nf a ha (by rw [e]; exact List.mem_cons_of_mem _ (List.mem_append_right _ hb)))
      (fun a ha _ => up a fun z => ha (by rw [z]; exact List.mem_cons_self)) (fun a ha => by
        rcases List.mem_cons.mp ha with rfl | ha
        · exact .inl List.mem_cons_self
        · rcases List.mem_append.mp ha with ha | ha
          · rcases List.mem_append.mp ha with ha | ha
            · exact .inl (List.mem_cons_of_mem _ (List.mem_append_left _ ha))
            · exact .inr (o.fresh (none_back ga.h (f a ha).1) (f a ha).2)
          · exact .inl (List.mem_cons_of_mem _ (List.mem_append_right _ ha)))
    rw [hp.eq] at o2
    exact ⟨l, vs, j, v, rfl, rfl, hl1, by rw [ln]; exact hz.1.1, hz.1.2, hz.2, hs j y W E σ B1 Z _ fp' o2 p1⟩
/-- a statement that is never reached -/
theorem b_stuck {D : Ds ν β ρ ξ} : Blk T cs C D Γ .stuck (.bad : Out ν β ρ ξ) := fun _ _ _ _ _ _ _ _ p => p
/-- tests: one that only reads, then a call that lends -/
theorem tx_exact {ι β' : Type} {D : Ds ν β ρ ξ} {t : E} {k : Bool → ι → Out ν β ρ ξ} {Γ' : ι → Cx0} {m : Out ν β ρ ξ} {oe : Option E} {τ : α → Ow} {x : α} {put : Ow → Cx0} {pt : α → Cx0} (h : Pl T C Γ oe τ x put pt) (hs : ∀ u, TX T C D (put (oQ (· = u) (τ x))) t Γ' k m) : TX T C D Γ t Γ' k m := fun W E σ B Z H fp Q o p q => by
  obtain ⟨u, fx, q1, q2, q3, q4, q5⟩ := h.chg o
  obtain ⟨fp', o'⟩ := q5 B H (.refl o.b) (oQ (· = u) (τ x)) H fx ⟨rfl, q2⟩ q3 (fun _ _ _ => rfl) (fun a ha => .inl ha)
  exact hs u W E σ B Z H fp' Q o' p q
/-- what follows in two places, once -/
def kap {κ α : Type} (K : κ) (g : κ → α) : α := g K
theorem x_ifLK {ι : Type} {D : Ds ν β ρ ξ} {t : E} {a r : S} {Γ' : ι → Cx0} {ma mr : ι → Out ν β ρ ξ} {g : (Bool → ι → Out ν β ρ ξ) → Out ν β ρ ξ} (h : TX T C D Γ t Γ' (fun c s => cond c (ma s) (mr s)) (g (fun c s => cond c (ma s) (mr s)))) (ht : a.trm = true) (ha : ∀ s, Blk T cs C D (Γ' s) a (ma s)) (hs : ∀ s, Blk T cs C D (Γ' s) r (mr s)) : Blk T cs C D Γ (.seq (.ife t a .nop) r) (kap (fun (c : Bool) (s : ι) => cond c (ma s) (mr s)) g) := x_ifL h ht ha hs
theorem tx_and2 {ι : Type} {D : Ds ν β ρ ξ} {t u : E} {Γ' : ι → Cx0} {k : Bool → ι → Out ν β ρ ξ} {m1 : Res Bool} {x0 : ξ} {s : ι} {mr : ι → Out ν β ρ ξ} (h : EvT T C (Γ' s) t m1) (w : Cv (Γ' s) (D.x x0)) (hr : ∀ s, TX T C D (Γ' s) u Γ' k (mr s)) : TX T C D (Γ' s) (.and (.cons t (.cons u .nil))) Γ' k (m1.to x0 fun b => cond b (mr s) (k false s)) :=
  tx_and (txa2 (k := k) (mr := mr) (tx_pure (k := fun b s => cond b (mr s) (k false s)) (s := s) h w rfl) fun s => txa1 (hr s))
end
end Q
namespace Q
open PySem L2 PySem.Spec
section
variable {T : Tb} {C : Kc} {Γ : Cx0} {β κ κ' ι ι' η : Type}
theorem owl_last {B H : Hp} {o : Ow} : ∀ {ws : List Vw} {vs : List V} {fq : List Addr}, OwL B H vs (ws.map oV ++ [o]) fq → ∃ va u, vs = va ++ [u] ∧ VwL B va ws ∧ o.rel B H u fq
  | [], [], _, h => h.elim
  | [], v :: vs, fq, ⟨f, g, e, h1, h2⟩ => by
    cases vs with
    | cons _ _ => exact h2.elim
    | nil =>
      have h2 : g = [] := h2
      subst h2
      rw [List.append_nil] at e
      subst e
      exact ⟨[], v, rfl, .nil, h1⟩
  | w :: ws, [], _, h => h.elim
  | w :: ws, v :: vs, fq, ⟨f, g, e, ⟨r, hf⟩, h2⟩ => by
    subst hf
    obtain ⟨va, u, e1, e2, e3⟩ := owl_last h2
    subst e
    exact ⟨v :: va, u, by rw [e1]; rfl, .cons r e2, e3⟩
/-- what a call gives, its errors not covered -/
def outB (m : Out Unit Unit (β × ι') η) : Res β := match m with
  | .rt z => .ok z.1
  | _ => .bad
theorem ev_unit {α : Type} {e : E} {τ : α → Ow} {x : α} (h : EvO T C Γ e τ (.ok x)) : EvO T C Γ e (fun _ : Unit => τ x) (.ok ()) := h
/-- a call whose last parameter is lent a new own thing, which is dropped behind -/
theorem ev_callFr {i : Nat} {es : E} {sh : List Bool} {ws : κ' → List Vw} {own : ι → List Ow} {own' : ι' → List Ow} {ownX : η → List Ow} {τ : β → Vw} [fl : Flat τ] {f : κ' → ι → Out Unit Unit (β × ι') η} {s : ι} {o : Ow} {g : κ → κ'} {os : κ → List Vw} {m : Res β}
    (hf : FnG C (T.f i) sh ws own own' ownX (fun y => oV (τ y)) f) (ho : own s = [o]) (hmk : ∀ u k, mkW sh [u] (ws (g k)) = os k ++ [vC u])
    (har : elen es ≤ (T.f i).ar ∧ (T.f i).ar ≤ elen es + (T.f i).dfl.length) (hdv : (T.f i).dfl.drop (elen es + (T.f i).dfl.length - (T.f i).ar) = [])
    (h : EvLO T C Γ es (fun k => (os k).map oV ++ [o]) (fun k => outB (f (g k) s)) m) : EvO T C Γ (.call i es) (fun y => oV (τ y)) m := fun W σ B H Q c z => by
  show rCall (T.f i) C (elen es) (WE W) (rd T C es W).L σ H Q
  unfold rCall
  rw [if_pos har, hdv]
  refine h W σ B H _ _ c z fun k vs B1 H1 fq g1 p1 nd fr z1 => ?_
  obtain ⟨va, u, rfl, hva, hu⟩ := owl_last p1
  rw [List.append_nil]
  have bn : ∀ a ∈ fq, B1 a = none := fun a ha => (fr a ha).2
  refine hf (g k) s [u] (va ++ [u]) B1 (allBut H1 fq) H1 fq Q (WE W σ) g1.s (allBut_same H1 fq) (by rw [hmk]; exact vwl_append hva (.cons rfl .nil)) (by rw [ho]; exact ⟨fq, [], by simp, hu, rfl⟩) nd (fun a ha => ⟨allBut_in ha, bn a ha⟩) ?_
  have z1 : Rz (outB (f (g k) s)) _ _ := z1
  cases e : f (g k) s with
  | nx x => rw [e] at z1; exact z1.elim
  | bk x => rw [e] at z1; exact z1.elim
  | ct x => rw [e] at z1; exact z1.elim
  | bad => rw [e] at z1; exact z1.elim
  | exc x y => rw [e] at z1; exact z1.elim
  | rt y =>
    rw [e] at z1
    intro v B' H' fp' gz b' z' r nd' fr'
    obtain ⟨f1, f2, e1, ⟨r1, e2⟩, r2⟩ := r
    have out : ∀ a, a ∉ fq → ∀ w, H1 a = some w → H' a = some w := fun a ha w hw => z' a w (by rw [allBut_out ha]; exact hw)
    refine z1 v B1 H' ⟨g1.b, fun a w hw => out a (fun ha => ?_) w (g1.h a w hw), fun a w hw => out a (fun ha => ?_) w (g1.s a w hw), g1.n⟩ ⟨[], ⟨fl.fl y.1 B' B1 v r1, rfl⟩, List.nodup_nil, fun _ z => nomatch z⟩
    · rw [(fr a ha).1] at hw; cases hw
    · rw [bn a ha] at hw; cases hw
end
end Q
namespace K41
open PySem L2 PySem.Spec Q
def sub (m n : Nat) : Bool := match m, n with
  | _, _ => false
def fnm : Nat → Str
  | 2 => "_law_cell_at"
  | 3 => "_law_names"
  | 4 => "_law_mix"
  | 1 => "_law_people"
  | 6 => "_law_shares"
  | 5 => "_law_good"
  | 9 => "shares_of"
  | 10 => "_law_whole"
  | 11 => "_law_held"
  | 12 => "all_shares"
  | 8 => "_law_counts"
  | 13 => "owners_of"
  | 14 => "_law_sorted_names"
  | 15 => "strangers_of"
  | 7 => "_law_told"
  | 0 => "law"
  | _ => ""
def cnm : Nat → Str
  | _ => ""
def gnm : Nat → Str
  | _ => ""
def cs : List Nat := []
def lw : Lw := ⟨cs, sub, [], fnm, cnm, [], gnm⟩
/-- what the typed proofs ask of the classes -/
structure Kf (C : Kc) : Prop where
  exm : ∀ m ∈ cs, ∀ n ∈ cs, PySem.W.exmOne C.K (.ref (C.cl m)) (.ref (C.cl n)) = some (sub m n)
theorem Kf.hx {C : Kc} (X : Kf C) (e : Option (Nat × Addr × Option Addr)) : Kf { C with ex := e } := ⟨X.exm⟩
abbrev tv0 (C : Kc) (x : ((List Str) × (List Str))) : Vw := vTup C [(vL C vStr) x.1, (vL C vStr) x.2]
abbrev to0 (C : Kc) (x : ((List Str) × (List Str))) : Ow := oTup C [oV ((vL C vStr) x.1), oV ((vL C vStr) x.2)]
instance {C : Kc} : OwV (to0 C) (tv0 C) := owv_tup fun _ => rfl
instance {C : Kc} : Ity C (tv0 C) "tuple" := ity_tup
instance {C : Kc} : NN (tv0 C) := ⟨fun x H v ⟨p, vs, h1, _⟩ z => by rw [h1] at z; cases z⟩
def tp0 (x : ((List Str) × (List Str))) : PyData := .tuple [(fun xs : (List Str) => PyData.list (xs.map PyData.str)) x.1, (fun xs : (List Str) => PyData.list (xs.map PyData.str)) x.2]
instance {C : Kc} : Pd C (tv0 C) tp0 := pd_tup fun x => pdl_cons (τ := (vL C vStr)) (pd := (fun xs : (List Str) => PyData.list (xs.map PyData.str))) (x := x.1) (pdl_cons (τ := (vL C vStr)) (pd := (fun xs : (List Str) => PyData.list (xs.map PyData.str))) (x := x.2) (pdl_nil))
abbrev tv1 (C : Kc) (x : (Str × Str × Int)) : Vw := vTup C [vStr x.1, vStr x.2.1, vInt x.2.2]
abbrev to1 (C : Kc) (x : (Str × Str × Int)) : Ow := oTup C [oV (vStr x.1), oV (vStr x.2.1), oV (vInt x.2.2)]
instance {C : Kc} : OwV (to1 C) (tv1 C) := owv_tup fun _ => rfl
instance {C : Kc} : Ity C (tv1 C) "tuple" := ity_tup
instance {C : Kc} : NN (tv1 C) := ⟨fun x H v ⟨p, vs, h1, _⟩ z => by rw [h1] at z; cases z⟩
instance {C : Kc} : VT (tv1 C) := vt_tup fun x => vtl_cons (τ := vStr) (x := x.1) (vtl_cons (τ := vStr) (x := x.2.1) (vtl_cons (τ := vInt) (x := x.2.2) (vtl_nil)))
def tp1 (x : (Str × Str × Int)) : PyData := .tuple [PyData.str x.1, PyData.str x.2.1, PyData.int x.2.2]
instance {C : Kc} : Pd C (tv1 C) tp1 := pd_tup fun x => pdl_cons (τ := vStr) (pd := PyData.str) (x := x.1) (pdl_cons (τ := vStr) (pd := PyData.str) (x := x.2.1) (pdl_cons (τ := vInt) (pd := PyData.int) (x := x.2.2) (pdl_nil)))
/-! _law_cell_at -/
def b2 : S := (.seq (.ife (.cmp .Lt (.var 1) (.blt .len (.cons (.var 0) .nil)))
  (.seq (.ret (.ix (.var 0) (.var 1)))
  .nop)
  .nop)
  (.seq (.ret (.int 0))
  .nop))
def c2 : Cn := ⟨["_law_script", "_law_k"], false, [], [], [], [], [], [], []⟩
def t2 : Nat → Q.Row
  | _ => dfR
def T2 : Tb := ⟨t2, fun _ _ => 0, fun _ => 0, sub⟩
def R2 : Q.Row := rowB lw T2 2 [] 2 b2
/-! _law_names -/
def b3 : S := (.seq (.asg 2 (.str "abcdefghijklmnopqrstuvwxyz"))
  (.seq (.asg 3 (.bin .Mod (.var 0) (.int 999983)))
  (.seq (.asg 4 (.lc [9] (.iR1 (.int 8)) .nil (.bin .Mod (.bin .Mod (.bin .Mult (.var 3) (.bin .Add (.bin .Mult (.var 9) (.var 9)) (.int 3))) (.int 7919)) (.int 26))))
  (.seq (.asg 5 (.bin .Add (.int 1) (.bin .Mod (.bin .FloorDiv (.var 3) (.int 3)) (.int 8))))
  (.seq (.asg 6 (.bin .Mod (.bin .FloorDiv (.var 3) (.int 24)) (.var 5)))
  (.seq (.asg 7 (.bin .Mod (.bin .FloorDiv (.var 3) (.int 5)) (.var 1)))
  (.seq (.asg 8 (.lst .nil))
  (.seq (.for [9] (.iR1 (.var 1))
  (.seq (.ife (.cmp .Eq (.bin .Mod (.var 3) (.int 3)) (.int 1))
  (.seq (.exp (.bm .lApp (.var 8) (.cons (.join "" (.lc [10] (.iR1 (.bin .Add (.var 9) (.int 1))) .nil (.ix (.var 2) (.ix (.var 4) (.var 10))))) .nil)))
  .nop)
  (.seq (.exp (.bm .lApp (.var 8) (.cons (.join "" (.lc [10] (.iR1 (.var 5)) .nil (.ix (.var 2) (.bin .Mod (.bin .Add (.ix (.var 4) (.var 10)) (.bin .Mult (.var 9) (.blt .int (.cons (.cmp .Eq (.var 10) (.var 6)) .nil)))) (.int 26))))) .nil)))
  .nop))
  .nop))
  (.seq (.ret (.bin .Add (.sl (.var 8) (.cons (.var 7) .nil) .nil) (.sl (.var 8) .nil (.cons (.var 7) .nil))))
  .nop)))))))))
def c3 : Cn := ⟨["_law_cell", "_law_many", "_law_letters", "_law_seed", "_law_base", "_law_size", "_law_at", "_law_turn", "_law_names_here", "_law_k", "_law_j"], false, [], [], [], [], [], [], []⟩
def t3 : Nat → Q.Row
  | _ => dfR
def T3 : Tb := ⟨t3, fun _ _ => 0, fun _ => 0, sub⟩
def R3 : Q.Row := rowB lw T3 2 [] 11 b3
/-! _law_mix -/
def b4 : S := (.seq (.ret (.bin .FloorDiv (.bin .Mod (.bin .Mult (.bin .Add (.bin .Mod (.var 0) (.int 2147483647)) (.int 17)) (.var 1)) (.int 2147483399)) (.int 97)))
  .nop)
def c4 : Cn := ⟨["_law_cell", "_law_by"], false, [], [], [], [], [], [], []⟩
def t4 : Nat → Q.Row
  | _ => dfR
def T4 : Tb := ⟨t4, fun _ _ => 0, fun _ => 0, sub⟩
def R4 : Q.Row := rowB lw T4 2 [] 2 b4
/-! _law_people -/
def b1 : S := (.seq (.asg 1 (.call 2 (.cons (.var 0) (.cons (.int 0) .nil))))
  (.seq (.asg 2 (.call 3 (.cons (.var 1) (.cons (.int 8) .nil))))
  (.seq (.asg 3 (.bin .Add (.int 1) (.bin .Mod (.call 4 (.cons (.var 1) (.cons (.int 40014) .nil))) (.int 4))))
  (.seq (.ife (.cmp .Eq (.bin .Mod (.call 4 (.cons (.var 1) (.cons (.int 69621) .nil))) (.int 8)) (.int 5))
  (.seq (.asg 3 (.int 6))
  .nop)
  .nop)
  (.seq (.asg 4 (.bin .Add (.int 1) (.bin .Mod (.call 4 (.cons (.var 1) (.cons (.int 39373) .nil))) (.blt .min (.cons (.int 3) (.cons (.bin .Sub (.int 8) (.var 3)) .nil))))))
  (.seq (.ret (.tup (.cons (.sl (.var 2) .nil (.cons (.var 3) .nil)) (.cons (.sl (.var 2) (.cons (.var 3) .nil) (.cons (.bin .Add (.var 3) (.var 4)) .nil)) .nil))))
  .nop))))))
def c1 : Cn := ⟨["_law_script", "_law_cell", "_law_names_here", "_law_many", "_law_some"], false, [2, 3, 4], [], [], [], [], [], []⟩
def t1 : Nat → Q.Row
  | 2 => R2
  | 3 => R3
  | 4 => R4
  | _ => dfR
def T1 : Tb := ⟨t1, fun _ _ => 0, fun _ => 0, sub⟩
def R1 : Q.Row := rowB lw T1 1 [] 5 b1
/-! _law_shares -/
def b6 : S := (.seq (.ife (.cmp .Eq (.bin .Mod (.var 0) (.int 2)) (.int 0))
  (.seq (.ret (.bin .Add (.bin .Mod (.bin .FloorDiv (.var 0) (.int 2)) (.int 9)) (.int 1)))
  .nop)
  .nop)
  (.seq (.ret (.bin .Add (.bin .Mod (.bin .Mult (.bin .FloorDiv (.var 0) (.int 2)) (.int 7919)) (.bin .Pow (.int 10) (.int 6))) (.int 1)))
  .nop))
def c6 : Cn := ⟨["_law_cell"], false, [], [], [], [], [], [], []⟩
def t6 : Nat → Q.Row
  | _ => dfR
def T6 : Tb := ⟨t6, fun _ _ => 0, fun _ => 0, sub⟩
def R6 : Q.Row := rowB lw T6 1 [] 1 b6
/-! _law_good -/
def b5 : S := (.seq (.asg 3 (.call 2 (.cons (.var 0) (.cons (.int 1) .nil))))
  (.seq (.asg 4 (.bin .Mod (.call 4 (.cons (.var 3) (.cons (.int 48271) .nil))) (.blt .len (.cons (.var 1) .nil))))
  (.seq (.asg 5 (.bin .Add (.sl (.var 1) (.cons (.var 4) .nil) .nil) (.sl (.var 1) .nil (.cons (.var 4) .nil))))
  (.seq (.asg 6 (.lst .nil))
  (.seq (.for [7] (.iR1 (.blt .len (.cons (.var 5) .nil)))
  (.seq (.asg 10 (.call 4 (.cons (.var 3) (.cons (.bin .Add (.int 30269) (.bin .Mult (.int 2) (.var 7))) .nil))))
  (.seq (.asg 11 (.ix (.var 2) (.bin .Mod (.var 10) (.blt .len (.cons (.var 2) .nil)))))
  (.seq (.ife (.and (.cons (.cmp .Gt (.var 7) (.int 0)) (.cons (.cmp .NotEq (.bin .Mod (.bin .FloorDiv (.var 10) (.int 7)) (.int 3)) (.int 0)) .nil)))
  (.seq (.asg 11 (.ix (.var 5) (.bin .Mod (.bin .FloorDiv (.var 10) (.int 21)) (.var 7))))
  .nop)
  .nop)
  (.seq (.exp (.bm .lApp (.var 6) (.cons (.tup (.cons (.var 11) (.cons (.ix (.var 5) (.var 7)) (.cons (.call 6 (.cons (.call 4 (.cons (.var 3) (.cons (.bin .Add (.int 40692) (.bin .Mult (.int 2) (.var 7))) .nil))) .nil)) .nil)))) .nil)))
  .nop)))))
  (.seq (.asg 8 (.sl (.var 0) (.cons (.int 4) .nil) (.cons (.int 52) .nil)))
  (.seq (.asg 9 (.bin .Add (.var 1) (.var 2)))
  (.seq (.for [7] (.iR1 (.bin .FloorDiv (.blt .len (.cons (.var 8) .nil)) (.int 2)))
  (.seq (.asg 10 (.ix (.var 8) (.bin .Mult (.int 2) (.var 7))))
  (.seq (.asg 11 (.ix (.var 9) (.bin .Mod (.call 4 (.cons (.var 10) (.cons (.int 48271) .nil))) (.blt .len (.cons (.var 9) .nil)))))
  (.seq (.asg 12 (.ix (.var 1) (.bin .Mod (.call 4 (.cons (.var 10) (.cons (.int 69621) .nil))) (.blt .len (.cons (.var 1) .nil)))))
  (.seq (.asg 13 (.bin .Mod (.call 4 (.cons (.var 10) (.cons (.int 16807) .nil))) (.bin .Add (.blt .len (.cons (.var 6) .nil)) (.int 1))))
  (.seq (.exp (.bm .lIns (.var 6) (.cons (.var 13) (.cons (.tup (.cons (.var 11) (.cons (.var 12) (.cons (.call 6 (.cons (.ix (.var 8) (.bin .Add (.bin .Mult (.int 2) (.var 7)) (.int 1))) .nil)) .nil)))) .nil))))
  .nop))))))
  (.seq (.ret (.var 6))
  .nop)))))))))
def c5 : Cn := ⟨["_law_script", "_law_firms", "_law_strangers", "_law_cell", "_law_turn", "_law_order", "_law_rows", "_law_k", "_law_cells", "_law_everyone", "_law_pick", "_law_holder", "_law_firm", "_law_at"], false, [2, 4, 6], [], [], [], [], [], []⟩
def t5 : Nat → Q.Row
  | 2 => R2
  | 4 => R4
  | 6 => R6
  | _ => dfR
def T5 : Tb := ⟨t5, fun _ _ => 0, fun _ => 0, sub⟩
def R5 : Q.Row := rowB lw T5 3 [] 14 b5
/-! shares_of -/
def b9 : S := (.seq (.ret (.blt .sum (.cons (.lc [3] (.iL (.var 0)) (.cons (.and (.cons (.cmp .Eq (.ix (.var 3) (.int 0)) (.var 1)) (.cons (.cmp .Eq (.ix (.var 3) (.int 1)) (.var 2)) .nil))) .nil) (.ix (.var 3) (.int 2))) .nil)))
  .nop)
def c9 : Cn := ⟨["rows", "holder", "firm", "row"], false, [], [], [], [], [], [], []⟩
def t9 : Nat → Q.Row
  | _ => dfR
def T9 : Tb := ⟨t9, fun _ _ => 0, fun _ => 0, sub⟩
def R9 : Q.Row := rowB lw T9 3 [] 4 b9
/-! _law_whole -/
def b10 : S := (.seq (.ret (.and (.cons (.isi (.var 0) "int") (.cons (.nt (.isi (.var 0) "bool")) .nil))))
  .nop)
def c10 : Cn := ⟨["_law_found"], false, [], [], [], [], [], [], []⟩
def t10 : Nat → Q.Row
  | _ => dfR
def T10 : Tb := ⟨t10, fun _ _ => 0, fun _ => 0, sub⟩
def R10 : Q.Row := rowB lw T10 1 [] 1 b10
/-! _law_held -/
def b11 : S := (.seq (.ret (.blt .sum (.cons (.lc [3] (.iL (.var 0)) (.cons (.and (.cons (.cmp .Eq (.ix (.var 3) (.int 0)) (.var 1)) (.cons (.cmp .Eq (.ix (.var 3) (.int 1)) (.var 2)) .nil))) .nil) (.ix (.var 3) (.int 2))) .nil)))
  .nop)
def c11 : Cn := ⟨["_law_rows", "_law_holder", "_law_firm", "_law_row"], false, [], [], [], [], [], [], []⟩
def t11 : Nat → Q.Row
  | _ => dfR
def T11 : Tb := ⟨t11, fun _ _ => 0, fun _ => 0, sub⟩
def R11 : Q.Row := rowB lw T11 3 [] 4 b11
/-! all_shares -/
def b12 : S := (.seq (.ret (.blt .sum (.cons (.lc [2] (.iL (.var 0)) (.cons (.cmp .Eq (.ix (.var 2) (.int 1)) (.var 1)) .nil) (.ix (.var 2) (.int 2))) .nil)))
  .nop)
def c12 : Cn := ⟨["rows", "firm", "row"], false, [], [], [], [], [], [], []⟩
def t12 : Nat → Q.Row
  | _ => dfR
def T12 : Tb := ⟨t12, fun _ _ => 0, fun _ => 0, sub⟩
def R12 : Q.Row := rowB lw T12 2 [] 3 b12
/-! _law_counts -/
def b8 : S := (.seq (.for [4] (.iL (.bin .Add (.var 0) (.lst (.cons (.var 3) .nil))))
  (.seq (.asg 5 (.int 0))
  (.seq (.for [6] (.iL (.bin .Add (.bin .Add (.var 0) (.var 1)) (.lst (.cons (.var 3) .nil))))
  (.seq (.asg 8 (.call 9 (.cons (.var 2) (.cons (.var 6) (.cons (.var 4) .nil)))))
  (.seq (.ife (.or (.cons (.nt (.call 10 (.cons (.var 8) .nil))) (.cons (.cmp .NotEq (.var 8) (.call 11 (.cons (.var 2) (.cons (.var 6) (.cons (.var 4) .nil))))) .nil)))
  (.seq (.ret (.bl false))
  .nop)
  .nop)
  (.seq (.asg 5 (.bin .Add (.var 5) (.var 8)))
  .nop))))
  (.seq (.asg 7 (.call 12 (.cons (.var 2) (.cons (.var 4) .nil))))
  (.seq (.ife (.or (.cons (.nt (.call 10 (.cons (.var 7) .nil))) (.cons (.cmp .NotEq (.var 7) (.var 5)) .nil)))
  (.seq (.ret (.bl false))
  .nop)
  .nop)
  .nop)))))
  (.seq (.ret (.bl true))
  .nop))
def c8 : Cn := ⟨["_law_firms", "_law_strangers", "_law_rows", "_law_nobody", "_law_firm", "_law_total", "_law_holder", "_law_many", "_law_found"], false, [9, 10, 11, 12], [], [], [], [], [], []⟩
def t8 : Nat → Q.Row
  | 9 => R9
  | 10 => R10
  | 11 => R11
  | 12 => R12
  | _ => dfR
def T8 : Tb := ⟨t8, fun _ _ => 0, fun _ => 0, sub⟩
def R8 : Q.Row := rowB lw T8 4 [] 9 b8
/-! owners_of -/
def b13 : S := (.seq (.ret (.sset (.lc [2] (.iL (.var 0)) (.cons (.cmp .Eq (.ix (.var 2) (.int 1)) (.var 1)) .nil) (.ix (.var 2) (.int 0)))))
  .nop)
def c13 : Cn := ⟨["rows", "firm", "row"], false, [], [], [], [], [], [], []⟩
def t13 : Nat → Q.Row
  | _ => dfR
def T13 : Tb := ⟨t13, fun _ _ => 0, fun _ => 0, sub⟩
def R13 : Q.Row := rowB lw T13 2 [] 3 b13
/-! _law_sorted_names -/
def b14 : S := (.seq (.ife (.or (.cons (.nt (.isi (.var 0) "list")) (.cons (.cmp .NotEq (.blt .len (.cons (.var 0) .nil)) (.blt .len (.cons (.var 1) .nil))) .nil)))
  (.seq (.ret (.bl false))
  .nop)
  .nop)
  (.seq (.for [2] (.iL (.var 0))
  (.seq (.ife (.nt (.isi (.var 2) "str"))
  (.seq (.ret (.bl false))
  .nop)
  .nop)
  .nop))
  (.seq (.ret (.cmp .Eq (.var 0) (.var 1)))
  .nop)))
def c14 : Cn := ⟨["_law_found", "_law_due", "_law_name"], false, [], [], [], [], [], [], []⟩
def t14 : Nat → Q.Row
  | _ => dfR
def T14 : Tb := ⟨t14, fun _ _ => 0, fun _ => 0, sub⟩
def R14 : Q.Row := rowB lw T14 2 [] 3 b14
/-! strangers_of -/
def b15 : S := (.seq (.ret (.sset (.lc [2] (.iL (.var 1)) (.cons (.cmp .NotIn (.ix (.var 2) (.int 0)) (.var 0)) .nil) (.ix (.var 2) (.int 0)))))
  .nop)
def c15 : Cn := ⟨["firms", "rows", "row"], false, [], [], [], [], [], [], []⟩
def t15 : Nat → Q.Row
  | _ => dfR
def T15 : Tb := ⟨t15, fun _ _ => 0, fun _ => 0, sub⟩
def R15 : Q.Row := rowB lw T15 2 [] 3 b15
/-! _law_told -/
def b7 : S := (.seq (.asg 4 (.blt .list (.cons (.var 2) .nil)))
  (.seq (.ife (.nt (.call 8 (.cons (.var 0) (.cons (.var 1) (.cons (.var 2) (.cons (.var 3) .nil))))))
  (.seq (.ret (.bl false))
  .nop)
  .nop)
  (.seq (.for [5] (.iL (.bin .Add (.var 0) (.lst (.cons (.var 3) .nil))))
  (.seq (.asg 6 (.lc [9] (.iL (.blt .sorted (.cons (.bin .Add (.var 0) (.var 1)) .nil))) (.cons (.cmp .Gt (.call 11 (.cons (.var 4) (.cons (.var 9) (.cons (.var 5) .nil)))) (.int 0)) .nil) (.var 9)))
  (.seq (.asg 8 (.call 13 (.cons (.var 2) (.cons (.var 5) .nil))))
  (.seq (.ife (.nt (.call 14 (.cons (.var 8) (.cons (.var 6) .nil))))
  (.seq (.ret (.bl false))
  .nop)
  .nop)
  (.seq (.exp (.bm .lClr (.var 8) .nil))
  .nop)))))
  (.seq (.asg 6 (.lc [9] (.iL (.blt .sorted (.cons (.var 1) .nil))) (.cons (.cmp .In (.var 9) (.lc [10] (.iL (.var 4)) .nil (.ix (.var 10) (.int 0)))) .nil) (.var 9)))
  (.seq (.asg 7 (.blt .list (.cons (.var 0) .nil)))
  (.seq (.asg 8 (.call 15 (.cons (.var 7) (.cons (.var 2) .nil))))
  (.seq (.ife (.or (.cons (.nt (.call 14 (.cons (.var 8) (.cons (.var 6) .nil)))) (.cons (.cmp .NotEq (.var 7) (.var 0)) .nil)))
  (.seq (.ret (.bl false))
  .nop)
  .nop)
  (.seq (.exp (.bm .lClr (.var 8) .nil))
  (.seq (.ret (.cmp .Eq (.var 2) (.var 4)))
  .nop)))))))))
def c7 : Cn := ⟨["_law_firms", "_law_strangers", "_law_handed", "_law_nobody", "_law_rows", "_law_firm", "_law_some", "_law_names_here", "_law_found", "_law_holder", "_law_row"], false, [8, 11, 13, 14, 15], [], [], [], [], [], []⟩
def t7 : Nat → Q.Row
  | 8 => R8
  | 11 => R11
  | 13 => R13
  | 14 => R14
  | 15 => R15
  | _ => dfR
def T7 : Tb := ⟨t7, fun _ _ => 0, fun _ => 0, sub⟩
def R7 : Q.Row := rowB lw T7 4 [] 11 b7
/-! law -/
def b0 : S := (.seq (.asg 1 (.call 1 (.cons (.var 0) .nil)))
  (.seq (.asg 2 (.ix (.var 1) (.int 0)))
  (.seq (.asg 3 (.ix (.var 1) (.int 1)))
  (.seq (.asg 4 (.lst (.cons (.str "nobody") (.cons (.str "noone") (.cons (.str "none") (.cons (.str "other") (.cons (.str "third") (.cons (.str "fourth") (.cons (.str "fifth") (.cons (.str "sixth") (.cons (.str "seventh") .nil)))))))))))
  (.seq (.asg 5 (.ix (.lc [10] (.iL (.var 4)) (.cons (.cmp .NotIn (.var 10) (.bin .Add (.var 2) (.var 3))) .nil) (.var 10)) (.int 0)))
  (.seq (.asg 6 (.call 5 (.cons (.var 0) (.cons (.var 2) (.cons (.var 3) .nil)))))
  (.seq (.ife (.nt (.call 7 (.cons (.var 2) (.cons (.var 3) (.cons (.var 6) (.cons (.var 5) .nil))))))
  (.seq (.ret (.bl false))
  .nop)
  .nop)
  (.seq (.asg 7 (.call 2 (.cons (.var 0) (.cons (.int 3) .nil))))
  (.seq (.asg 8 (.bin .Add (.var 2) (.var 3)))
  (.seq (.asg 9 (.tup (.cons (.ix (.var 8) (.bin .Mod (.call 4 (.cons (.var 7) (.cons (.int 48271) .nil))) (.blt .len (.cons (.var 8) .nil)))) (.cons (.ix (.var 2) (.bin .Mod (.call 4 (.cons (.var 7) (.cons (.int 69621) .nil))) (.blt .len (.cons (.var 2) .nil)))) (.cons (.int 7) .nil)))))
  (.seq (.exp (.bm .lIns (.var 6) (.cons (.bin .Mod (.call 4 (.cons (.var 7) (.cons (.int 16807) .nil))) (.bin .Add (.blt .len (.cons (.var 6) .nil)) (.int 1))) (.cons (.var 9) .nil))))
  (.seq (.ret (.and (.cons (.call 7 (.cons (.var 2) (.cons (.var 3) (.cons (.var 6) (.cons (.var 5) .nil))))) (.cons (.call 7 (.cons (.var 2) (.cons (.var 3) (.cons (.lst .nil) (.cons (.var 5) .nil))))) .nil))))
  .nop))))))))))))
def c0 : Cn := ⟨["_law_script", "_law_people_here", "_law_firms", "_law_strangers", "_law_fixed", "_law_nobody", "_law_handed", "_law_pick", "_law_everyone", "_law_more", "_law_name"], false, [1, 2, 4, 5, 7], [], [], [], [], [], []⟩
def t0 : Nat → Q.Row
  | 1 => R1
  | 2 => R2
  | 4 => R4
  | 5 => R5
  | 7 => R7
  | _ => dfR
def T0 : Tb := ⟨t0, fun _ _ => 0, fun _ => 0, sub⟩
def R0 : Q.Row := rowB lw T0 1 [] 11 b0
def f2 (a0 : (List Int)) (a1 : Int) : Out Unit Unit Int Unit :=
  (Res.ok (decide (a1 < (a0.length : Int)))).to () fun b3 => cond b3
  ((ixR a0 a1).to () fun r4 => .rt r4)
  ((Res.ok (0 : Int)).to () fun r5 => .rt r5)
theorem d2 {C : Kc} (X : Kf C) : FnT C R2 (fun k : (List Int) × Int × Unit => [(vL C vInt) k.1, vInt k.2.1]) (fun x : Int => oV (vInt x)) (fun k => outR (f2 k.1 k.2.1)) :=
  fn_read (T := T2) (cs := cs) (n := 2) (N := 2) (s := b2) (fun _ => rfl) (fun _ => rfl) fun ⟨a0, a1, _⟩ =>
  (b_ifL (m := (Res.ok (decide (a1 < (a0.length : Int))))) (wk_evT (Γ' := [some (oV ((vL C vInt) a0)), some (oV (vInt a1))]) (.keep (.keep .nil)) (ev_test (ev_cmpP (op := fun (x : Int) (y : Int) => (Res.ok (decide (x < y)))) (x := a1) (y := (a0.length : Int)) (evB_vV (τ := vInt) (x := a1) rfl) (ev_blt1P (x := a0) (op := fun x : (List Int) => (Res.ok (x.length : Int))) (evB_vV (τ := (vL C vInt)) (x := a0) rfl) bl_lenL) op_lt))) (.drop (.drop .nil)) rfl
  (b_ret (g := fun r4 => r4) (evx (m := (ixR a0 a1)) (wk_ev (Γ' := [some (oV ((vL C vInt) a0)), some (oV (vInt a1))]) (.keep (.keep .nil)) (ev_flat (ev_ixP (op := ixR) (x := a0) (y := a1) (evB_vV (τ := (vL C vInt)) (x := a0) rfl) (evB_vV (τ := vInt) (x := a1) rfl) op_ixL))) (.drop (.drop .nil))) (fun _ => Le.refl _) (fun _ => (.drop (.drop .nil))))
  (b_ret (g := fun r5 => r5) (evx (m := (Res.ok (0 : Int))) (wk_ev (Γ' := [none, none]) (.drop (.drop .nil)) (ev_flat (ev_int 0))) (.drop (.drop .nil))) (fun _ => Le.refl _) (fun _ => (.drop (.drop .nil)))))
def f3 (a0 : Int) (a1 : Int) : Out Unit Unit (List Str) Unit :=
  (Res.ok ("abcdefghijklmnopqrstuvwxyz" : Str)).to () fun v9 =>
  (gd (!decide ((999983 : Int) = 0)) (Res.ok (Int.fmod a0 (999983 : Int)))).to () fun v10 =>
  (gd (rngB 0 (8 : Int) && decide (Int.toNat (8 : Int) ≤ sizeLine)) (lcR (fun z12 : Int => (Res.ok true)) (fun z12 : Int => (((((gd (mulB z12 z12) (Res.ok (z12 * z12)) >>= fun x13 => (Res.ok (x13 + (3 : Int)))) >>= fun x14 => (gd (mulB v10 x14) (Res.ok (v10 * x14)))) >>= fun x15 => (gd (!decide ((7919 : Int) = 0)) (Res.ok (Int.fmod x15 (7919 : Int))))) >>= fun x16 => (gd (!decide ((26 : Int) = 0)) (Res.ok (Int.fmod x16 (26 : Int))))))) (rng 0 (8 : Int)))).to () fun v11 =>
  (((gd (divOk (3 : Int)) (Res.ok (Int.fdiv v10 (3 : Int))) >>= fun x18 => (gd (!decide ((8 : Int) = 0)) (Res.ok (Int.fmod x18 (8 : Int))))) >>= fun x19 => (Res.ok ((1 : Int) + x19)))).to () fun v17 =>
  ((gd (divOk (24 : Int)) (Res.ok (Int.fdiv v10 (24 : Int))) >>= fun x21 => (gd (!decide (v17 = 0)) (Res.ok (Int.fmod x21 v17))))).to () fun v20 =>
  ((gd (divOk (5 : Int)) (Res.ok (Int.fdiv v10 (5 : Int))) >>= fun x23 => (gd (!decide (a1 = 0)) (Res.ok (Int.fmod x23 a1))))).to () fun v22 =>
  (Res.ok ([] : (List Str))).to () fun v24 =>
  (Res.ok a1).to () fun n41 => gdO (rngB 0 n41) ((loopO (fun (x26 : Int) (s25 : (List Str)) =>
  (((gd (!decide ((3 : Int) = 0)) (Res.ok (Int.fmod v10 (3 : Int))) >>= fun x27 => (Res.ok (decide (x27 = (1 : Int)))))).to () fun b28 => cond b28
  (((gd (rngB 0 (x26 + (1 : Int)) && decide (Int.toNat (x26 + (1 : Int)) ≤ sizeLine)) (lcR (fun z30 : Int => (Res.ok true)) (fun z30 : Int => ((ixR v11 z30 >>= fun x31 => (strAt v9 x31)))) (rng 0 (x26 + (1 : Int)))) >>= fun x32 => (gd (decide ((List.sum (List.map (fun z => z.length) x32)) + x32.length * ("" : Str).length ≤ 16777216)) (Res.ok (Txt.join ("" : Str) x32))))).to () fun v29 => gdO (decide (s25.length < sizeLine))
  (.nx (s25 ++ [v29])))
  (((gd (rngB 0 v17 && decide (Int.toNat v17 ≤ sizeLine)) (lcR (fun z34 : Int => (Res.ok true)) (fun z34 : Int => ((((ixR v11 z34 >>= fun x35 => ((gd (mulB x26 (if (decide (z34 = v20)) then 1 else 0)) (Res.ok (x26 * (if (decide (z34 = v20)) then 1 else 0))) >>= fun x36 => (Res.ok (x35 + x36))))) >>= fun x37 => (gd (!decide ((26 : Int) = 0)) (Res.ok (Int.fmod x37 (26 : Int))))) >>= fun x38 => (strAt v9 x38)))) (rng 0 v17)) >>= fun x39 => (gd (decide ((List.sum (List.map (fun z => z.length) x39)) + x39.length * ("" : Str).length ≤ 16777216)) (Res.ok (Txt.join ("" : Str) x39))))).to () fun v33 => gdO (decide (s25.length < sizeLine))
  (.nx (s25 ++ [v33]))))) (rng 0 n41) v24).then fun s25 : (List Str) =>
  (gd (decide ((cutL s25 (some v22) none).length + (cutL s25 none (some v22)).length ≤ sizeLine)) (Res.ok ((cutL s25 (some v22) none) ++ (cutL s25 none (some v22))))).to () fun r40 => .rt r40)
theorem d3 {C : Kc} (X : Kf C) : FnT C R3 (fun k : Int × Int × Unit => [vInt k.1, vInt k.2.1]) (fun x : (List Str) => oV ((vL C vStr) x)) (fun k => outR (f3 k.1 k.2.1)) :=
  fn_read (T := T3) (cs := cs) (n := 2) (N := 11) (s := b3) (fun _ => rfl) (fun _ => rfl) fun ⟨a0, a1, _⟩ =>
  (b_asg (i := 2) (evx (τ := (fun x : Str => oV (vStr x))) (m := (Res.ok ("abcdefghijklmnopqrstuvwxyz" : Str))) (wk_ev (Γ' := [none, none, none, none, none, none, none, none, none, none, none]) (.drop (.drop (.drop (.drop (.drop (.drop (.drop (.drop (.drop (.drop (.drop .nil))))))))))) (ev_flat (ev_str ("abcdefghijklmnopqrstuvwxyz" : Str)))) (.drop (.drop (.drop (.drop (.drop (.drop (.drop (.drop (.drop (.drop (.drop .nil)))))))))))) (fun _ => Nat.le_of_ble_eq_true rfl) fun v9 =>
  (b_asg (i := 3) (evx (τ := (fun x : Int => oV (vInt x))) (m := (gd (!decide ((999983 : Int) = 0)) (Res.ok (Int.fmod a0 (999983 : Int))))) (wk_ev (Γ' := [some (oV (vInt a0)), none, none, none, none, none, none, none, none, none, none]) (.keep (.drop (.drop (.drop (.drop (.drop (.drop (.drop (.drop (.drop (.drop .nil))))))))))) (ev_flat (ev_binP (op := fun (x : Int) (y : Int) => (gd (!decide (y = 0)) (Res.ok (Int.fmod x y)))) (x := a0) (y := (999983 : Int)) (evB_vV (τ := vInt) (x := a0) rfl) (ev_int 999983) op_modI))) (.drop (.drop (.drop (.drop (.drop (.drop (.drop (.drop (.drop (.drop (.drop .nil)))))))))))) (fun _ => Nat.le_of_ble_eq_true rfl) fun v10 =>
  (b_asg (i := 4) (evx (τ := (fun x : (List Int) => oV ((vL C vInt) x))) (m := (gd (rngB 0 (8 : Int) && decide (Int.toNat (8 : Int) ≤ sizeLine)) (lcR (fun z12 : Int => (Res.ok true)) (fun z12 : Int => (((((gd (mulB z12 z12) (Res.ok (z12 * z12)) >>= fun x13 => (Res.ok (x13 + (3 : Int)))) >>= fun x14 => (gd (mulB v10 x14) (Res.ok (v10 * x14)))) >>= fun x15 => (gd (!decide ((7919 : Int) = 0)) (Res.ok (Int.fmod x15 (7919 : Int))))) >>= fun x16 => (gd (!decide ((26 : Int) = 0)) (Res.ok (Int.fmod x16 (26 : Int))))))) (rng 0 (8 : Int))))) (wk_ev (Γ' := [none, none, none, some (oV (vInt v10)), none, none, none, none, none, none, none]) (.drop (.drop (.drop (.keep (.drop (.drop (.drop (.drop (.drop (.drop (.drop .nil))))))))))) (ev_fz (o := (oL C fun x => oV (vInt x))) (ev_lcR1P (n := (8 : Int)) (ε := (fun x : Int => oV (vInt x))) (c := fun z12 : Int => (Res.ok true)) (f := fun z12 : Int => (((((gd (mulB z12 z12) (Res.ok (z12 * z12)) >>= fun x13 => (Res.ok (x13 + (3 : Int)))) >>= fun x14 => (gd (mulB v10 x14) (Res.ok (v10 * x14)))) >>= fun x15 => (gd (!decide ((7919 : Int) = 0)) (Res.ok (Int.fmod x15 (7919 : Int))))) >>= fun x16 => (gd (!decide ((26 : Int) = 0)) (Res.ok (Int.fmod x16 (26 : Int))))))) (ev_int 8) (fun z12 => eps_nil) (fun z12 => (ev_flat (ev_binR (op := fun (x : Int) (y : Int) => (gd (!decide (y = 0)) (Res.ok (Int.fmod x y)))) (ma := ((((gd (mulB z12 z12) (Res.ok (z12 * z12)) >>= fun x13 => (Res.ok (x13 + (3 : Int)))) >>= fun x14 => (gd (mulB v10 x14) (Res.ok (v10 * x14)))) >>= fun x15 => (gd (!decide ((7919 : Int) = 0)) (Res.ok (Int.fmod x15 (7919 : Int))))))) (y := (26 : Int)) (ev_binR (op := fun (x : Int) (y : Int) => (gd (!decide (y = 0)) (Res.ok (Int.fmod x y)))) (ma := (((gd (mulB z12 z12) (Res.ok (z12 * z12)) >>= fun x13 => (Res.ok (x13 + (3 : Int)))) >>= fun x14 => (gd (mulB v10 x14) (Res.ok (v10 * x14)))))) (y := (7919 : Int)) (ev_binL (op := fun (x : Int) (y : Int) => (gd (mulB x y) (Res.ok (x * y)))) (x := v10) (mb := ((gd (mulB z12 z12) (Res.ok (z12 * z12)) >>= fun x13 => (Res.ok (x13 + (3 : Int)))))) (evB_vV (τ := vInt) (x := v10) rfl) (ev_binR (op := fun (x : Int) (y : Int) => (Res.ok (x + y))) (ma := (gd (mulB z12 z12) (Res.ok (z12 * z12)))) (y := (3 : Int)) (ev_binP (op := fun (x : Int) (y : Int) => (gd (mulB x y) (Res.ok (x * y)))) (x := z12) (y := z12) (evB_vV (τ := vInt) (x := z12) rfl) (evB_vV (τ := vInt) (x := z12) rfl) op_mulI) (ev_int 3) op_addI) op_mulI) (ev_int 7919) op_modI) (ev_int 26) op_modI)))))) (.drop (.drop (.drop (.drop (.drop (.drop (.drop (.drop (.drop (.drop (.drop .nil)))))))))))) (fun _ => Nat.le_of_ble_eq_true rfl) fun v11 =>
  (b_asg (i := 5) (evx (τ := (fun x : Int => oV (vInt x))) (m := (((gd (divOk (3 : Int)) (Res.ok (Int.fdiv v10 (3 : Int))) >>= fun x18 => (gd (!decide ((8 : Int) = 0)) (Res.ok (Int.fmod x18 (8 : Int))))) >>= fun x19 => (Res.ok ((1 : Int) + x19))))) (wk_ev (Γ' := [none, none, none, some (oV (vInt v10)), none, none, none, none, none, none, none]) (.drop (.drop (.drop (.keep (.drop (.drop (.drop (.drop (.drop (.drop (.drop .nil))))))))))) (ev_flat (ev_binL (op := fun (x : Int) (y : Int) => (Res.ok (x + y))) (x := (1 : Int)) (mb := ((gd (divOk (3 : Int)) (Res.ok (Int.fdiv v10 (3 : Int))) >>= fun x18 => (gd (!decide ((8 : Int) = 0)) (Res.ok (Int.fmod x18 (8 : Int))))))) (ev_int 1) (ev_binR (op := fun (x : Int) (y : Int) => (gd (!decide (y = 0)) (Res.ok (Int.fmod x y)))) (ma := (gd (divOk (3 : Int)) (Res.ok (Int.fdiv v10 (3 : Int))))) (y := (8 : Int)) (ev_binP (op := fun (x : Int) (y : Int) => (gd (divOk y) (Res.ok (Int.fdiv x y)))) (x := v10) (y := (3 : Int)) (evB_vV (τ := vInt) (x := v10) rfl) (ev_int 3) op_divI) (ev_int 8) op_modI) op_addI))) (.drop (.drop (.drop (.drop (.drop (.drop (.drop (.drop (.drop (.drop (.drop .nil)))))))))))) (fun _ => Nat.le_of_ble_eq_true rfl) fun v17 =>
  (b_asg (i := 6) (evx (τ := (fun x : Int => oV (vInt x))) (m := ((gd (divOk (24 : Int)) (Res.ok (Int.fdiv v10 (24 : Int))) >>= fun x21 => (gd (!decide (v17 = 0)) (Res.ok (Int.fmod x21 v17)))))) (wk_ev (Γ' := [none, none, none, some (oV (vInt v10)), none, some (oV (vInt v17)), none, none, none, none, none]) (.drop (.drop (.drop (.keep (.drop (.keep (.drop (.drop (.drop (.drop (.drop .nil))))))))))) (ev_flat (ev_binR (op := fun (x : Int) (y : Int) => (gd (!decide (y = 0)) (Res.ok (Int.fmod x y)))) (ma := (gd (divOk (24 : Int)) (Res.ok (Int.fdiv v10 (24 : Int))))) (y := v17) (ev_binP (op := fun (x : Int) (y : Int) => (gd (divOk y) (Res.ok (Int.fdiv x y)))) (x := v10) (y := (24 : Int)) (evB_vV (τ := vInt) (x := v10) rfl) (ev_int 24) op_divI) (evB_vV (τ := vInt) (x := v17) rfl) op_modI))) (.drop (.drop (.drop (.drop (.drop (.drop (.drop (.drop (.drop (.drop (.drop .nil)))))))))))) (fun _ => Nat.le_of_ble_eq_true rfl) fun v20 =>
  (b_asg (i := 7) (evx (τ := (fun x : Int => oV (vInt x))) (m := ((gd (divOk (5 : Int)) (Res.ok (Int.fdiv v10 (5 : Int))) >>= fun x23 => (gd (!decide (a1 = 0)) (Res.ok (Int.fmod x23 a1)))))) (wk_ev (Γ' := [none, some (oV (vInt a1)), none, some (oV (vInt v10)), none, none, none, none, none, none, none]) (.drop (.keep (.drop (.keep (.drop (.drop (.drop (.drop (.drop (.drop (.drop .nil))))))))))) (ev_flat (ev_binR (op := fun (x : Int) (y : Int) => (gd (!decide (y = 0)) (Res.ok (Int.fmod x y)))) (ma := (gd (divOk (5 : Int)) (Res.ok (Int.fdiv v10 (5 : Int))))) (y := a1) (ev_binP (op := fun (x : Int) (y : Int) => (gd (divOk y) (Res.ok (Int.fdiv x y)))) (x := v10) (y := (5 : Int)) (evB_vV (τ := vInt) (x := v10) rfl) (ev_int 5) op_divI) (evB_vV (τ := vInt) (x := a1) rfl) op_modI))) (.drop (.drop (.drop (.drop (.drop (.drop (.drop (.drop (.drop (.drop (.drop .nil)))))))))))) (fun _ => Nat.le_of_ble_eq_true rfl) fun v22 =>
  (b_asg (i := 8) (evx (τ := (oL C fun x => oV (vStr x))) (m := (Res.ok ([] : (List Str)))) (wk_ev (Γ' := [none, none, none, none, none, none, none, none, none, none, none]) (.drop (.drop (.drop (.drop (.drop (.drop (.drop (.drop (.drop (.drop (.drop .nil))))))))))) (ev_lst (τ := (oL C fun x => oV (vStr x))) (os := (fun _ => [])) (g := (fun _ : Unit => ([] : (List Str)))) elo_nil (fun _ => Nat.le_of_ble_eq_true rfl) (fun _ => rfl))) (.drop (.drop (.drop (.drop (.drop (.drop (.drop (.drop (.drop (.drop (.drop .nil)))))))))))) (fun _ => Nat.le_of_ble_eq_true rfl) fun v24 =>
  (by exact (b_forR1 (j := 9) (m := (Res.ok a1)) (Γ0 := fun s25 : (List Str) => [some (oV (vInt a0)), some (oV (vInt a1)), some (oV (vStr v9)), some (oV (vInt v10)), some (oV ((vL C vInt) v11)), some (oV (vInt v17)), some (oV (vInt v20)), some (oV (vInt v22)), some ((oL C fun x => oV (vStr x)) s25), none, none]) (s0 := v24) (wk_ev (Γ' := [none, some (oV (vInt a1)), none, none, none, none, none, none, none, none, none]) (.drop (.keep (.drop (.drop (.drop (.drop (.drop (.drop (.drop (.drop (.drop .nil))))))))))) (evB_vV (τ := vInt) (x := a1) rfl)) (.drop (.drop (.drop (.drop (.drop (.drop (.drop (.drop (.drop (.drop (.drop .nil))))))))))) (.keep (.keep (.keep (.keep (.keep (.keep (.keep (.keep (.keep (.drop (.drop .nil))))))))))) (fun _ => Nat.le_of_ble_eq_true rfl) (fun x26 s25 =>
  (b_end (b_if (m := ((gd (!decide ((3 : Int) = 0)) (Res.ok (Int.fmod v10 (3 : Int))) >>= fun x27 => (Res.ok (decide (x27 = (1 : Int))))))) (wk_evT (Γ' := [none, none, none, some (oV (vInt v10)), none, none, none, none, none, none, none]) (.drop (.drop (.drop (.keep (.drop (.drop (.drop (.drop (.drop (.drop (.drop .nil))))))))))) (ev_test (ev_cmpR (op := fun (x : Int) (y : Int) => (Res.ok (decide (x = y)))) (ma := (gd (!decide ((3 : Int) = 0)) (Res.ok (Int.fmod v10 (3 : Int))))) (y := (1 : Int)) (ev_binP (op := fun (x : Int) (y : Int) => (gd (!decide (y = 0)) (Res.ok (Int.fmod x y)))) (x := v10) (y := (3 : Int)) (evB_vV (τ := vInt) (x := v10) rfl) (ev_int 3) op_modI) (ev_int 1) op_eqI))) (.drop (.drop (.drop (.drop (.drop (.drop (.drop (.drop (.drop (.drop (.drop .nil)))))))))))
  (p_app (m := ((gd (rngB 0 (x26 + (1 : Int)) && decide (Int.toNat (x26 + (1 : Int)) ≤ sizeLine)) (lcR (fun z30 : Int => (Res.ok true)) (fun z30 : Int => ((ixR v11 z30 >>= fun x31 => (strAt v9 x31)))) (rng 0 (x26 + (1 : Int)))) >>= fun x32 => (gd (decide ((List.sum (List.map (fun z => z.length) x32)) + x32.length * ("" : Str).length ≤ 16777216)) (Res.ok (Txt.join ("" : Str) x32)))))) (τ := (fun x : Str => oV (vStr x))) (xs := s25) (pl_v (i := 8) (τ := (oL C fun x => oV (vStr x))) (x := s25) rfl) (wk_ev (Γ' := [none, none, some (oV (vStr v9)), none, some (oV ((vL C vInt) v11)), none, none, none, none, some (oV (vInt x26)), none]) (.drop (.drop (.keep (.drop (.keep (.drop (.drop (.drop (.drop (.keep (.drop .nil))))))))))) (ev_flat (ev_join (m := (gd (rngB 0 (x26 + (1 : Int)) && decide (Int.toNat (x26 + (1 : Int)) ≤ sizeLine)) (lcR (fun z30 : Int => (Res.ok true)) (fun z30 : Int => ((ixR v11 z30 >>= fun x31 => (strAt v9 x31)))) (rng 0 (x26 + (1 : Int)))))) (s := ("" : Str)) (ev_see (o := (oL C fun x => oV (vStr x))) (ev_lcR1P (n := (x26 + (1 : Int))) (ε := (fun x : Str => oV (vStr x))) (c := fun z30 : Int => (Res.ok true)) (f := fun z30 : Int => ((ixR v11 z30 >>= fun x31 => (strAt v9 x31)))) (ev_binP (op := fun (x : Int) (y : Int) => (Res.ok (x + y))) (x := x26) (y := (1 : Int)) (evB_vV (τ := vInt) (x := x26) rfl) (ev_int 1) op_addI) (fun z30 => eps_nil) (fun z30 => (ev_flat (ev_ixL (op := strAt) (x := v9) (mb := (ixR v11 z30)) (evB_vV (τ := vStr) (x := v9) rfl) (ev_ixP (op := ixR) (x := v11) (y := z30) (evB_vV (τ := (vL C vInt)) (x := v11) rfl) (evB_vV (τ := vInt) (x := z30) rfl) op_ixL) op_ixS)))))))) (Cv.wk (.drop (.drop (.drop (.drop (.drop (.drop (.drop (.drop (.drop (.drop (.drop .nil)))))))))))) fun v29 =>
  (b_nop (.keep (.keep (.keep (.keep (.keep (.keep (.keep (.keep (.keep (.drop (.drop .nil)))))))))))))
  (p_app (m := ((gd (rngB 0 v17 && decide (Int.toNat v17 ≤ sizeLine)) (lcR (fun z34 : Int => (Res.ok true)) (fun z34 : Int => ((((ixR v11 z34 >>= fun x35 => ((gd (mulB x26 (if (decide (z34 = v20)) then 1 else 0)) (Res.ok (x26 * (if (decide (z34 = v20)) then 1 else 0))) >>= fun x36 => (Res.ok (x35 + x36))))) >>= fun x37 => (gd (!decide ((26 : Int) = 0)) (Res.ok (Int.fmod x37 (26 : Int))))) >>= fun x38 => (strAt v9 x38)))) (rng 0 v17)) >>= fun x39 => (gd (decide ((List.sum (List.map (fun z => z.length) x39)) + x39.length * ("" : Str).length ≤ 16777216)) (Res.ok (Txt.join ("" : Str) x39)))))) (τ := (fun x : Str => oV (vStr x))) (xs := s25) (pl_v (i := 8) (τ := (oL C fun x => oV (vStr x))) (x := s25) rfl) (wk_ev (Γ' := [none, none, some (oV (vStr v9)), none, some (oV ((vL C vInt) v11)), some (oV (vInt v17)), some (oV (vInt v20)), none, none, some (oV (vInt x26)), none]) (.drop (.drop (.keep (.drop (.keep (.keep (.keep (.drop (.drop (.keep (.drop .nil))))))))))) (ev_flat (ev_join (m := (gd (rngB 0 v17 && decide (Int.toNat v17 ≤ sizeLine)) (lcR (fun z34 : Int => (Res.ok true)) (fun z34 : Int => ((((ixR v11 z34 >>= fun x35 => ((gd (mulB x26 (if (decide (z34 = v20)) then 1 else 0)) (Res.ok (x26 * (if (decide (z34 = v20)) then 1 else 0))) >>= fun x36 => (Res.ok (x35 + x36))))) >>= fun x37 => (gd (!decide ((26 : Int) = 0)) (Res.ok (Int.fmod x37 (26 : Int))))) >>= fun x38 => (strAt v9 x38)))) (rng 0 v17)))) (s := ("" : Str)) (ev_see (o := (oL C fun x => oV (vStr x))) (ev_lcR1P (n := v17) (ε := (fun x : Str => oV (vStr x))) (c := fun z34 : Int => (Res.ok true)) (f := fun z34 : Int => ((((ixR v11 z34 >>= fun x35 => ((gd (mulB x26 (if (decide (z34 = v20)) then 1 else 0)) (Res.ok (x26 * (if (decide (z34 = v20)) then 1 else 0))) >>= fun x36 => (Res.ok (x35 + x36))))) >>= fun x37 => (gd (!decide ((26 : Int) = 0)) (Res.ok (Int.fmod x37 (26 : Int))))) >>= fun x38 => (strAt v9 x38)))) (evB_vV (τ := vInt) (x := v17) rfl) (fun z34 => eps_nil) (fun z34 => (ev_flat (ev_ixL (op := strAt) (x := v9) (mb := (((ixR v11 z34 >>= fun x35 => ((gd (mulB x26 (if (decide (z34 = v20)) then 1 else 0)) (Res.ok (x26 * (if (decide (z34 = v20)) then 1 else 0))) >>= fun x36 => (Res.ok (x35 + x36))))) >>= fun x37 => (gd (!decide ((26 : Int) = 0)) (Res.ok (Int.fmod x37 (26 : Int))))))) (evB_vV (τ := vStr) (x := v9) rfl) (ev_binR (op := fun (x : Int) (y : Int) => (gd (!decide (y = 0)) (Res.ok (Int.fmod x y)))) (ma := ((ixR v11 z34 >>= fun x35 => ((gd (mulB x26 (if (decide (z34 = v20)) then 1 else 0)) (Res.ok (x26 * (if (decide (z34 = v20)) then 1 else 0))) >>= fun x36 => (Res.ok (x35 + x36))))))) (y := (26 : Int)) (ev_bin (op := fun (x : Int) (y : Int) => (Res.ok (x + y))) (ma := (ixR v11 z34)) (mb := (gd (mulB x26 (if (decide (z34 = v20)) then 1 else 0)) (Res.ok (x26 * (if (decide (z34 = v20)) then 1 else 0))))) (ev_ixP (op := ixR) (x := v11) (y := z34) (evB_vV (τ := (vL C vInt)) (x := v11) rfl) (evB_vV (τ := vInt) (x := z34) rfl) op_ixL) (ev_binP (op := fun (x : Int) (y : Int) => (gd (mulB x y) (Res.ok (x * y)))) (x := x26) (y := (if (decide (z34 = v20)) then 1 else 0)) (evB_vV (τ := vInt) (x := x26) rfl) (ev_blt1P (x := (decide (z34 = v20))) (op := fun x : Bool => (Res.ok (if x then 1 else 0))) (ev_cmpP (op := fun (x : Int) (y : Int) => (Res.ok (decide (x = y)))) (x := z34) (y := v20) (evB_vV (τ := vInt) (x := z34) rfl) (evB_vV (τ := vInt) (x := v20) rfl) op_eqI) bl_intB) op_mulI) op_addI) (ev_int 26) op_modI) op_ixS)))))))) (Cv.wk (.drop (.drop (.drop (.drop (.drop (.drop (.drop (.drop (.drop (.drop (.drop .nil)))))))))))) fun v33 =>
  (b_nop (.keep (.keep (.keep (.keep (.keep (.keep (.keep (.keep (.keep (.drop (.drop .nil)))))))))))))))) fun s25 =>
  (b_ret (g := fun r40 => r40) (evx (m := (gd (decide ((cutL s25 (some v22) none).length + (cutL s25 none (some v22)).length ≤ sizeLine)) (Res.ok ((cutL s25 (some v22) none) ++ (cutL s25 none (some v22)))))) (ev_fz (o := (oL C fun x => oV (vStr x))) (bor_evC (Γ' := [none, none, none, none, none, none, none, some (oV (vInt v22)), some (oV ((vL C vStr) s25)), none, none]) (.drop (.drop (.drop (.drop (.drop (.drop (.drop (.put rfl (.put (OwV.eq (o := (oL C fun x => oV (vStr x))) s25) (.drop (.drop .nil))))))))))) (ev_catP (x := (cutL s25 (some v22) none)) (y := (cutL s25 none (some v22))) (ev_fz (o := (oL C fun x => oV (vStr x))) (ev_slLP (xs := s25) (i := (some v22)) (j := none) (evO_v (τ := (vL C vStr)) (x := s25) rfl) (eo_someP (i := v22) (evB_vV (τ := vInt) (x := v22) rfl)) eo_none)) (ev_fz (o := (oL C fun x => oV (vStr x))) (ev_slLP (xs := s25) (i := none) (j := (some v22)) (evO_v (τ := (vL C vStr)) (x := s25) rfl) eo_none (eo_someP (i := v22) (evB_vV (τ := vInt) (x := v22) rfl))))))) (.drop (.drop (.drop (.drop (.drop (.drop (.drop (.drop (.drop (.drop (.drop .nil)))))))))))) (fun _ => Le.refl _) (fun _ => (.drop (.drop (.drop (.drop (.drop (.drop (.drop (.drop (.drop (.drop (.drop .nil))))))))))))))))))))))
def f4 (a0 : Int) (a1 : Int) : Out Unit Unit Int Unit :=
  (((((gd (!decide ((2147483647 : Int) = 0)) (Res.ok (Int.fmod a0 (2147483647 : Int))) >>= fun x45 => (Res.ok (x45 + (17 : Int)))) >>= fun x46 => (gd (mulB x46 a1) (Res.ok (x46 * a1)))) >>= fun x47 => (gd (!decide ((2147483399 : Int) = 0)) (Res.ok (Int.fmod x47 (2147483399 : Int))))) >>= fun x48 => (gd (divOk (97 : Int)) (Res.ok (Int.fdiv x48 (97 : Int)))))).to () fun r49 => .rt r49
theorem d4 {C : Kc} (X : Kf C) : FnT C R4 (fun k : Int × Int × Unit => [vInt k.1, vInt k.2.1]) (fun x : Int => oV (vInt x)) (fun k => outR (f4 k.1 k.2.1)) :=
  fn_read (T := T4) (cs := cs) (n := 2) (N := 2) (s := b4) (fun _ => rfl) (fun _ => rfl) fun ⟨a0, a1, _⟩ =>
  (b_ret (g := fun r49 => r49) (evx (m := (((((gd (!decide ((2147483647 : Int) = 0)) (Res.ok (Int.fmod a0 (2147483647 : Int))) >>= fun x45 => (Res.ok (x45 + (17 : Int)))) >>= fun x46 => (gd (mulB x46 a1) (Res.ok (x46 * a1)))) >>= fun x47 => (gd (!decide ((2147483399 : Int) = 0)) (Res.ok (Int.fmod x47 (2147483399 : Int))))) >>= fun x48 => (gd (divOk (97 : Int)) (Res.ok (Int.fdiv x48 (97 : Int))))))) (wk_ev (Γ' := [some (oV (vInt a0)), some (oV (vInt a1))]) (.keep (.keep .nil)) (ev_flat (ev_binR (op := fun (x : Int) (y : Int) => (gd (divOk y) (Res.ok (Int.fdiv x y)))) (ma := ((((gd (!decide ((2147483647 : Int) = 0)) (Res.ok (Int.fmod a0 (2147483647 : Int))) >>= fun x45 => (Res.ok (x45 + (17 : Int)))) >>= fun x46 => (gd (mulB x46 a1) (Res.ok (x46 * a1)))) >>= fun x47 => (gd (!decide ((2147483399 : Int) = 0)) (Res.ok (Int.fmod x47 (2147483399 : Int))))))) (y := (97 : Int)) (ev_binR (op := fun (x : Int) (y : Int) => (gd (!decide (y = 0)) (Res.ok (Int.fmod x y)))) (ma := (((gd (!decide ((2147483647 : Int) = 0)) (Res.ok (Int.fmod a0 (2147483647 : Int))) >>= fun x45 => (Res.ok (x45 + (17 : Int)))) >>= fun x46 => (gd (mulB x46 a1) (Res.ok (x46 * a1)))))) (y := (2147483399 : Int)) (ev_binR (op := fun (x : Int) (y : Int) => (gd (mulB x y) (Res.ok (x * y)))) (ma := ((gd (!decide ((2147483647 : Int) = 0)) (Res.ok (Int.fmod a0 (2147483647 : Int))) >>= fun x45 => (Res.ok (x45 + (17 : Int)))))) (y := a1) (ev_binR (op := fun (x : Int) (y : Int) => (Res.ok (x + y))) (ma := (gd (!decide ((2147483647 : Int) = 0)) (Res.ok (Int.fmod a0 (2147483647 : Int))))) (y := (17 : Int)) (ev_binP (op := fun (x : Int) (y : Int) => (gd (!decide (y = 0)) (Res.ok (Int.fmod x y)))) (x := a0) (y := (2147483647 : Int)) (evB_vV (τ := vInt) (x := a0) rfl) (ev_int 2147483647) op_modI) (ev_int 17) op_addI) (evB_vV (τ := vInt) (x := a1) rfl) op_mulI) (ev_int 2147483399) op_modI) (ev_int 97) op_divI))) (.drop (.drop .nil))) (fun _ => Le.refl _) (fun _ => (.drop (.drop .nil))))
def f1 (a0 : (List Int)) : Out Unit Unit ((List Str) × (List Str)) Unit :=
  (outR (f2 a0 (0 : Int))).to () fun v2 =>
  (outR (f3 v2 (8 : Int))).to () fun v8 =>
  (((outR (f4 v2 (40014 : Int)) >>= fun x52 => (gd (!decide ((4 : Int) = 0)) (Res.ok (Int.fmod x52 (4 : Int))))) >>= fun x53 => (Res.ok ((1 : Int) + x53)))).to () fun v44 =>
  ((((outR (f4 v2 (69621 : Int)) >>= fun x56 => (gd (!decide ((8 : Int) = 0)) (Res.ok (Int.fmod x56 (8 : Int))))) >>= fun x57 => (Res.ok (decide (x57 = (5 : Int)))))).to () fun b58 => cond b58
  ((Res.ok (6 : Int)).to () fun v59 =>
  .nx v59)
  (.nx v44)).then fun s60 : Int =>
  (((outR (f4 v2 (39373 : Int)) >>= fun x64 => (gd (!decide ((if ((8 : Int) - s60) < (3 : Int) then ((8 : Int) - s60) else (3 : Int)) = 0)) (Res.ok (Int.fmod x64 (if ((8 : Int) - s60) < (3 : Int) then ((8 : Int) - s60) else (3 : Int)))))) >>= fun x65 => (Res.ok ((1 : Int) + x65)))).to () fun v61 =>
  (Res.ok ((cutL v8 none (some s60)), (cutL v8 (some s60) (some (s60 + v61))))).to () fun r68 => .rt r68
theorem d1 {C : Kc} (X : Kf C) : FnT C R1 (fun k : (List Int) × Unit => [(vL C vInt) k.1]) (fun x : ((List Str) × (List Str)) => oV ((tv0 C) x)) (fun k => outR (f1 k.1)) :=
  fn_read (T := T1) (cs := cs) (n := 1) (N := 5) (s := b1) (fun _ => rfl) (fun _ => rfl) fun ⟨a0, _⟩ =>
  (b_asg (i := 1) (evx (τ := (fun x : Int => oV (vInt x))) (m := (outR (f2 a0 (0 : Int)))) (wk_ev (Γ' := [some (oV ((vL C vInt) a0)), none, none, none, none]) (.keep (.drop (.drop (.drop (.drop .nil))))) (ev_flat (ev_see (o := (fun x : Int => oV (vInt x))) (ev_callT (i := 2) (T := T1) (τ := (fun x : Int => oV (vInt x))) (os := fun k => [(vL C vInt) k.1, vInt k.2.1]) (g := (fun k : (List Int) × Int × Unit => (k.1, k.2.1, ()))) (dv := []) (wd := []) (d2 (X := X)) (by exact ⟨by decide, by decide⟩) rfl (fun _ => .nil) (fun _ => rfl) (elv_consP (x := (a0 : (List Int))) (evB_vV (τ := (vL C vInt)) (x := a0) rfl) (elv_consP (x := ((0 : Int) : Int)) (ev_int 0) (elv_nilE (by rfl)))))))) (.drop (.drop (.drop (.drop (.drop .nil)))))) (fun _ => Nat.le_of_ble_eq_true rfl) fun v2 =>
  (b_asg (i := 2) (evx (τ := (fun x : (List Str) => oV ((vL C vStr) x))) (m := (outR (f3 v2 (8 : Int)))) (wk_ev (Γ' := [none, some (oV (vInt v2)), none, none, none]) (.drop (.keep (.drop (.drop (.drop .nil))))) (ev_callF (i := 3) (T := T1) (τ := (fun x : (List Str) => oV ((vL C vStr) x))) (os := fun k => [vInt k.1, vInt k.2.1]) (g := (fun k : Int × Int × Unit => (k.1, k.2.1, ()))) (dv := []) (wd := []) (d3 (X := X)) (by exact ⟨by decide, by decide⟩) rfl (fun _ => .nil) (fun _ => rfl) (elo_consP (x := (v2 : Int)) (ev_flat (evB_vV (τ := vInt) (x := v2) rfl)) (elo_consP (x := ((8 : Int) : Int)) (ev_flat (ev_int 8)) (elo_nilE (by rfl)))))) (.drop (.drop (.drop (.drop (.drop .nil)))))) (fun _ => Nat.le_of_ble_eq_true rfl) fun v8 =>
  (b_asg (i := 3) (evx (τ := (fun x : Int => oV (vInt x))) (m := (((outR (f4 v2 (40014 : Int)) >>= fun x52 => (gd (!decide ((4 : Int) = 0)) (Res.ok (Int.fmod x52 (4 : Int))))) >>= fun x53 => (Res.ok ((1 : Int) + x53))))) (wk_ev (Γ' := [none, some (oV (vInt v2)), none, none, none]) (.drop (.keep (.drop (.drop (.drop .nil))))) (ev_flat (ev_binL (op := fun (x : Int) (y : Int) => (Res.ok (x + y))) (x := (1 : Int)) (mb := ((outR (f4 v2 (40014 : Int)) >>= fun x52 => (gd (!decide ((4 : Int) = 0)) (Res.ok (Int.fmod x52 (4 : Int))))))) (ev_int 1) (ev_binR (op := fun (x : Int) (y : Int) => (gd (!decide (y = 0)) (Res.ok (Int.fmod x y)))) (ma := (outR (f4 v2 (40014 : Int)))) (y := (4 : Int)) (ev_see (o := (fun x : Int => oV (vInt x))) (ev_callT (i := 4) (T := T1) (τ := (fun x : Int => oV (vInt x))) (os := fun k => [vInt k.1, vInt k.2.1]) (g := (fun k : Int × Int × Unit => (k.1, k.2.1, ()))) (dv := []) (wd := []) (d4 (X := X)) (by exact ⟨by decide, by decide⟩) rfl (fun _ => .nil) (fun _ => rfl) (elv_consP (x := (v2 : Int)) (evB_vV (τ := vInt) (x := v2) rfl) (elv_consP (x := ((40014 : Int) : Int)) (ev_int 40014) (elv_nilE (by rfl)))))) (ev_int 4) op_modI) op_addI))) (.drop (.drop (.drop (.drop (.drop .nil)))))) (fun _ => Nat.le_of_ble_eq_true rfl) fun v44 =>
  (b_seq (Γ1 := fun s60 : Int => [some (oV ((vL C vInt) a0)), some (oV (vInt v2)), some (oV ((vL C vStr) v8)), some (oV (vInt s60)), none]) (b_if (m := (((outR (f4 v2 (69621 : Int)) >>= fun x56 => (gd (!decide ((8 : Int) = 0)) (Res.ok (Int.fmod x56 (8 : Int))))) >>= fun x57 => (Res.ok (decide (x57 = (5 : Int))))))) (wk_evT (Γ' := [none, some (oV (vInt v2)), none, none, none]) (.drop (.keep (.drop (.drop (.drop .nil))))) (ev_test (ev_cmpR (op := fun (x : Int) (y : Int) => (Res.ok (decide (x = y)))) (ma := ((outR (f4 v2 (69621 : Int)) >>= fun x56 => (gd (!decide ((8 : Int) = 0)) (Res.ok (Int.fmod x56 (8 : Int))))))) (y := (5 : Int)) (ev_binR (op := fun (x : Int) (y : Int) => (gd (!decide (y = 0)) (Res.ok (Int.fmod x y)))) (ma := (outR (f4 v2 (69621 : Int)))) (y := (8 : Int)) (ev_see (o := (fun x : Int => oV (vInt x))) (ev_callT (i := 4) (T := T1) (τ := (fun x : Int => oV (vInt x))) (os := fun k => [vInt k.1, vInt k.2.1]) (g := (fun k : Int × Int × Unit => (k.1, k.2.1, ()))) (dv := []) (wd := []) (d4 (X := X)) (by exact ⟨by decide, by decide⟩) rfl (fun _ => .nil) (fun _ => rfl) (elv_consP (x := (v2 : Int)) (evB_vV (τ := vInt) (x := v2) rfl) (elv_consP (x := ((69621 : Int) : Int)) (ev_int 69621) (elv_nilE (by rfl)))))) (ev_int 8) op_modI) (ev_int 5) op_eqI))) (.drop (.drop (.drop (.drop (.drop .nil)))))
  (by exact (b_asg (i := 3) (evx (τ := (fun x : Int => oV (vInt x))) (m := (Res.ok (6 : Int))) (wk_ev (Γ' := [none, none, none, none, none]) (.drop (.drop (.drop (.drop (.drop .nil))))) (ev_flat (ev_int 6))) (.drop (.drop (.drop (.drop (.drop .nil)))))) (fun _ => Nat.le_of_ble_eq_true rfl) fun v59 =>
  (b_nop (.keep (.keep (.keep (.keep (.drop .nil))))))))
  (by exact (b_nop (.keep (.keep (.keep (.keep (.drop .nil)))))))) fun s60 =>
  (b_asg (i := 4) (evx (τ := (fun x : Int => oV (vInt x))) (m := (((outR (f4 v2 (39373 : Int)) >>= fun x64 => (gd (!decide ((if ((8 : Int) - s60) < (3 : Int) then ((8 : Int) - s60) else (3 : Int)) = 0)) (Res.ok (Int.fmod x64 (if ((8 : Int) - s60) < (3 : Int) then ((8 : Int) - s60) else (3 : Int)))))) >>= fun x65 => (Res.ok ((1 : Int) + x65))))) (wk_ev (Γ' := [none, some (oV (vInt v2)), none, some (oV (vInt s60)), none]) (.drop (.keep (.drop (.keep (.drop .nil))))) (ev_flat (ev_binL (op := fun (x : Int) (y : Int) => (Res.ok (x + y))) (x := (1 : Int)) (mb := ((outR (f4 v2 (39373 : Int)) >>= fun x64 => (gd (!decide ((if ((8 : Int) - s60) < (3 : Int) then ((8 : Int) - s60) else (3 : Int)) = 0)) (Res.ok (Int.fmod x64 (if ((8 : Int) - s60) < (3 : Int) then ((8 : Int) - s60) else (3 : Int)))))))) (ev_int 1) (ev_binR (op := fun (x : Int) (y : Int) => (gd (!decide (y = 0)) (Res.ok (Int.fmod x y)))) (ma := (outR (f4 v2 (39373 : Int)))) (y := (if ((8 : Int) - s60) < (3 : Int) then ((8 : Int) - s60) else (3 : Int))) (ev_see (o := (fun x : Int => oV (vInt x))) (ev_callT (i := 4) (T := T1) (τ := (fun x : Int => oV (vInt x))) (os := fun k => [vInt k.1, vInt k.2.1]) (g := (fun k : Int × Int × Unit => (k.1, k.2.1, ()))) (dv := []) (wd := []) (d4 (X := X)) (by exact ⟨by decide, by decide⟩) rfl (fun _ => .nil) (fun _ => rfl) (elv_consP (x := (v2 : Int)) (evB_vV (τ := vInt) (x := v2) rfl) (elv_consP (x := ((39373 : Int) : Int)) (ev_int 39373) (elv_nilE (by rfl)))))) (ev_blt2P (op := fun x y => (Res.ok (if y < x then y else x))) (x := (3 : Int)) (y := ((8 : Int) - s60)) (ev_int 3) (ev_binP (op := fun (x : Int) (y : Int) => (Res.ok (x - y))) (x := (8 : Int)) (y := s60) (ev_int 8) (evB_vV (τ := vInt) (x := s60) rfl) op_subI) bl_min2) op_modI) op_addI))) (.drop (.drop (.drop (.drop (.drop .nil)))))) (fun _ => Nat.le_of_ble_eq_true rfl) fun v61 =>
  (b_ret (g := fun r68 => r68) (evx (m := (Res.ok ((cutL v8 none (some s60)), (cutL v8 (some s60) (some (s60 + v61)))))) (wk_ev (Γ' := [none, none, some (oV ((vL C vStr) v8)), some (oV (vInt s60)), some (oV (vInt v61))]) (.drop (.drop (.keep (.keep (.keep .nil))))) (ev_fz (o := (to0 C)) (ev_tup (τ := (to0 C)) (os := (fun k => [oV ((vL C vStr) k.1), oV ((vL C vStr) k.2.1)])) (g := (fun k : (List Str) × (List Str) × Unit => (k.1, k.2.1))) (elo_consP (x := ((cutL v8 none (some s60)) : (List Str))) (ev_fz (o := (oL C fun x => oV (vStr x))) (ev_slLP (xs := v8) (i := none) (j := (some s60)) (evO_v (τ := (vL C vStr)) (x := v8) rfl) eo_none (eo_someP (i := s60) (evB_vV (τ := vInt) (x := s60) rfl)))) (elo_consP (x := ((cutL v8 (some s60) (some (s60 + v61))) : (List Str))) (ev_fz (o := (oL C fun x => oV (vStr x))) (ev_slLP (xs := v8) (i := (some s60)) (j := (some (s60 + v61))) (evO_v (τ := (vL C vStr)) (x := v8) rfl) (eo_someP (i := s60) (evB_vV (τ := vInt) (x := s60) rfl)) (eo_someP (i := (s60 + v61)) (ev_binP (op := fun (x : Int) (y : Int) => (Res.ok (x + y))) (x := s60) (y := v61) (evB_vV (τ := vInt) (x := s60) rfl) (evB_vV (τ := vInt) (x := v61) rfl) op_addI)))) (elo_nilE (by rfl)))) (fun _ => Nat.le_of_ble_eq_true rfl) (fun _ => rfl)))) (.drop (.drop (.drop (.drop (.drop .nil)))))) (fun _ => Le.refl _) (fun _ => (.drop (.drop (.drop (.drop (.drop .nil))))))))))))
def f6 (a0 : Int) : Out Unit Unit Int Unit :=
  ((gd (!decide ((2 : Int) = 0)) (Res.ok (Int.fmod a0 (2 : Int))) >>= fun x113 => (Res.ok (decide (x113 = (0 : Int)))))).to () fun b114 => cond b114
  ((((gd (divOk (2 : Int)) (Res.ok (Int.fdiv a0 (2 : Int))) >>= fun x115 => (gd (!decide ((9 : Int) = 0)) (Res.ok (Int.fmod x115 (9 : Int))))) >>= fun x116 => (Res.ok (x116 + (1 : Int))))).to () fun r117 => .rt r117)
  (((((gd (divOk (2 : Int)) (Res.ok (Int.fdiv a0 (2 : Int))) >>= fun x118 => (gd (mulB x118 (7919 : Int)) (Res.ok (x118 * (7919 : Int))))) >>= fun x119 => ((gd (powB (10 : Int) (6 : Int)) (Res.ok ((10 : Int) ^ Int.toNat (6 : Int))) >>= fun x120 => (gd (!decide (x120 = 0)) (Res.ok (Int.fmod x119 x120)))))) >>= fun x121 => (Res.ok (x121 + (1 : Int))))).to () fun r122 => .rt r122)
theorem d6 {C : Kc} (X : Kf C) : FnT C R6 (fun k : Int × Unit => [vInt k.1]) (fun x : Int => oV (vInt x)) (fun k => outR (f6 k.1)) :=
  fn_read (T := T6) (cs := cs) (n := 1) (N := 1) (s := b6) (fun _ => rfl) (fun _ => rfl) fun ⟨a0, _⟩ =>
  (b_ifL (m := ((gd (!decide ((2 : Int) = 0)) (Res.ok (Int.fmod a0 (2 : Int))) >>= fun x113 => (Res.ok (decide (x113 = (0 : Int))))))) (wk_evT (Γ' := [some (oV (vInt a0))]) (.keep .nil) (ev_test (ev_cmpR (op := fun (x : Int) (y : Int) => (Res.ok (decide (x = y)))) (ma := (gd (!decide ((2 : Int) = 0)) (Res.ok (Int.fmod a0 (2 : Int))))) (y := (0 : Int)) (ev_binP (op := fun (x : Int) (y : Int) => (gd (!decide (y = 0)) (Res.ok (Int.fmod x y)))) (x := a0) (y := (2 : Int)) (evB_vV (τ := vInt) (x := a0) rfl) (ev_int 2) op_modI) (ev_int 0) op_eqI))) (.drop .nil) rfl
  (b_ret (g := fun r117 => r117) (evx (m := (((gd (divOk (2 : Int)) (Res.ok (Int.fdiv a0 (2 : Int))) >>= fun x115 => (gd (!decide ((9 : Int) = 0)) (Res.ok (Int.fmod x115 (9 : Int))))) >>= fun x116 => (Res.ok (x116 + (1 : Int)))))) (wk_ev (Γ' := [some (oV (vInt a0))]) (.keep .nil) (ev_flat (ev_binR (op := fun (x : Int) (y : Int) => (Res.ok (x + y))) (ma := ((gd (divOk (2 : Int)) (Res.ok (Int.fdiv a0 (2 : Int))) >>= fun x115 => (gd (!decide ((9 : Int) = 0)) (Res.ok (Int.fmod x115 (9 : Int))))))) (y := (1 : Int)) (ev_binR (op := fun (x : Int) (y : Int) => (gd (!decide (y = 0)) (Res.ok (Int.fmod x y)))) (ma := (gd (divOk (2 : Int)) (Res.ok (Int.fdiv a0 (2 : Int))))) (y := (9 : Int)) (ev_binP (op := fun (x : Int) (y : Int) => (gd (divOk y) (Res.ok (Int.fdiv x y)))) (x := a0) (y := (2 : Int)) (evB_vV (τ := vInt) (x := a0) rfl) (ev_int 2) op_divI) (ev_int 9) op_modI) (ev_int 1) op_addI))) (.drop .nil)) (fun _ => Le.refl _) (fun _ => (.drop .nil)))
  (b_ret (g := fun r122 => r122) (evx (m := ((((gd (divOk (2 : Int)) (Res.ok (Int.fdiv a0 (2 : Int))) >>= fun x118 => (gd (mulB x118 (7919 : Int)) (Res.ok (x118 * (7919 : Int))))) >>= fun x119 => ((gd (powB (10 : Int) (6 : Int)) (Res.ok ((10 : Int) ^ Int.toNat (6 : Int))) >>= fun x120 => (gd (!decide (x120 = 0)) (Res.ok (Int.fmod x119 x120)))))) >>= fun x121 => (Res.ok (x121 + (1 : Int)))))) (wk_ev (Γ' := [some (oV (vInt a0))]) (.keep .nil) (ev_flat (ev_binR (op := fun (x : Int) (y : Int) => (Res.ok (x + y))) (ma := (((gd (divOk (2 : Int)) (Res.ok (Int.fdiv a0 (2 : Int))) >>= fun x118 => (gd (mulB x118 (7919 : Int)) (Res.ok (x118 * (7919 : Int))))) >>= fun x119 => ((gd (powB (10 : Int) (6 : Int)) (Res.ok ((10 : Int) ^ Int.toNat (6 : Int))) >>= fun x120 => (gd (!decide (x120 = 0)) (Res.ok (Int.fmod x119 x120)))))))) (y := (1 : Int)) (ev_bin (op := fun (x : Int) (y : Int) => (gd (!decide (y = 0)) (Res.ok (Int.fmod x y)))) (ma := ((gd (divOk (2 : Int)) (Res.ok (Int.fdiv a0 (2 : Int))) >>= fun x118 => (gd (mulB x118 (7919 : Int)) (Res.ok (x118 * (7919 : Int))))))) (mb := (gd (powB (10 : Int) (6 : Int)) (Res.ok ((10 : Int) ^ Int.toNat (6 : Int))))) (ev_binR (op := fun (x : Int) (y : Int) => (gd (mulB x y) (Res.ok (x * y)))) (ma := (gd (divOk (2 : Int)) (Res.ok (Int.fdiv a0 (2 : Int))))) (y := (7919 : Int)) (ev_binP (op := fun (x : Int) (y : Int) => (gd (divOk y) (Res.ok (Int.fdiv x y)))) (x := a0) (y := (2 : Int)) (evB_vV (τ := vInt) (x := a0) rfl) (ev_int 2) op_divI) (ev_int 7919) op_mulI) (ev_binP (op := fun (x : Int) (y : Int) => (gd (powB x y) (Res.ok (x ^ Int.toNat y)))) (x := (10 : Int)) (y := (6 : Int)) (ev_int 10) (ev_int 6) op_powI) op_modI) (ev_int 1) op_addI))) (.drop .nil)) (fun _ => Le.refl _) (fun _ => (.drop .nil))))
def f5 (a0 : (List Int)) (a1 : (List Str)) (a2 : (List Str)) : Out Unit Unit (List (Str × Str × Int)) Unit :=
  (outR (f2 a0 (1 : Int))).to () fun v87 =>
  ((outR (f4 v87 (48271 : Int)) >>= fun x93 => (gd (!decide ((a1.length : Int) = 0)) (Res.ok (Int.fmod x93 (a1.length : Int)))))).to () fun v90 =>
  (gd (decide ((cutL a1 (some v90) none).length + (cutL a1 none (some v90)).length ≤ sizeLine)) (Res.ok ((cutL a1 (some v90) none) ++ (cutL a1 none (some v90))))).to () fun v94 =>
  (Res.ok ([] : (List (Str × Str × Int)))).to () fun v95 =>
  (Res.ok (v94.length : Int)).to () fun n165 => gdO (rngB 0 n165) ((loopO (fun (x97 : Int) (s96 : (List (Str × Str × Int))) =>
  ((((gd (mulB (2 : Int) x97) (Res.ok ((2 : Int) * x97)) >>= fun x99 => (Res.ok ((30269 : Int) + x99))) >>= fun x100 => (outR (f4 v87 x100)))).to () fun v98 =>
  ((gd (!decide ((a2.length : Int) = 0)) (Res.ok (Int.fmod v98 (a2.length : Int))) >>= fun x104 => (ixR a2 x104))).to () fun v103 =>
  ((andR (Res.ok (decide ((0 : Int) < x97))) (((gd (divOk (7 : Int)) (Res.ok (Int.fdiv v98 (7 : Int))) >>= fun x105 => (gd (!decide ((3 : Int) = 0)) (Res.ok (Int.fmod x105 (3 : Int))))) >>= fun x106 => (Res.ok (!decide (x106 = (0 : Int))))))).to () fun b107 => cond b107
  ((((gd (divOk (21 : Int)) (Res.ok (Int.fdiv v98 (21 : Int))) >>= fun x109 => (gd (!decide (x97 = 0)) (Res.ok (Int.fmod x109 x97)))) >>= fun x110 => (ixR v94 x110))).to () fun v108 =>
  .nx v108)
  (.nx v103)).then fun s111 : Str =>
  ((ixR v94 x97 >>= fun x129 => (((((gd (mulB (2 : Int) x97) (Res.ok ((2 : Int) * x97)) >>= fun x123 => (Res.ok ((40692 : Int) + x123))) >>= fun x124 => (outR (f4 v87 x124))) >>= fun x127 => (outR (f6 x127))) >>= fun x130 => (Res.ok (s111, x129, x130)))))).to () fun v112 => gdO (decide (s96.length < sizeLine))
  (.nx (s96 ++ [v112])))) (rng 0 n165) v95).then fun s96 : (List (Str × Str × Int)) =>
  (Res.ok (cutL a0 (some (4 : Int)) (some (52 : Int)))).to () fun v134 =>
  (gd (decide (a1.length + a2.length ≤ sizeLine)) (Res.ok (a1 ++ a2))).to () fun v135 =>
  (gd (divOk (2 : Int)) (Res.ok (Int.fdiv (v134.length : Int) (2 : Int)))).to () fun n164 => gdO (rngB 0 n164) ((loopO (fun (x137 : Int) (s136 : (List (Str × Str × Int))) =>
  (((gd (mulB (2 : Int) x137) (Res.ok ((2 : Int) * x137)) >>= fun x139 => (ixR v134 x139))).to () fun v138 =>
  (((outR (f4 v138 (48271 : Int)) >>= fun x143 => (gd (!decide ((v135.length : Int) = 0)) (Res.ok (Int.fmod x143 (v135.length : Int))))) >>= fun x144 => (ixR v135 x144))).to () fun v140 =>
  (((outR (f4 v138 (69621 : Int)) >>= fun x148 => (gd (!decide ((a1.length : Int) = 0)) (Res.ok (Int.fmod x148 (a1.length : Int))))) >>= fun x149 => (ixR a1 x149))).to () fun v145 =>
  ((outR (f4 v138 (16807 : Int)) >>= fun x153 => (gd (!decide (((s136.length : Int) + (1 : Int)) = 0)) (Res.ok (Int.fmod x153 ((s136.length : Int) + (1 : Int))))))).to () fun v150 =>
  (Res.ok v150).to () fun j163 => (((((gd (mulB (2 : Int) x137) (Res.ok ((2 : Int) * x137)) >>= fun x155 => (Res.ok (x155 + (1 : Int)))) >>= fun x156 => (ixR v134 x156)) >>= fun x157 => (outR (f6 x157))) >>= fun x159 => (Res.ok (v140, v145, x159)))).to () fun v154 => gdO (decide (s136.length < sizeLine) && decide (0 ≤ j163) && decide (j163 < 2 ^ 63))
  (.nx (s136.take j163.toNat ++ [v154] ++ s136.drop j163.toNat)))) (rng 0 n164) s96).then fun s136 : (List (Str × Str × Int)) =>
  .rt s136))
theorem d5 {C : Kc} (X : Kf C) : FnT C R5 (fun k : (List Int) × (List Str) × (List Str) × Unit => [(vL C vInt) k.1, (vL C vStr) k.2.1, (vL C vStr) k.2.2.1]) (oL C fun x => oV ((tv1 C) x)) (fun k => outR (f5 k.1 k.2.1 k.2.2.1)) :=
  fn_read (T := T5) (cs := cs) (n := 3) (N := 14) (s := b5) (fun _ => rfl) (fun _ => rfl) fun ⟨a0, a1, a2, _⟩ =>
  (b_asg (i := 3) (evx (τ := (fun x : Int => oV (vInt x))) (m := (outR (f2 a0 (1 : Int)))) (wk_ev (Γ' := [some (oV ((vL C vInt) a0)), none, none, none, none, none, none, none, none, none, none, none, none, none]) (.keep (.drop (.drop (.drop (.drop (.drop (.drop (.drop (.drop (.drop (.drop (.drop (.drop (.drop .nil)))))))))))))) (ev_flat (ev_see (o := (fun x : Int => oV (vInt x))) (ev_callT (i := 2) (T := T5) (τ := (fun x : Int => oV (vInt x))) (os := fun k => [(vL C vInt) k.1, vInt k.2.1]) (g := (fun k : (List Int) × Int × Unit => (k.1, k.2.1, ()))) (dv := []) (wd := []) (d2 (X := X)) (by exact ⟨by decide, by decide⟩) rfl (fun _ => .nil) (fun _ => rfl) (elv_consP (x := (a0 : (List Int))) (evB_vV (τ := (vL C vInt)) (x := a0) rfl) (elv_consP (x := ((1 : Int) : Int)) (ev_int 1) (elv_nilE (by rfl)))))))) (.drop (.drop (.drop (.drop (.drop (.drop (.drop (.drop (.drop (.drop (.drop (.drop (.drop (.drop .nil))))))))))))))) (fun _ => Nat.le_of_ble_eq_true rfl) fun v87 =>
  (b_asg (i := 4) (evx (τ := (fun x : Int => oV (vInt x))) (m := ((outR (f4 v87 (48271 : Int)) >>= fun x93 => (gd (!decide ((a1.length : Int) = 0)) (Res.ok (Int.fmod x93 (a1.length : Int))))))) (wk_ev (Γ' := [none, some (oV ((vL C vStr) a1)), none, some (oV (vInt v87)), none, none, none, none, none, none, none, none, none, none]) (.drop (.keep (.drop (.keep (.drop (.drop (.drop (.drop (.drop (.drop (.drop (.drop (.drop (.drop .nil)))))))))))))) (ev_flat (ev_binR (op := fun (x : Int) (y : Int) => (gd (!decide (y = 0)) (Res.ok (Int.fmod x y)))) (ma := (outR (f4 v87 (48271 : Int)))) (y := (a1.length : Int)) (ev_see (o := (fun x : Int => oV (vInt x))) (ev_callT (i := 4) (T := T5) (τ := (fun x : Int => oV (vInt x))) (os := fun k => [vInt k.1, vInt k.2.1]) (g := (fun k : Int × Int × Unit => (k.1, k.2.1, ()))) (dv := []) (wd := []) (d4 (X := X)) (by exact ⟨by decide, by decide⟩) rfl (fun _ => .nil) (fun _ => rfl) (elv_consP (x := (v87 : Int)) (evB_vV (τ := vInt) (x := v87) rfl) (elv_consP (x := ((48271 : Int) : Int)) (ev_int 48271) (elv_nilE (by rfl)))))) (ev_blt1P (x := a1) (op := fun x : (List Str) => (Res.ok (x.length : Int))) (evB_vV (τ := (vL C vStr)) (x := a1) rfl) bl_lenL) op_modI))) (.drop (.drop (.drop (.drop (.drop (.drop (.drop (.drop (.drop (.drop (.drop (.drop (.drop (.drop .nil))))))))))))))) (fun _ => Nat.le_of_ble_eq_true rfl) fun v90 =>
  (b_asg (i := 5) (evx (τ := (fun x : (List Str) => oV ((vL C vStr) x))) (m := (gd (decide ((cutL a1 (some v90) none).length + (cutL a1 none (some v90)).length ≤ sizeLine)) (Res.ok ((cutL a1 (some v90) none) ++ (cutL a1 none (some v90)))))) (wk_ev (Γ' := [none, some (oV ((vL C vStr) a1)), none, none, some (oV (vInt v90)), none, none, none, none, none, none, none, none, none]) (.drop (.keep (.drop (.drop (.keep (.drop (.drop (.drop (.drop (.drop (.drop (.drop (.drop (.drop .nil)))))))))))))) (ev_fz (o := (oL C fun x => oV (vStr x))) (ev_catP (x := (cutL a1 (some v90) none)) (y := (cutL a1 none (some v90))) (ev_fz (o := (oL C fun x => oV (vStr x))) (ev_slLP (xs := a1) (i := (some v90)) (j := none) (evO_v (τ := (vL C vStr)) (x := a1) rfl) (eo_someP (i := v90) (evB_vV (τ := vInt) (x := v90) rfl)) eo_none)) (ev_fz (o := (oL C fun x => oV (vStr x))) (ev_slLP (xs := a1) (i := none) (j := (some v90)) (evO_v (τ := (vL C vStr)) (x := a1) rfl) eo_none (eo_someP (i := v90) (evB_vV (τ := vInt) (x := v90) rfl))))))) (.drop (.drop (.drop (.drop (.drop (.drop (.drop (.drop (.drop (.drop (.drop (.drop (.drop (.drop .nil))))))))))))))) (fun _ => Nat.le_of_ble_eq_true rfl) fun v94 =>
  (b_asg (i := 6) (evx (τ := (oL C fun x => oV ((tv1 C) x))) (m := (Res.ok ([] : (List (Str × Str × Int))))) (wk_ev (Γ' := [none, none, none, none, none, none, none, none, none, none, none, none, none, none]) (.drop (.drop (.drop (.drop (.drop (.drop (.drop (.drop (.drop (.drop (.drop (.drop (.drop (.drop .nil)))))))))))))) (ev_lst (τ := (oL C fun x => oV ((tv1 C) x))) (os := (fun _ => [])) (g := (fun _ : Unit => ([] : (List (Str × Str × Int))))) elo_nil (fun _ => Nat.le_of_ble_eq_true rfl) (fun _ => rfl))) (.drop (.drop (.drop (.drop (.drop (.drop (.drop (.drop (.drop (.drop (.drop (.drop (.drop (.drop .nil))))))))))))))) (fun _ => Nat.le_of_ble_eq_true rfl) fun v95 =>
  (by exact (b_forR1 (j := 7) (m := (Res.ok (v94.length : Int))) (Γ0 := fun s96 : (List (Str × Str × Int)) => [some (oV ((vL C vInt) a0)), some (oV ((vL C vStr) a1)), some (oV ((vL C vStr) a2)), some (oV (vInt v87)), some (oV (vInt v90)), some (oV ((vL C vStr) v94)), some ((oL C fun x => oV ((tv1 C) x)) s96), none, none, none, none, none, none, none]) (s0 := v95) (wk_ev (Γ' := [none, none, none, none, none, some (oV ((vL C vStr) v94)), none, none, none, none, none, none, none, none]) (.drop (.drop (.drop (.drop (.drop (.keep (.drop (.drop (.drop (.drop (.drop (.drop (.drop (.drop .nil)))))))))))))) (ev_blt1P (x := v94) (op := fun x : (List Str) => (Res.ok (x.length : Int))) (evB_vV (τ := (vL C vStr)) (x := v94) rfl) bl_lenL)) (.drop (.drop (.drop (.drop (.drop (.drop (.drop (.drop (.drop (.drop (.drop (.drop (.drop (.drop .nil)))))))))))))) (.keep (.keep (.keep (.keep (.keep (.keep (.keep (.drop (.drop (.drop (.drop (.drop (.drop (.drop .nil)))))))))))))) (fun _ => Nat.le_of_ble_eq_true rfl) (fun x97 s96 =>
  (b_asg (i := 10) (evx (τ := (fun x : Int => oV (vInt x))) (m := (((gd (mulB (2 : Int) x97) (Res.ok ((2 : Int) * x97)) >>= fun x99 => (Res.ok ((30269 : Int) + x99))) >>= fun x100 => (outR (f4 v87 x100))))) (wk_ev (Γ' := [none, none, none, some (oV (vInt v87)), none, none, none, some (oV (vInt x97)), none, none, none, none, none, none]) (.drop (.drop (.drop (.keep (.drop (.drop (.drop (.keep (.drop (.drop (.drop (.drop (.drop (.drop .nil)))))))))))))) (ev_flat (ev_see (o := (fun x : Int => oV (vInt x))) (ev_callT (i := 4) (T := T5) (τ := (fun x : Int => oV (vInt x))) (os := fun k => [vInt k.1, vInt k.2.1]) (g := (fun k : Int × Int × Unit => (k.1, k.2.1, ()))) (dv := []) (wd := []) (d4 (X := X)) (by exact ⟨by decide, by decide⟩) rfl (fun _ => .nil) (fun _ => rfl) (elv_consP (x := (v87 : Int)) (evB_vV (τ := vInt) (x := v87) rfl) (elv_cons (m := ((gd (mulB (2 : Int) x97) (Res.ok ((2 : Int) * x97)) >>= fun x99 => (Res.ok ((30269 : Int) + x99))))) (ev_binL (op := fun (x : Int) (y : Int) => (Res.ok (x + y))) (x := (30269 : Int)) (mb := (gd (mulB (2 : Int) x97) (Res.ok ((2 : Int) * x97)))) (ev_int 30269) (ev_binP (op := fun (x : Int) (y : Int) => (gd (mulB x y) (Res.ok (x * y)))) (x := (2 : Int)) (y := x97) (ev_int 2) (evB_vV (τ := vInt) (x := x97) rfl) op_mulI) op_addI) fun y102 => (elv_nilE (by rfl)))))))) (.drop (.drop (.drop (.drop (.drop (.drop (.drop (.drop (.drop (.drop (.drop (.drop (.drop (.drop .nil))))))))))))))) (fun _ => Nat.le_of_ble_eq_true rfl) fun v98 =>
  (b_asg (i := 11) (evx (τ := (fun x : Str => oV (vStr x))) (m := ((gd (!decide ((a2.length : Int) = 0)) (Res.ok (Int.fmod v98 (a2.length : Int))) >>= fun x104 => (ixR a2 x104)))) (wk_ev (Γ' := [none, none, some (oV ((vL C vStr) a2)), none, none, none, none, none, none, none, some (oV (vInt v98)), none, none, none]) (.drop (.drop (.keep (.drop (.drop (.drop (.drop (.drop (.drop (.drop (.keep (.drop (.drop (.drop .nil)))))))))))))) (ev_flat (ev_ixL (op := ixR) (x := a2) (mb := (gd (!decide ((a2.length : Int) = 0)) (Res.ok (Int.fmod v98 (a2.length : Int))))) (evB_vV (τ := (vL C vStr)) (x := a2) rfl) (ev_binP (op := fun (x : Int) (y : Int) => (gd (!decide (y = 0)) (Res.ok (Int.fmod x y)))) (x := v98) (y := (a2.length : Int)) (evB_vV (τ := vInt) (x := v98) rfl) (ev_blt1P (x := a2) (op := fun x : (List Str) => (Res.ok (x.length : Int))) (evB_vV (τ := (vL C vStr)) (x := a2) rfl) bl_lenL) op_modI) op_ixL))) (.drop (.drop (.drop (.drop (.drop (.drop (.drop (.drop (.drop (.drop (.drop (.drop (.drop (.drop .nil))))))))))))))) (fun _ => Nat.le_of_ble_eq_true rfl) fun v103 =>
  (b_seq (Γ1 := fun s111 : Str => [some (oV ((vL C vInt) a0)), some (oV ((vL C vStr) a1)), some (oV ((vL C vStr) a2)), some (oV (vInt v87)), some (oV (vInt v90)), some (oV ((vL C vStr) v94)), some ((oL C fun x => oV ((tv1 C) x)) s96), some (oV (vInt x97)), none, none, some (oV (vInt v98)), some (oV (vStr s111)), none, none]) (b_if (m := (andR (Res.ok (decide ((0 : Int) < x97))) (((gd (divOk (7 : Int)) (Res.ok (Int.fdiv v98 (7 : Int))) >>= fun x105 => (gd (!decide ((3 : Int) = 0)) (Res.ok (Int.fmod x105 (3 : Int))))) >>= fun x106 => (Res.ok (!decide (x106 = (0 : Int)))))))) (wk_evT (Γ' := [none, none, none, none, none, none, none, some (oV (vInt x97)), none, none, some (oV (vInt v98)), none, none, none]) (.drop (.drop (.drop (.drop (.drop (.drop (.drop (.keep (.drop (.drop (.keep (.drop (.drop (.drop .nil)))))))))))))) (ev_andT (ev_a2 (m := (Res.ok (decide ((0 : Int) < x97)))) (n := (((gd (divOk (7 : Int)) (Res.ok (Int.fdiv v98 (7 : Int))) >>= fun x105 => (gd (!decide ((3 : Int) = 0)) (Res.ok (Int.fmod x105 (3 : Int))))) >>= fun x106 => (Res.ok (!decide (x106 = (0 : Int))))))) (ev_test (ev_cmpP (op := fun (x : Int) (y : Int) => (Res.ok (decide (y < x)))) (x := x97) (y := (0 : Int)) (evB_vV (τ := vInt) (x := x97) rfl) (ev_int 0) op_gt)) (ev_a1 (m := (((gd (divOk (7 : Int)) (Res.ok (Int.fdiv v98 (7 : Int))) >>= fun x105 => (gd (!decide ((3 : Int) = 0)) (Res.ok (Int.fmod x105 (3 : Int))))) >>= fun x106 => (Res.ok (!decide (x106 = (0 : Int))))))) (ev_test (ev_cmpR (op := fun (x : Int) (y : Int) => (Res.ok (!decide (x = y)))) (ma := ((gd (divOk (7 : Int)) (Res.ok (Int.fdiv v98 (7 : Int))) >>= fun x105 => (gd (!decide ((3 : Int) = 0)) (Res.ok (Int.fmod x105 (3 : Int))))))) (y := (0 : Int)) (ev_binR (op := fun (x : Int) (y : Int) => (gd (!decide (y = 0)) (Res.ok (Int.fmod x y)))) (ma := (gd (divOk (7 : Int)) (Res.ok (Int.fdiv v98 (7 : Int))))) (y := (3 : Int)) (ev_binP (op := fun (x : Int) (y : Int) => (gd (divOk y) (Res.ok (Int.fdiv x y)))) (x := v98) (y := (7 : Int)) (evB_vV (τ := vInt) (x := v98) rfl) (ev_int 7) op_divI) (ev_int 3) op_modI) (ev_int 0) op_neI)))))) (.drop (.drop (.drop (.drop (.drop (.drop (.drop (.drop (.drop (.drop (.drop (.drop (.drop (.drop .nil))))))))))))))
  (by exact (b_asg (i := 11) (evx (τ := (fun x : Str => oV (vStr x))) (m := (((gd (divOk (21 : Int)) (Res.ok (Int.fdiv v98 (21 : Int))) >>= fun x109 => (gd (!decide (x97 = 0)) (Res.ok (Int.fmod x109 x97)))) >>= fun x110 => (ixR v94 x110)))) (wk_ev (Γ' := [none, none, none, none, none, some (oV ((vL C vStr) v94)), none, some (oV (vInt x97)), none, none, some (oV (vInt v98)), none, none, none]) (.drop (.drop (.drop (.drop (.drop (.keep (.drop (.keep (.drop (.drop (.keep (.drop (.drop (.drop .nil)))))))))))))) (ev_flat (ev_ixL (op := ixR) (x := v94) (mb := ((gd (divOk (21 : Int)) (Res.ok (Int.fdiv v98 (21 : Int))) >>= fun x109 => (gd (!decide (x97 = 0)) (Res.ok (Int.fmod x109 x97)))))) (evB_vV (τ := (vL C vStr)) (x := v94) rfl) (ev_binR (op := fun (x : Int) (y : Int) => (gd (!decide (y = 0)) (Res.ok (Int.fmod x y)))) (ma := (gd (divOk (21 : Int)) (Res.ok (Int.fdiv v98 (21 : Int))))) (y := x97) (ev_binP (op := fun (x : Int) (y : Int) => (gd (divOk y) (Res.ok (Int.fdiv x y)))) (x := v98) (y := (21 : Int)) (evB_vV (τ := vInt) (x := v98) rfl) (ev_int 21) op_divI) (evB_vV (τ := vInt) (x := x97) rfl) op_modI) op_ixL))) (.drop (.drop (.drop (.drop (.drop (.drop (.drop (.drop (.drop (.drop (.drop (.drop (.drop (.drop .nil))))))))))))))) (fun _ => Nat.le_of_ble_eq_true rfl) fun v108 =>
  (b_nop (.keep (.keep (.keep (.keep (.keep (.keep (.keep (.keep (.drop (.drop (.keep (.keep (.drop (.drop .nil)))))))))))))))))
  (by exact (b_nop (.keep (.keep (.keep (.keep (.keep (.keep (.keep (.keep (.drop (.drop (.keep (.keep (.drop (.drop .nil))))))))))))))))) fun s111 =>
  (p_app (m := ((ixR v94 x97 >>= fun x129 => (((((gd (mulB (2 : Int) x97) (Res.ok ((2 : Int) * x97)) >>= fun x123 => (Res.ok ((40692 : Int) + x123))) >>= fun x124 => (outR (f4 v87 x124))) >>= fun x127 => (outR (f6 x127))) >>= fun x130 => (Res.ok (s111, x129, x130))))))) (τ := (fun x : (Str × Str × Int) => oV ((tv1 C) x))) (xs := s96) (pl_v (i := 6) (τ := (oL C fun x => oV ((tv1 C) x))) (x := s96) rfl) (wk_ev (Γ' := [none, none, none, some (oV (vInt v87)), none, some (oV ((vL C vStr) v94)), none, some (oV (vInt x97)), none, none, none, some (oV (vStr s111)), none, none]) (.drop (.drop (.drop (.keep (.drop (.keep (.drop (.keep (.drop (.drop (.drop (.keep (.drop (.drop .nil)))))))))))))) (ev_fz (o := (to1 C)) (ev_tup (τ := (to1 C)) (os := (fun k => [oV (vStr k.1), oV (vStr k.2.1), oV (vInt k.2.2.1)])) (g := (fun k : Str × Str × Int × Unit => (k.1, k.2.1, k.2.2.1))) (elo_consP (x := (s111 : Str)) (ev_flat (evB_vV (τ := vStr) (x := s111) rfl)) (elo_cons (m := (ixR v94 x97)) (ev_flat (ev_ixP (op := ixR) (x := v94) (y := x97) (evB_vV (τ := (vL C vStr)) (x := v94) rfl) (evB_vV (τ := vInt) (x := x97) rfl) op_ixL)) fun y132 => (elo_cons (m := ((((gd (mulB (2 : Int) x97) (Res.ok ((2 : Int) * x97)) >>= fun x123 => (Res.ok ((40692 : Int) + x123))) >>= fun x124 => (outR (f4 v87 x124))) >>= fun x127 => (outR (f6 x127))))) (ev_flat (ev_see (o := (fun x : Int => oV (vInt x))) (ev_callT (i := 6) (T := T5) (τ := (fun x : Int => oV (vInt x))) (os := fun k => [vInt k.1]) (g := (fun k : Int × Unit => (k.1, ()))) (dv := []) (wd := []) (d6 (X := X)) (by exact ⟨by decide, by decide⟩) rfl (fun _ => .nil) (fun _ => rfl) (elv_cons (m := (((gd (mulB (2 : Int) x97) (Res.ok ((2 : Int) * x97)) >>= fun x123 => (Res.ok ((40692 : Int) + x123))) >>= fun x124 => (outR (f4 v87 x124))))) (ev_see (o := (fun x : Int => oV (vInt x))) (ev_callT (i := 4) (T := T5) (τ := (fun x : Int => oV (vInt x))) (os := fun k => [vInt k.1, vInt k.2.1]) (g := (fun k : Int × Int × Unit => (k.1, k.2.1, ()))) (dv := []) (wd := []) (d4 (X := X)) (by exact ⟨by decide, by decide⟩) rfl (fun _ => .nil) (fun _ => rfl) (elv_consP (x := (v87 : Int)) (evB_vV (τ := vInt) (x := v87) rfl) (elv_cons (m := ((gd (mulB (2 : Int) x97) (Res.ok ((2 : Int) * x97)) >>= fun x123 => (Res.ok ((40692 : Int) + x123))))) (ev_binL (op := fun (x : Int) (y : Int) => (Res.ok (x + y))) (x := (40692 : Int)) (mb := (gd (mulB (2 : Int) x97) (Res.ok ((2 : Int) * x97)))) (ev_int 40692) (ev_binP (op := fun (x : Int) (y : Int) => (gd (mulB x y) (Res.ok (x * y)))) (x := (2 : Int)) (y := x97) (ev_int 2) (evB_vV (τ := vInt) (x := x97) rfl) op_mulI) op_addI) fun y126 => (elv_nilE (by rfl)))))) fun y128 => (elv_nilE (by rfl)))))) fun y133 => (elo_nilE (by rfl))))) (fun _ => Nat.le_of_ble_eq_true rfl) (fun _ => rfl)))) (Cv.wk (.drop (.drop (.drop (.drop (.drop (.drop (.drop (.drop (.drop (.drop (.drop (.drop (.drop (.drop .nil))))))))))))))) fun v112 =>
  (b_nop (.keep (.keep (.keep (.keep (.keep (.keep (.keep (.drop (.drop (.drop (.drop (.drop (.drop (.drop .nil)))))))))))))))))))) fun s96 =>
  (b_asg (i := 8) (evx (τ := (fun x : (List Int) => oV ((vL C vInt) x))) (m := (Res.ok (cutL a0 (some (4 : Int)) (some (52 : Int))))) (wk_ev (Γ' := [some (oV ((vL C vInt) a0)), none, none, none, none, none, none, none, none, none, none, none, none, none]) (.keep (.drop (.drop (.drop (.drop (.drop (.drop (.drop (.drop (.drop (.drop (.drop (.drop (.drop .nil)))))))))))))) (ev_fz (o := (oL C fun x => oV (vInt x))) (ev_slLP (xs := a0) (i := (some (4 : Int))) (j := (some (52 : Int))) (evO_v (τ := (vL C vInt)) (x := a0) rfl) (eo_someP (i := (4 : Int)) (ev_int 4)) (eo_someP (i := (52 : Int)) (ev_int 52))))) (.drop (.drop (.drop (.drop (.drop (.drop (.drop (.drop (.drop (.drop (.drop (.drop (.drop (.drop .nil))))))))))))))) (fun _ => Nat.le_of_ble_eq_true rfl) fun v134 =>
  (b_asg (i := 9) (evx (τ := (fun x : (List Str) => oV ((vL C vStr) x))) (m := (gd (decide (a1.length + a2.length ≤ sizeLine)) (Res.ok (a1 ++ a2)))) (wk_ev (Γ' := [none, some (oV ((vL C vStr) a1)), some (oV ((vL C vStr) a2)), none, none, none, none, none, none, none, none, none, none, none]) (.drop (.keep (.keep (.drop (.drop (.drop (.drop (.drop (.drop (.drop (.drop (.drop (.drop (.drop .nil)))))))))))))) (ev_fz (o := (oL C fun x => oV (vStr x))) (ev_catP (x := a1) (y := a2) (evO_v (τ := (vL C vStr)) (x := a1) rfl) (evO_v (τ := (vL C vStr)) (x := a2) rfl)))) (.drop (.drop (.drop (.drop (.drop (.drop (.drop (.drop (.drop (.drop (.drop (.drop (.drop (.drop .nil))))))))))))))) (fun _ => Nat.le_of_ble_eq_true rfl) fun v135 =>
  (b_forR1 (j := 7) (m := (gd (divOk (2 : Int)) (Res.ok (Int.fdiv (v134.length : Int) (2 : Int))))) (Γ0 := fun s136 : (List (Str × Str × Int)) => [some (oV ((vL C vInt) a0)), some (oV ((vL C vStr) a1)), some (oV ((vL C vStr) a2)), some (oV (vInt v87)), some (oV (vInt v90)), some (oV ((vL C vStr) v94)), some ((oL C fun x => oV ((tv1 C) x)) s136), none, some (oV ((vL C vInt) v134)), some (oV ((vL C vStr) v135)), none, none, none, none]) (s0 := s96) (wk_ev (Γ' := [none, none, none, none, none, none, none, none, some (oV ((vL C vInt) v134)), none, none, none, none, none]) (.drop (.drop (.drop (.drop (.drop (.drop (.drop (.drop (.keep (.drop (.drop (.drop (.drop (.drop .nil)))))))))))))) (ev_binP (op := fun (x : Int) (y : Int) => (gd (divOk y) (Res.ok (Int.fdiv x y)))) (x := (v134.length : Int)) (y := (2 : Int)) (ev_blt1P (x := v134) (op := fun x : (List Int) => (Res.ok (x.length : Int))) (evB_vV (τ := (vL C vInt)) (x := v134) rfl) bl_lenL) (ev_int 2) op_divI)) (.drop (.drop (.drop (.drop (.drop (.drop (.drop (.drop (.drop (.drop (.drop (.drop (.drop (.drop .nil)))))))))))))) (.keep (.keep (.keep (.keep (.keep (.keep (.keep (.drop (.keep (.keep (.drop (.drop (.drop (.drop .nil)))))))))))))) (fun _ => Nat.le_of_ble_eq_true rfl) (fun x137 s136 =>
  (b_asg (i := 10) (evx (τ := (fun x : Int => oV (vInt x))) (m := ((gd (mulB (2 : Int) x137) (Res.ok ((2 : Int) * x137)) >>= fun x139 => (ixR v134 x139)))) (wk_ev (Γ' := [none, none, none, none, none, none, none, some (oV (vInt x137)), some (oV ((vL C vInt) v134)), none, none, none, none, none]) (.drop (.drop (.drop (.drop (.drop (.drop (.drop (.keep (.keep (.drop (.drop (.drop (.drop (.drop .nil)))))))))))))) (ev_flat (ev_ixL (op := ixR) (x := v134) (mb := (gd (mulB (2 : Int) x137) (Res.ok ((2 : Int) * x137)))) (evB_vV (τ := (vL C vInt)) (x := v134) rfl) (ev_binP (op := fun (x : Int) (y : Int) => (gd (mulB x y) (Res.ok (x * y)))) (x := (2 : Int)) (y := x137) (ev_int 2) (evB_vV (τ := vInt) (x := x137) rfl) op_mulI) op_ixL))) (.drop (.drop (.drop (.drop (.drop (.drop (.drop (.drop (.drop (.drop (.drop (.drop (.drop (.drop .nil))))))))))))))) (fun _ => Nat.le_of_ble_eq_true rfl) fun v138 =>
  (b_asg (i := 11) (evx (τ := (fun x : Str => oV (vStr x))) (m := (((outR (f4 v138 (48271 : Int)) >>= fun x143 => (gd (!decide ((v135.length : Int) = 0)) (Res.ok (Int.fmod x143 (v135.length : Int))))) >>= fun x144 => (ixR v135 x144)))) (wk_ev (Γ' := [none, none, none, none, none, none, none, none, none, some (oV ((vL C vStr) v135)), some (oV (vInt v138)), none, none, none]) (.drop (.drop (.drop (.drop (.drop (.drop (.drop (.drop (.drop (.keep (.keep (.drop (.drop (.drop .nil)))))))))))))) (ev_flat (ev_ixL (op := ixR) (x := v135) (mb := ((outR (f4 v138 (48271 : Int)) >>= fun x143 => (gd (!decide ((v135.length : Int) = 0)) (Res.ok (Int.fmod x143 (v135.length : Int))))))) (evB_vV (τ := (vL C vStr)) (x := v135) rfl) (ev_binR (op := fun (x : Int) (y : Int) => (gd (!decide (y = 0)) (Res.ok (Int.fmod x y)))) (ma := (outR (f4 v138 (48271 : Int)))) (y := (v135.length : Int)) (ev_see (o := (fun x : Int => oV (vInt x))) (ev_callT (i := 4) (T := T5) (τ := (fun x : Int => oV (vInt x))) (os := fun k => [vInt k.1, vInt k.2.1]) (g := (fun k : Int × Int × Unit => (k.1, k.2.1, ()))) (dv := []) (wd := []) (d4 (X := X)) (by exact ⟨by decide, by decide⟩) rfl (fun _ => .nil) (fun _ => rfl) (elv_consP (x := (v138 : Int)) (evB_vV (τ := vInt) (x := v138) rfl) (elv_consP (x := ((48271 : Int) : Int)) (ev_int 48271) (elv_nilE (by rfl)))))) (ev_blt1P (x := v135) (op := fun x : (List Str) => (Res.ok (x.length : Int))) (evB_vV (τ := (vL C vStr)) (x := v135) rfl) bl_lenL) op_modI) op_ixL))) (.drop (.drop (.drop (.drop (.drop (.drop (.drop (.drop (.drop (.drop (.drop (.drop (.drop (.drop .nil))))))))))))))) (fun _ => Nat.le_of_ble_eq_true rfl) fun v140 =>
  (b_asg (i := 12) (evx (τ := (fun x : Str => oV (vStr x))) (m := (((outR (f4 v138 (69621 : Int)) >>= fun x148 => (gd (!decide ((a1.length : Int) = 0)) (Res.ok (Int.fmod x148 (a1.length : Int))))) >>= fun x149 => (ixR a1 x149)))) (wk_ev (Γ' := [none, some (oV ((vL C vStr) a1)), none, none, none, none, none, none, none, none, some (oV (vInt v138)), none, none, none]) (.drop (.keep (.drop (.drop (.drop (.drop (.drop (.drop (.drop (.drop (.keep (.drop (.drop (.drop .nil)))))))))))))) (ev_flat (ev_ixL (op := ixR) (x := a1) (mb := ((outR (f4 v138 (69621 : Int)) >>= fun x148 => (gd (!decide ((a1.length : Int) = 0)) (Res.ok (Int.fmod x148 (a1.length : Int))))))) (evB_vV (τ := (vL C vStr)) (x := a1) rfl) (ev_binR (op := fun (x : Int) (y : Int) => (gd (!decide (y = 0)) (Res.ok (Int.fmod x y)))) (ma := (outR (f4 v138 (69621 : Int)))) (y := (a1.length : Int)) (ev_see (o := (fun x : Int => oV (vInt x))) (ev_callT (i := 4) (T := T5) (τ := (fun x : Int => oV (vInt x))) (os := fun k => [vInt k.1, vInt k.2.1]) (g := (fun k : Int × Int × Unit => (k.1, k.2.1, ()))) (dv := []) (wd := []) (d4 (X := X)) (by exact ⟨by decide, by decide⟩) rfl (fun _ => .nil) (fun _ => rfl) (elv_consP (x := (v138 : Int)) (evB_vV (τ := vInt) (x := v138) rfl) (elv_consP (x := ((69621 : Int) : Int)) (ev_int 69621) (elv_nilE (by rfl)))))) (ev_blt1P (x := a1) (op := fun x : (List Str) => (Res.ok (x.length : Int))) (evB_vV (τ := (vL C vStr)) (x := a1) rfl) bl_lenL) op_modI) op_ixL))) (.drop (.drop (.drop (.drop (.drop (.drop (.drop (.drop (.drop (.drop (.drop (.drop (.drop (.drop .nil))))))))))))))) (fun _ => Nat.le_of_ble_eq_true rfl) fun v145 =>
  (b_asg (i := 13) (evx (τ := (fun x : Int => oV (vInt x))) (m := ((outR (f4 v138 (16807 : Int)) >>= fun x153 => (gd (!decide (((s136.length : Int) + (1 : Int)) = 0)) (Res.ok (Int.fmod x153 ((s136.length : Int) + (1 : Int)))))))) (bor_evC (Γ' := [none, none, none, none, none, none, some (oV ((vL C (tv1 C)) s136)), none, none, none, some (oV (vInt v138)), none, none, none]) (.drop (.drop (.drop (.drop (.drop (.drop (.put (OwV.eq (o := (oL C fun x => oV ((tv1 C) x))) s136) (.drop (.drop (.drop (.put rfl (.drop (.drop (.drop .nil)))))))))))))) (ev_flat (ev_binR (op := fun (x : Int) (y : Int) => (gd (!decide (y = 0)) (Res.ok (Int.fmod x y)))) (ma := (outR (f4 v138 (16807 : Int)))) (y := ((s136.length : Int) + (1 : Int))) (ev_see (o := (fun x : Int => oV (vInt x))) (ev_callT (i := 4) (T := T5) (τ := (fun x : Int => oV (vInt x))) (os := fun k => [vInt k.1, vInt k.2.1]) (g := (fun k : Int × Int × Unit => (k.1, k.2.1, ()))) (dv := []) (wd := []) (d4 (X := X)) (by exact ⟨by decide, by decide⟩) rfl (fun _ => .nil) (fun _ => rfl) (elv_consP (x := (v138 : Int)) (evB_vV (τ := vInt) (x := v138) rfl) (elv_consP (x := ((16807 : Int) : Int)) (ev_int 16807) (elv_nilE (by rfl)))))) (ev_binP (op := fun (x : Int) (y : Int) => (Res.ok (x + y))) (x := (s136.length : Int)) (y := (1 : Int)) (ev_blt1P (x := s136) (op := fun x : (List (Str × Str × Int)) => (Res.ok (x.length : Int))) (evB_vV (τ := (vL C (tv1 C))) (x := s136) rfl) bl_lenL) (ev_int 1) op_addI) op_modI))) (.drop (.drop (.drop (.drop (.drop (.drop (.drop (.drop (.drop (.drop (.drop (.drop (.drop (.drop .nil))))))))))))))) (fun _ => Nat.le_of_ble_eq_true rfl) fun v150 =>
  (p_ins (mj := (Res.ok v150)) (m := (((((gd (mulB (2 : Int) x137) (Res.ok ((2 : Int) * x137)) >>= fun x155 => (Res.ok (x155 + (1 : Int)))) >>= fun x156 => (ixR v134 x156)) >>= fun x157 => (outR (f6 x157))) >>= fun x159 => (Res.ok (v140, v145, x159))))) (τ := (fun x : (Str × Str × Int) => oV ((tv1 C) x))) (xs := s136) (pl_v (i := 6) (τ := (oL C fun x => oV ((tv1 C) x))) (x := s136) rfl) (wk_ev (Γ' := [none, none, none, none, none, none, none, none, none, none, none, none, none, some (oV (vInt v150))]) (.drop (.drop (.drop (.drop (.drop (.drop (.drop (.drop (.drop (.drop (.drop (.drop (.drop (.keep .nil)))))))))))))) (evB_vV (τ := vInt) (x := v150) rfl)) (wk_ev (Γ' := [none, none, none, none, none, none, none, some (oV (vInt x137)), some (oV ((vL C vInt) v134)), none, none, some (oV (vStr v140)), some (oV (vStr v145)), none]) (.drop (.drop (.drop (.drop (.drop (.drop (.drop (.keep (.keep (.drop (.drop (.keep (.keep (.drop .nil)))))))))))))) (ev_fz (o := (to1 C)) (ev_tup (τ := (to1 C)) (os := (fun k => [oV (vStr k.1), oV (vStr k.2.1), oV (vInt k.2.2.1)])) (g := (fun k : Str × Str × Int × Unit => (k.1, k.2.1, k.2.2.1))) (elo_consP (x := (v140 : Str)) (ev_flat (evB_vV (τ := vStr) (x := v140) rfl)) (elo_consP (x := (v145 : Str)) (ev_flat (evB_vV (τ := vStr) (x := v145) rfl)) (elo_cons (m := ((((gd (mulB (2 : Int) x137) (Res.ok ((2 : Int) * x137)) >>= fun x155 => (Res.ok (x155 + (1 : Int)))) >>= fun x156 => (ixR v134 x156)) >>= fun x157 => (outR (f6 x157))))) (ev_flat (ev_see (o := (fun x : Int => oV (vInt x))) (ev_callT (i := 6) (T := T5) (τ := (fun x : Int => oV (vInt x))) (os := fun k => [vInt k.1]) (g := (fun k : Int × Unit => (k.1, ()))) (dv := []) (wd := []) (d6 (X := X)) (by exact ⟨by decide, by decide⟩) rfl (fun _ => .nil) (fun _ => rfl) (elv_cons (m := (((gd (mulB (2 : Int) x137) (Res.ok ((2 : Int) * x137)) >>= fun x155 => (Res.ok (x155 + (1 : Int)))) >>= fun x156 => (ixR v134 x156)))) (ev_ixL (op := ixR) (x := v134) (mb := ((gd (mulB (2 : Int) x137) (Res.ok ((2 : Int) * x137)) >>= fun x155 => (Res.ok (x155 + (1 : Int)))))) (evB_vV (τ := (vL C vInt)) (x := v134) rfl) (ev_binR (op := fun (x : Int) (y : Int) => (Res.ok (x + y))) (ma := (gd (mulB (2 : Int) x137) (Res.ok ((2 : Int) * x137)))) (y := (1 : Int)) (ev_binP (op := fun (x : Int) (y : Int) => (gd (mulB x y) (Res.ok (x * y)))) (x := (2 : Int)) (y := x137) (ev_int 2) (evB_vV (τ := vInt) (x := x137) rfl) op_mulI) (ev_int 1) op_addI) op_ixL) fun y158 => (elv_nilE (by rfl)))))) fun y162 => (elo_nilE (by rfl))))) (fun _ => Nat.le_of_ble_eq_true rfl) (fun _ => rfl)))) (Cv.wk (.drop (.drop (.drop (.drop (.drop (.drop (.drop (.drop (.drop (.drop (.drop (.drop (.drop (.drop .nil))))))))))))))) fun j163 v154 =>
  (b_nop (.keep (.keep (.keep (.keep (.keep (.keep (.keep (.drop (.keep (.keep (.drop (.drop (.drop (.drop .nil))))))))))))))))))))) fun s136 =>
  (b_ret (g := fun _ : Unit => s136) (evx_mv (i := 6) rfl) (fun _ => Le.refl _) (fun _ => (.drop (.drop (.drop (.drop (.drop (.drop (.drop (.drop (.drop (.drop (.drop (.drop (.drop (.drop .nil)))))))))))))))))))))))))
def f9 (a0 : (List (Str × Str × Int))) (a1 : Str) (a2 : Str) : Out Unit Unit Int Unit :=
  ((gd (decide (a0.length ≤ sizeLine)) (lcR (fun z181 : (Str × Str × Int) => (andR (eqR (PyData.str z181.1) (PyData.str a1)) (eqR (PyData.str z181.2.1) (PyData.str a2)))) (fun z181 : (Str × Str × Int) => (Res.ok z181.2.2)) a0) >>= fun x182 => (Res.ok x182.sum))).to () fun r183 => .rt r183
theorem d9 {C : Kc} (X : Kf C) : FnT C R9 (fun k : (List (Str × Str × Int)) × Str × Str × Unit => [(vL C (tv1 C)) k.1, vStr k.2.1, vStr k.2.2.1]) (fun x : Int => oV (vInt x)) (fun k => outR (f9 k.1 k.2.1 k.2.2.1)) :=
  fn_read (T := T9) (cs := cs) (n := 3) (N := 4) (s := b9) (fun _ => rfl) (fun _ => rfl) fun ⟨a0, a1, a2, _⟩ =>
  (b_ret (g := fun r183 => r183) (evx (m := ((gd (decide (a0.length ≤ sizeLine)) (lcR (fun z181 : (Str × Str × Int) => (andR (eqR (PyData.str z181.1) (PyData.str a1)) (eqR (PyData.str z181.2.1) (PyData.str a2)))) (fun z181 : (Str × Str × Int) => (Res.ok z181.2.2)) a0) >>= fun x182 => (Res.ok x182.sum)))) (wk_ev (Γ' := [some (oV ((vL C (tv1 C)) a0)), some (oV (vStr a1)), some (oV (vStr a2)), none]) (.keep (.keep (.keep (.drop .nil)))) (ev_flat (ev_blt1 (ma := (gd (decide (a0.length ≤ sizeLine)) (lcR (fun z181 : (Str × Str × Int) => (andR (eqR (PyData.str z181.1) (PyData.str a1)) (eqR (PyData.str z181.2.1) (PyData.str a2)))) (fun z181 : (Str × Str × Int) => (Res.ok z181.2.2)) a0))) (op := fun x : (List Int) => (Res.ok x.sum)) (ev_see (o := (oL C fun x => oV (vInt x))) (ev_lcP (xs := a0) (τ := (tv1 C)) (ε := (fun x : Int => oV (vInt x))) (c := fun z181 : (Str × Str × Int) => (andR (eqR (PyData.str z181.1) (PyData.str a1)) (eqR (PyData.str z181.2.1) (PyData.str a2)))) (f := fun z181 : (Str × Str × Int) => (Res.ok z181.2.2)) (evO_v (τ := (vL C (tv1 C))) (x := a0) rfl) (fun z181 => (eps_one (ev_andT (ev_a2 (m := (eqR (PyData.str z181.1) (PyData.str a1))) (n := (eqR (PyData.str z181.2.1) (PyData.str a2))) (ev_test (ev_cmpP (op := fun (x : Str) (y : Str) => eqR (PyData.str x) (PyData.str y)) (x := z181.1) (y := a1) (ev_pickP (x := z181) (ws := fun x : (Str × Str × Int) => [vStr x.1, vStr x.2.1, vInt x.2.2]) (τ := vStr) (f := fun x : (Str × Str × Int) => x.1) (evB_vV (τ := (tv1 C)) (x := z181) rfl) fun _ => rfl) (evB_vV (τ := vStr) (x := a1) rfl) op_eq)) (ev_a1 (m := (eqR (PyData.str z181.2.1) (PyData.str a2))) (ev_test (ev_cmpP (op := fun (x : Str) (y : Str) => eqR (PyData.str x) (PyData.str y)) (x := z181.2.1) (y := a2) (ev_pickP (x := z181) (ws := fun x : (Str × Str × Int) => [vStr x.1, vStr x.2.1, vInt x.2.2]) (τ := vStr) (f := fun x : (Str × Str × Int) => x.2.1) (evB_vV (τ := (tv1 C)) (x := z181) rfl) fun _ => rfl) (evB_vV (τ := vStr) (x := a2) rfl) op_eq))))))) (fun z181 => (ev_flat (ev_pickP (x := z181) (ws := fun x : (Str × Str × Int) => [vStr x.1, vStr x.2.1, vInt x.2.2]) (τ := vInt) (f := fun x : (Str × Str × Int) => x.2.2) (evB_vV (τ := (tv1 C)) (x := z181) rfl) fun _ => rfl))))) bl_sum))) (.drop (.drop (.drop (.drop .nil))))) (fun _ => Le.refl _) (fun _ => (.drop (.drop (.drop (.drop .nil))))))
def f10 (a0 : Int) : Out Unit Unit Bool Unit :=
  (Res.ok (true && (!false))).to () fun r187 => .rt r187
theorem d10 {C : Kc} (X : Kf C) : FnT C R10 (fun k : Int × Unit => [vInt k.1]) (fun x : Bool => oV (vBl x)) (fun k => outR (f10 k.1)) :=
  fn_read (T := T10) (cs := cs) (n := 1) (N := 1) (s := b10) (fun _ => rfl) (fun _ => rfl) fun ⟨a0, _⟩ =>
  (b_ret (g := fun r187 => r187) (evx (m := (Res.ok (true && (!false)))) (wk_ev (Γ' := [some (oV (vInt a0))]) (.keep .nil) (ev_flat (ev_andV (ev_av2p (x := true) (y := (!false)) (ev_isiTP (x := a0) (b := true) (evB_vV (τ := vInt) (x := a0) rfl) (by decide) (by decide) (by decide)) (ev_av1 (m := (Res.ok (!false))) (ev_notBP (b := false) (ev_isiTP (x := a0) (b := false) (evB_vV (τ := vInt) (x := a0) rfl) (by decide) (by decide) (by decide)))))))) (.drop .nil)) (fun _ => Le.refl _) (fun _ => (.drop .nil)))
def f11 (a0 : (List (Str × Str × Int))) (a1 : Str) (a2 : Str) : Out Unit Unit Int Unit :=
  ((gd (decide (a0.length ≤ sizeLine)) (lcR (fun z190 : (Str × Str × Int) => (andR (eqR (PyData.str z190.1) (PyData.str a1)) (eqR (PyData.str z190.2.1) (PyData.str a2)))) (fun z190 : (Str × Str × Int) => (Res.ok z190.2.2)) a0) >>= fun x191 => (Res.ok x191.sum))).to () fun r192 => .rt r192
theorem d11 {C : Kc} (X : Kf C) : FnT C R11 (fun k : (List (Str × Str × Int)) × Str × Str × Unit => [(vL C (tv1 C)) k.1, vStr k.2.1, vStr k.2.2.1]) (fun x : Int => oV (vInt x)) (fun k => outR (f11 k.1 k.2.1 k.2.2.1)) :=
  fn_read (T := T11) (cs := cs) (n := 3) (N := 4) (s := b11) (fun _ => rfl) (fun _ => rfl) fun ⟨a0, a1, a2, _⟩ =>
  (b_ret (g := fun r192 => r192) (evx (m := ((gd (decide (a0.length ≤ sizeLine)) (lcR (fun z190 : (Str × Str × Int) => (andR (eqR (PyData.str z190.1) (PyData.str a1)) (eqR (PyData.str z190.2.1) (PyData.str a2)))) (fun z190 : (Str × Str × Int) => (Res.ok z190.2.2)) a0) >>= fun x191 => (Res.ok x191.sum)))) (wk_ev (Γ' := [some (oV ((vL C (tv1 C)) a0)), some (oV (vStr a1)), some (oV (vStr a2)), none]) (.keep (.keep (.keep (.drop .nil)))) (ev_flat (ev_blt1 (ma := (gd (decide (a0.length ≤ sizeLine)) (lcR (fun z190 : (Str × Str × Int) => (andR (eqR (PyData.str z190.1) (PyData.str a1)) (eqR (PyData.str z190.2.1) (PyData.str a2)))) (fun z190 : (Str × Str × Int) => (Res.ok z190.2.2)) a0))) (op := fun x : (List Int) => (Res.ok x.sum)) (ev_see (o := (oL C fun x => oV (vInt x))) (ev_lcP (xs := a0) (τ := (tv1 C)) (ε := (fun x : Int => oV (vInt x))) (c := fun z190 : (Str × Str × Int) => (andR (eqR (PyData.str z190.1) (PyData.str a1)) (eqR (PyData.str z190.2.1) (PyData.str a2)))) (f := fun z190 : (Str × Str × Int) => (Res.ok z190.2.2)) (evO_v (τ := (vL C (tv1 C))) (x := a0) rfl) (fun z190 => (eps_one (ev_andT (ev_a2 (m := (eqR (PyData.str z190.1) (PyData.str a1))) (n := (eqR (PyData.str z190.2.1) (PyData.str a2))) (ev_test (ev_cmpP (op := fun (x : Str) (y : Str) => eqR (PyData.str x) (PyData.str y)) (x := z190.1) (y := a1) (ev_pickP (x := z190) (ws := fun x : (Str × Str × Int) => [vStr x.1, vStr x.2.1, vInt x.2.2]) (τ := vStr) (f := fun x : (Str × Str × Int) => x.1) (evB_vV (τ := (tv1 C)) (x := z190) rfl) fun _ => rfl) (evB_vV (τ := vStr) (x := a1) rfl) op_eq)) (ev_a1 (m := (eqR (PyData.str z190.2.1) (PyData.str a2))) (ev_test (ev_cmpP (op := fun (x : Str) (y : Str) => eqR (PyData.str x) (PyData.str y)) (x := z190.2.1) (y := a2) (ev_pickP (x := z190) (ws := fun x : (Str × Str × Int) => [vStr x.1, vStr x.2.1, vInt x.2.2]) (τ := vStr) (f := fun x : (Str × Str × Int) => x.2.1) (evB_vV (τ := (tv1 C)) (x := z190) rfl) fun _ => rfl) (evB_vV (τ := vStr) (x := a2) rfl) op_eq))))))) (fun z190 => (ev_flat (ev_pickP (x := z190) (ws := fun x : (Str × Str × Int) => [vStr x.1, vStr x.2.1, vInt x.2.2]) (τ := vInt) (f := fun x : (Str × Str × Int) => x.2.2) (evB_vV (τ := (tv1 C)) (x := z190) rfl) fun _ => rfl))))) bl_sum))) (.drop (.drop (.drop (.drop .nil))))) (fun _ => Le.refl _) (fun _ => (.drop (.drop (.drop (.drop .nil))))))
def f12 (a0 : (List (Str × Str × Int))) (a1 : Str) : Out Unit Unit Int Unit :=
  ((gd (decide (a0.length ≤ sizeLine)) (lcR (fun z201 : (Str × Str × Int) => (eqR (PyData.str z201.2.1) (PyData.str a1))) (fun z201 : (Str × Str × Int) => (Res.ok z201.2.2)) a0) >>= fun x202 => (Res.ok x202.sum))).to () fun r203 => .rt r203
theorem d12 {C : Kc} (X : Kf C) : FnT C R12 (fun k : (List (Str × Str × Int)) × Str × Unit => [(vL C (tv1 C)) k.1, vStr k.2.1]) (fun x : Int => oV (vInt x)) (fun k => outR (f12 k.1 k.2.1)) :=
  fn_read (T := T12) (cs := cs) (n := 2) (N := 3) (s := b12) (fun _ => rfl) (fun _ => rfl) fun ⟨a0, a1, _⟩ =>
  (b_ret (g := fun r203 => r203) (evx (m := ((gd (decide (a0.length ≤ sizeLine)) (lcR (fun z201 : (Str × Str × Int) => (eqR (PyData.str z201.2.1) (PyData.str a1))) (fun z201 : (Str × Str × Int) => (Res.ok z201.2.2)) a0) >>= fun x202 => (Res.ok x202.sum)))) (wk_ev (Γ' := [some (oV ((vL C (tv1 C)) a0)), some (oV (vStr a1)), none]) (.keep (.keep (.drop .nil))) (ev_flat (ev_blt1 (ma := (gd (decide (a0.length ≤ sizeLine)) (lcR (fun z201 : (Str × Str × Int) => (eqR (PyData.str z201.2.1) (PyData.str a1))) (fun z201 : (Str × Str × Int) => (Res.ok z201.2.2)) a0))) (op := fun x : (List Int) => (Res.ok x.sum)) (ev_see (o := (oL C fun x => oV (vInt x))) (ev_lcP (xs := a0) (τ := (tv1 C)) (ε := (fun x : Int => oV (vInt x))) (c := fun z201 : (Str × Str × Int) => (eqR (PyData.str z201.2.1) (PyData.str a1))) (f := fun z201 : (Str × Str × Int) => (Res.ok z201.2.2)) (evO_v (τ := (vL C (tv1 C))) (x := a0) rfl) (fun z201 => (eps_one (ev_test (ev_cmpP (op := fun (x : Str) (y : Str) => eqR (PyData.str x) (PyData.str y)) (x := z201.2.1) (y := a1) (ev_pickP (x := z201) (ws := fun x : (Str × Str × Int) => [vStr x.1, vStr x.2.1, vInt x.2.2]) (τ := vStr) (f := fun x : (Str × Str × Int) => x.2.1) (evB_vV (τ := (tv1 C)) (x := z201) rfl) fun _ => rfl) (evB_vV (τ := vStr) (x := a1) rfl) op_eq)))) (fun z201 => (ev_flat (ev_pickP (x := z201) (ws := fun x : (Str × Str × Int) => [vStr x.1, vStr x.2.1, vInt x.2.2]) (τ := vInt) (f := fun x : (Str × Str × Int) => x.2.2) (evB_vV (τ := (tv1 C)) (x := z201) rfl) fun _ => rfl))))) bl_sum))) (.drop (.drop (.drop .nil)))) (fun _ => Le.refl _) (fun _ => (.drop (.drop (.drop .nil)))))
def f8 (a0 : (List Str)) (a1 : (List Str)) (a2 : (List (Str × Str × Int))) (a3 : Str) : Out Unit Unit Bool Unit :=
  (gd (decide (a0.length + [a3].length ≤ sizeLine)) (Res.ok (a0 ++ [a3]))).to () fun l172 => (loopO (fun (x171 : Str) (s170 : Unit) =>
  ((Res.ok (0 : Int)).to () fun v174 =>
  ((gd (decide (a0.length + a1.length ≤ sizeLine)) (Res.ok (a0 ++ a1)) >>= fun x179 => (gd (decide (x179.length + [a3].length ≤ sizeLine)) (Res.ok (x179 ++ [a3]))))).to () fun l177 => (loopO (fun (x176 : Str) (s175 : Int) =>
  ((outR (f9 a2 x176 x171)).to () fun v180 =>
  (orR ((outR (f10 v180) >>= fun x189 => (Res.ok (!x189)))) ((outR (f11 a2 x176 x171) >>= fun x196 => (Res.ok (!decide (v180 = x196)))))).to () fun b197 => cond b197
  ((Res.ok false).to () fun r198 => .rt r198)
  ((Res.ok (s175 + v180)).to () fun v199 =>
  .nx v199))) l177 v174).then fun s175 : Int =>
  (outR (f12 a2 x171)).to () fun v200 =>
  (orR ((outR (f10 v200) >>= fun x207 => (Res.ok (!x207)))) (Res.ok (!decide (v200 = s175)))).to () fun b208 => cond b208
  ((Res.ok false).to () fun r209 => .rt r209)
  (.nx ()))) l172 ()).then fun s170 : Unit =>
  (Res.ok true).to () fun r210 => .rt r210
theorem d8 {C : Kc} (X : Kf C) : FnT C R8 (fun k : (List Str) × (List Str) × (List (Str × Str × Int)) × Str × Unit => [(vL C vStr) k.1, (vL C vStr) k.2.1, (vL C (tv1 C)) k.2.2.1, vStr k.2.2.2.1]) (fun x : Bool => oV (vBl x)) (fun k => outR (f8 k.1 k.2.1 k.2.2.1 k.2.2.2.1)) :=
  fn_read (T := T8) (cs := cs) (n := 4) (N := 9) (s := b8) (fun _ => rfl) (fun _ => rfl) fun ⟨a0, a1, a2, a3, _⟩ =>
  (b_forL (j := 4) (m := (gd (decide (a0.length + [a3].length ≤ sizeLine)) (Res.ok (a0 ++ [a3])))) (τ := vStr) (Γ0 := fun s170 : Unit => [some (oV ((vL C vStr) a0)), some (oV ((vL C vStr) a1)), some (oV ((vL C (tv1 C)) a2)), some (oV (vStr a3)), none, none, none, none, none]) (s0 := ()) (wk_ev (Γ' := [some (oV ((vL C vStr) a0)), none, none, some (oV (vStr a3)), none, none, none, none, none]) (.keep (.drop (.drop (.keep (.drop (.drop (.drop (.drop (.drop .nil))))))))) (ev_fz (o := (oL C fun x => oV (vStr x))) (ev_catP (x := a0) (y := [a3]) (evO_v (τ := (vL C vStr)) (x := a0) rfl) (ev_fz (o := (oL C fun x => oV (vStr x))) (ev_lst (τ := (oL C fun x => oV (vStr x))) (os := (fun k => [oV (vStr k.1)])) (g := (fun k : Str × Unit => [k.1])) (elo_consP (x := (a3 : Str)) (ev_flat (evB_vV (τ := vStr) (x := a3) rfl)) (elo_nilE (by rfl))) (fun _ => Nat.le_of_ble_eq_true rfl) (fun _ => rfl)))))) (.drop (.drop (.drop (.drop (.drop (.drop (.drop (.drop (.drop .nil))))))))) (.keep (.keep (.keep (.keep (.drop (.drop (.drop (.drop (.drop .nil))))))))) (fun _ => Nat.le_of_ble_eq_true rfl) (fun x171 s170 =>
  (b_asg (i := 5) (evx (τ := (fun x : Int => oV (vInt x))) (m := (Res.ok (0 : Int))) (wk_ev (Γ' := [none, none, none, none, none, none, none, none, none]) (.drop (.drop (.drop (.drop (.drop (.drop (.drop (.drop (.drop .nil))))))))) (ev_flat (ev_int 0))) (.drop (.drop (.drop (.drop (.drop (.drop (.drop (.drop (.drop .nil)))))))))) (fun _ => Nat.le_of_ble_eq_true rfl) fun v174 =>
  (b_forL (j := 6) (m := ((gd (decide (a0.length + a1.length ≤ sizeLine)) (Res.ok (a0 ++ a1)) >>= fun x179 => (gd (decide (x179.length + [a3].length ≤ sizeLine)) (Res.ok (x179 ++ [a3])))))) (τ := vStr) (Γ0 := fun s175 : Int => [some (oV ((vL C vStr) a0)), some (oV ((vL C vStr) a1)), some (oV ((vL C (tv1 C)) a2)), some (oV (vStr a3)), some (oV (vStr x171)), some (oV (vInt s175)), none, none, none]) (s0 := v174) (wk_ev (Γ' := [some (oV ((vL C vStr) a0)), some (oV ((vL C vStr) a1)), none, some (oV (vStr a3)), none, none, none, none, none]) (.keep (.keep (.drop (.keep (.drop (.drop (.drop (.drop (.drop .nil))))))))) (ev_fz (o := (oL C fun x => oV (vStr x))) (ev_catR (ma := (gd (decide (a0.length + a1.length ≤ sizeLine)) (Res.ok (a0 ++ a1)))) (y := [a3]) (ev_fz (o := (oL C fun x => oV (vStr x))) (ev_catP (x := a0) (y := a1) (evO_v (τ := (vL C vStr)) (x := a0) rfl) (evO_v (τ := (vL C vStr)) (x := a1) rfl))) (ev_fz (o := (oL C fun x => oV (vStr x))) (ev_lst (τ := (oL C fun x => oV (vStr x))) (os := (fun k => [oV (vStr k.1)])) (g := (fun k : Str × Unit => [k.1])) (elo_consP (x := (a3 : Str)) (ev_flat (evB_vV (τ := vStr) (x := a3) rfl)) (elo_nilE (by rfl))) (fun _ => Nat.le_of_ble_eq_true rfl) (fun _ => rfl)))))) (.drop (.drop (.drop (.drop (.drop (.drop (.drop (.drop (.drop .nil))))))))) (.keep (.keep (.keep (.keep (.keep (.keep (.drop (.drop (.drop .nil))))))))) (fun _ => Nat.le_of_ble_eq_true rfl) (fun x176 s175 =>
  (b_asg (i := 8) (evx (τ := (fun x : Int => oV (vInt x))) (m := (outR (f9 a2 x176 x171))) (wk_ev (Γ' := [none, none, some (oV ((vL C (tv1 C)) a2)), none, some (oV (vStr x171)), none, some (oV (vStr x176)), none, none]) (.drop (.drop (.keep (.drop (.keep (.drop (.keep (.drop (.drop .nil))))))))) (ev_flat (ev_see (o := (fun x : Int => oV (vInt x))) (ev_callT (i := 9) (T := T8) (τ := (fun x : Int => oV (vInt x))) (os := fun k => [(vL C (tv1 C)) k.1, vStr k.2.1, vStr k.2.2.1]) (g := (fun k : (List (Str × Str × Int)) × Str × Str × Unit => (k.1, k.2.1, k.2.2.1, ()))) (dv := []) (wd := []) (d9 (X := X)) (by exact ⟨by decide, by decide⟩) rfl (fun _ => .nil) (fun _ => rfl) (elv_consP (x := (a2 : (List (Str × Str × Int)))) (evB_vV (τ := (vL C (tv1 C))) (x := a2) rfl) (elv_consP (x := (x176 : Str)) (evB_vV (τ := vStr) (x := x176) rfl) (elv_consP (x := (x171 : Str)) (evB_vV (τ := vStr) (x := x171) rfl) (elv_nilE (by rfl))))))))) (.drop (.drop (.drop (.drop (.drop (.drop (.drop (.drop (.drop .nil)))))))))) (fun _ => Nat.le_of_ble_eq_true rfl) fun v180 =>
  (b_ifL (m := (orR ((outR (f10 v180) >>= fun x189 => (Res.ok (!x189)))) ((outR (f11 a2 x176 x171) >>= fun x196 => (Res.ok (!decide (v180 = x196))))))) (wk_evT (Γ' := [none, none, some (oV ((vL C (tv1 C)) a2)), none, some (oV (vStr x171)), none, some (oV (vStr x176)), none, some (oV (vInt v180))]) (.drop (.drop (.keep (.drop (.keep (.drop (.keep (.drop (.keep .nil))))))))) (ev_orT (ev_r2 (m := ((outR (f10 v180) >>= fun x189 => (Res.ok (!x189))))) (n := ((outR (f11 a2 x176 x171) >>= fun x196 => (Res.ok (!decide (v180 = x196)))))) (ev_notT (m := (outR (f10 v180))) (ev_test (ev_see (o := (fun x : Bool => oV (vBl x))) (ev_callT (i := 10) (T := T8) (τ := (fun x : Bool => oV (vBl x))) (os := fun k => [vInt k.1]) (g := (fun k : Int × Unit => (k.1, ()))) (dv := []) (wd := []) (d10 (X := X)) (by exact ⟨by decide, by decide⟩) rfl (fun _ => .nil) (fun _ => rfl) (elv_consP (x := (v180 : Int)) (evB_vV (τ := vInt) (x := v180) rfl) (elv_nilE (by rfl))))))) (ev_r1 (m := ((outR (f11 a2 x176 x171) >>= fun x196 => (Res.ok (!decide (v180 = x196)))))) (ev_test (ev_cmpL (op := fun (x : Int) (y : Int) => (Res.ok (!decide (x = y)))) (x := v180) (mb := (outR (f11 a2 x176 x171))) (evB_vV (τ := vInt) (x := v180) rfl) (ev_see (o := (fun x : Int => oV (vInt x))) (ev_callT (i := 11) (T := T8) (τ := (fun x : Int => oV (vInt x))) (os := fun k => [(vL C (tv1 C)) k.1, vStr k.2.1, vStr k.2.2.1]) (g := (fun k : (List (Str × Str × Int)) × Str × Str × Unit => (k.1, k.2.1, k.2.2.1, ()))) (dv := []) (wd := []) (d11 (X := X)) (by exact ⟨by decide, by decide⟩) rfl (fun _ => .nil) (fun _ => rfl) (elv_consP (x := (a2 : (List (Str × Str × Int)))) (evB_vV (τ := (vL C (tv1 C))) (x := a2) rfl) (elv_consP (x := (x176 : Str)) (evB_vV (τ := vStr) (x := x176) rfl) (elv_consP (x := (x171 : Str)) (evB_vV (τ := vStr) (x := x171) rfl) (elv_nilE (by rfl))))))) op_neI)))))) (.drop (.drop (.drop (.drop (.drop (.drop (.drop (.drop (.drop .nil))))))))) rfl
  (b_ret (g := fun r198 => r198) (evx (m := (Res.ok false)) (wk_ev (Γ' := [none, none, none, none, none, none, none, none, none]) (.drop (.drop (.drop (.drop (.drop (.drop (.drop (.drop (.drop .nil))))))))) (ev_flat (ev_bl false))) (.drop (.drop (.drop (.drop (.drop (.drop (.drop (.drop (.drop .nil)))))))))) (fun _ => Le.refl _) (fun _ => (.drop (.drop (.drop (.drop (.drop (.drop (.drop (.drop (.drop .nil)))))))))))
  (b_asg (i := 5) (evx (τ := (fun x : Int => oV (vInt x))) (m := (Res.ok (s175 + v180))) (wk_ev (Γ' := [none, none, none, none, none, some (oV (vInt s175)), none, none, some (oV (vInt v180))]) (.drop (.drop (.drop (.drop (.drop (.keep (.drop (.drop (.keep .nil))))))))) (ev_flat (ev_binP (op := fun (x : Int) (y : Int) => (Res.ok (x + y))) (x := s175) (y := v180) (evB_vV (τ := vInt) (x := s175) rfl) (evB_vV (τ := vInt) (x := v180) rfl) op_addI))) (.drop (.drop (.drop (.drop (.drop (.drop (.drop (.drop (.drop .nil)))))))))) (fun _ => Nat.le_of_ble_eq_true rfl) fun v199 =>
  (b_nop (.keep (.keep (.keep (.keep (.keep (.keep (.drop (.drop (.drop .nil)))))))))))))) fun s175 =>
  (b_asg (i := 7) (evx (τ := (fun x : Int => oV (vInt x))) (m := (outR (f12 a2 x171))) (wk_ev (Γ' := [none, none, some (oV ((vL C (tv1 C)) a2)), none, some (oV (vStr x171)), none, none, none, none]) (.drop (.drop (.keep (.drop (.keep (.drop (.drop (.drop (.drop .nil))))))))) (ev_flat (ev_see (o := (fun x : Int => oV (vInt x))) (ev_callT (i := 12) (T := T8) (τ := (fun x : Int => oV (vInt x))) (os := fun k => [(vL C (tv1 C)) k.1, vStr k.2.1]) (g := (fun k : (List (Str × Str × Int)) × Str × Unit => (k.1, k.2.1, ()))) (dv := []) (wd := []) (d12 (X := X)) (by exact ⟨by decide, by decide⟩) rfl (fun _ => .nil) (fun _ => rfl) (elv_consP (x := (a2 : (List (Str × Str × Int)))) (evB_vV (τ := (vL C (tv1 C))) (x := a2) rfl) (elv_consP (x := (x171 : Str)) (evB_vV (τ := vStr) (x := x171) rfl) (elv_nilE (by rfl)))))))) (.drop (.drop (.drop (.drop (.drop (.drop (.drop (.drop (.drop .nil)))))))))) (fun _ => Nat.le_of_ble_eq_true rfl) fun v200 =>
  (b_end (b_if (m := (orR ((outR (f10 v200) >>= fun x207 => (Res.ok (!x207)))) (Res.ok (!decide (v200 = s175))))) (wk_evT (Γ' := [none, none, none, none, none, some (oV (vInt s175)), none, some (oV (vInt v200)), none]) (.drop (.drop (.drop (.drop (.drop (.keep (.drop (.keep (.drop .nil))))))))) (ev_orT (ev_r2 (m := ((outR (f10 v200) >>= fun x207 => (Res.ok (!x207))))) (n := (Res.ok (!decide (v200 = s175)))) (ev_notT (m := (outR (f10 v200))) (ev_test (ev_see (o := (fun x : Bool => oV (vBl x))) (ev_callT (i := 10) (T := T8) (τ := (fun x : Bool => oV (vBl x))) (os := fun k => [vInt k.1]) (g := (fun k : Int × Unit => (k.1, ()))) (dv := []) (wd := []) (d10 (X := X)) (by exact ⟨by decide, by decide⟩) rfl (fun _ => .nil) (fun _ => rfl) (elv_consP (x := (v200 : Int)) (evB_vV (τ := vInt) (x := v200) rfl) (elv_nilE (by rfl))))))) (ev_r1 (m := (Res.ok (!decide (v200 = s175)))) (ev_test (ev_cmpP (op := fun (x : Int) (y : Int) => (Res.ok (!decide (x = y)))) (x := v200) (y := s175) (evB_vV (τ := vInt) (x := v200) rfl) (evB_vV (τ := vInt) (x := s175) rfl) op_neI)))))) (.drop (.drop (.drop (.drop (.drop (.drop (.drop (.drop (.drop .nil)))))))))
  (b_ret (g := fun r209 => r209) (evx (m := (Res.ok false)) (wk_ev (Γ' := [none, none, none, none, none, none, none, none, none]) (.drop (.drop (.drop (.drop (.drop (.drop (.drop (.drop (.drop .nil))))))))) (ev_flat (ev_bl false))) (.drop (.drop (.drop (.drop (.drop (.drop (.drop (.drop (.drop .nil)))))))))) (fun _ => Le.refl _) (fun _ => (.drop (.drop (.drop (.drop (.drop (.drop (.drop (.drop (.drop .nil)))))))))))
  (b_nop (.keep (.keep (.keep (.keep (.drop (.drop (.drop (.drop (.drop .nil)))))))))))))))) fun s170 =>
  (b_ret (g := fun r210 => r210) (evx (m := (Res.ok true)) (wk_ev (Γ' := [none, none, none, none, none, none, none, none, none]) (.drop (.drop (.drop (.drop (.drop (.drop (.drop (.drop (.drop .nil))))))))) (ev_flat (ev_bl true))) (.drop (.drop (.drop (.drop (.drop (.drop (.drop (.drop (.drop .nil)))))))))) (fun _ => Le.refl _) (fun _ => (.drop (.drop (.drop (.drop (.drop (.drop (.drop (.drop (.drop .nil))))))))))))
def f13 (a0 : (List (Str × Str × Int))) (a1 : Str) : Out Unit Unit (List Str) Unit :=
  ((gd (decide (a0.length ≤ sizeLine)) (lcR (fun z231 : (Str × Str × Int) => (eqR (PyData.str z231.2.1) (PyData.str a1))) (fun z231 : (Str × Str × Int) => (Res.ok z231.1)) a0) >>= fun x232 => (gd (decide (x232.length < 64)) (Res.ok (sset x232))))).to () fun r233 => .rt r233
theorem d13 {C : Kc} (X : Kf C) : FnT C R13 (fun k : (List (Str × Str × Int)) × Str × Unit => [(vL C (tv1 C)) k.1, vStr k.2.1]) (oL C fun x => oV (vStr x)) (fun k => outR (f13 k.1 k.2.1)) :=
  fn_read (T := T13) (cs := cs) (n := 2) (N := 3) (s := b13) (fun _ => rfl) (fun _ => rfl) fun ⟨a0, a1, _⟩ =>
  (b_ret (g := fun r233 => r233) (evx (m := ((gd (decide (a0.length ≤ sizeLine)) (lcR (fun z231 : (Str × Str × Int) => (eqR (PyData.str z231.2.1) (PyData.str a1))) (fun z231 : (Str × Str × Int) => (Res.ok z231.1)) a0) >>= fun x232 => (gd (decide (x232.length < 64)) (Res.ok (sset x232)))))) (wk_ev (Γ' := [some (oV ((vL C (tv1 C)) a0)), some (oV (vStr a1)), none]) (.keep (.keep (.drop .nil))) (ev_sset (ma := (gd (decide (a0.length ≤ sizeLine)) (lcR (fun z231 : (Str × Str × Int) => (eqR (PyData.str z231.2.1) (PyData.str a1))) (fun z231 : (Str × Str × Int) => (Res.ok z231.1)) a0))) (ev_fz (o := (oL C fun x => oV (vStr x))) (ev_lcP (xs := a0) (τ := (tv1 C)) (ε := (fun x : Str => oV (vStr x))) (c := fun z231 : (Str × Str × Int) => (eqR (PyData.str z231.2.1) (PyData.str a1))) (f := fun z231 : (Str × Str × Int) => (Res.ok z231.1)) (evO_v (τ := (vL C (tv1 C))) (x := a0) rfl) (fun z231 => (eps_one (ev_test (ev_cmpP (op := fun (x : Str) (y : Str) => eqR (PyData.str x) (PyData.str y)) (x := z231.2.1) (y := a1) (ev_pickP (x := z231) (ws := fun x : (Str × Str × Int) => [vStr x.1, vStr x.2.1, vInt x.2.2]) (τ := vStr) (f := fun x : (Str × Str × Int) => x.2.1) (evB_vV (τ := (tv1 C)) (x := z231) rfl) fun _ => rfl) (evB_vV (τ := vStr) (x := a1) rfl) op_eq)))) (fun z231 => (ev_flat (ev_pickP (x := z231) (ws := fun x : (Str × Str × Int) => [vStr x.1, vStr x.2.1, vInt x.2.2]) (τ := vStr) (f := fun x : (Str × Str × Int) => x.1) (evB_vV (τ := (tv1 C)) (x := z231) rfl) fun _ => rfl))))))) (.drop (.drop (.drop .nil)))) (fun _ => Le.refl _) (fun _ => (.drop (.drop (.drop .nil)))))
def f14 (a0 : (List Str)) (a1 : (List Str)) : Out Unit Unit Bool Unit :=
  (Res.ok ((!true) || (!decide ((a0.length : Int) = (a1.length : Int))))).to () fun b236 => cond b236
  ((Res.ok false).to () fun r237 => .rt r237)
  ((Res.ok a0).to () fun l240 => (loopO (fun (x239 : Str) (s238 : Unit) =>
  ((Res.ok (!true)).to () fun b241 => cond b241
  ((Res.ok false).to () fun r242 => .rt r242)
  (.nx ()))) l240 ()).then fun s238 : Unit =>
  (eqR ((fun xs : (List Str) => PyData.list (xs.map PyData.str)) a0) ((fun xs : (List Str) => PyData.list (xs.map PyData.str)) a1)).to () fun r243 => .rt r243)
theorem d14 {C : Kc} (X : Kf C) : FnT C R14 (fun k : (List Str) × (List Str) × Unit => [(vL C vStr) k.1, (vL C vStr) k.2.1]) (fun x : Bool => oV (vBl x)) (fun k => outR (f14 k.1 k.2.1)) :=
  fn_read (T := T14) (cs := cs) (n := 2) (N := 3) (s := b14) (fun _ => rfl) (fun _ => rfl) fun ⟨a0, a1, _⟩ =>
  (b_ifL (m := (Res.ok ((!true) || (!decide ((a0.length : Int) = (a1.length : Int)))))) (wk_evT (Γ' := [some (oV ((vL C vStr) a0)), some (oV ((vL C vStr) a1)), none]) (.keep (.keep (.drop .nil))) (ev_orT (ev_r2p (x := (!true)) (y := (!decide ((a0.length : Int) = (a1.length : Int)))) (ev_notTP (b := true) (ev_test (ev_isiTP (x := a0) (b := true) (evB_vV (τ := (vL C vStr)) (x := a0) rfl) (by decide) (by decide) (by decide)))) (ev_r1 (m := (Res.ok (!decide ((a0.length : Int) = (a1.length : Int))))) (ev_test (ev_cmpP (op := fun (x : Int) (y : Int) => (Res.ok (!decide (x = y)))) (x := (a0.length : Int)) (y := (a1.length : Int)) (ev_blt1P (x := a0) (op := fun x : (List Str) => (Res.ok (x.length : Int))) (evB_vV (τ := (vL C vStr)) (x := a0) rfl) bl_lenL) (ev_blt1P (x := a1) (op := fun x : (List Str) => (Res.ok (x.length : Int))) (evB_vV (τ := (vL C vStr)) (x := a1) rfl) bl_lenL) op_neI)))))) (.drop (.drop (.drop .nil))) rfl
  (b_ret (g := fun r237 => r237) (evx (m := (Res.ok false)) (wk_ev (Γ' := [none, none, none]) (.drop (.drop (.drop .nil))) (ev_flat (ev_bl false))) (.drop (.drop (.drop .nil)))) (fun _ => Le.refl _) (fun _ => (.drop (.drop (.drop .nil)))))
  (b_forL (j := 2) (m := (Res.ok a0)) (τ := vStr) (Γ0 := fun s238 : Unit => [some (oV ((vL C vStr) a0)), some (oV ((vL C vStr) a1)), none]) (s0 := ()) (wk_ev (Γ' := [some (oV ((vL C vStr) a0)), none, none]) (.keep (.drop (.drop .nil))) (evO_v (τ := (vL C vStr)) (x := a0) rfl)) (.drop (.drop (.drop .nil))) (.keep (.keep (.drop .nil))) (fun _ => Nat.le_of_ble_eq_true rfl) (fun x239 s238 =>
  (b_end (b_if (m := (Res.ok (!true))) (wk_evT (Γ' := [none, none, some (oV (vStr x239))]) (.drop (.drop (.keep .nil))) (ev_notTP (b := true) (ev_test (ev_isiTP (x := x239) (b := true) (evB_vV (τ := vStr) (x := x239) rfl) (by decide) (by decide) (by decide))))) (.drop (.drop (.drop .nil)))
  (b_ret (g := fun r242 => r242) (evx (m := (Res.ok false)) (wk_ev (Γ' := [none, none, none]) (.drop (.drop (.drop .nil))) (ev_flat (ev_bl false))) (.drop (.drop (.drop .nil)))) (fun _ => Le.refl _) (fun _ => (.drop (.drop (.drop .nil)))))
  (b_nop (.keep (.keep (.drop .nil))))))) fun s238 =>
  (b_ret (g := fun r243 => r243) (evx (m := (eqR ((fun xs : (List Str) => PyData.list (xs.map PyData.str)) a0) ((fun xs : (List Str) => PyData.list (xs.map PyData.str)) a1))) (wk_ev (Γ' := [some (oV ((vL C vStr) a0)), some (oV ((vL C vStr) a1)), none]) (.keep (.keep (.drop .nil))) (ev_flat (ev_cmpP (op := fun (x : (List Str)) (y : (List Str)) => eqR ((fun xs : (List Str) => PyData.list (xs.map PyData.str)) x) ((fun xs : (List Str) => PyData.list (xs.map PyData.str)) y)) (x := a0) (y := a1) (evB_vV (τ := (vL C vStr)) (x := a0) rfl) (evB_vV (τ := (vL C vStr)) (x := a1) rfl) op_eq))) (.drop (.drop (.drop .nil)))) (fun _ => Le.refl _) (fun _ => (.drop (.drop (.drop .nil)))))))
def f15 (a0 : (List Str)) (a1 : (List (Str × Str × Int))) : Out Unit Unit (List Str) Unit :=
  ((gd (decide (a1.length ≤ sizeLine)) (lcR (fun z257 : (Str × Str × Int) => (Res.ok (!decide (z257.1 ∈ a0)))) (fun z257 : (Str × Str × Int) => (Res.ok z257.1)) a1) >>= fun x258 => (gd (decide (x258.length < 64)) (Res.ok (sset x258))))).to () fun r259 => .rt r259
theorem d15 {C : Kc} (X : Kf C) : FnT C R15 (fun k : (List Str) × (List (Str × Str × Int)) × Unit => [(vL C vStr) k.1, (vL C (tv1 C)) k.2.1]) (oL C fun x => oV (vStr x)) (fun k => outR (f15 k.1 k.2.1)) :=
  fn_read (T := T15) (cs := cs) (n := 2) (N := 3) (s := b15) (fun _ => rfl) (fun _ => rfl) fun ⟨a0, a1, _⟩ =>
  (b_ret (g := fun r259 => r259) (evx (m := ((gd (decide (a1.length ≤ sizeLine)) (lcR (fun z257 : (Str × Str × Int) => (Res.ok (!decide (z257.1 ∈ a0)))) (fun z257 : (Str × Str × Int) => (Res.ok z257.1)) a1) >>= fun x258 => (gd (decide (x258.length < 64)) (Res.ok (sset x258)))))) (wk_ev (Γ' := [some (oV ((vL C vStr) a0)), some (oV ((vL C (tv1 C)) a1)), none]) (.keep (.keep (.drop .nil))) (ev_sset (ma := (gd (decide (a1.length ≤ sizeLine)) (lcR (fun z257 : (Str × Str × Int) => (Res.ok (!decide (z257.1 ∈ a0)))) (fun z257 : (Str × Str × Int) => (Res.ok z257.1)) a1))) (ev_fz (o := (oL C fun x => oV (vStr x))) (ev_lcP (xs := a1) (τ := (tv1 C)) (ε := (fun x : Str => oV (vStr x))) (c := fun z257 : (Str × Str × Int) => (Res.ok (!decide (z257.1 ∈ a0)))) (f := fun z257 : (Str × Str × Int) => (Res.ok z257.1)) (evO_v (τ := (vL C (tv1 C))) (x := a1) rfl) (fun z257 => (eps_one (ev_test (ev_cmpP (op := fun (x : Str) (y : (List Str)) => (Res.ok (!decide (x ∈ y)))) (x := z257.1) (y := a0) (ev_pickP (x := z257) (ws := fun x : (Str × Str × Int) => [vStr x.1, vStr x.2.1, vInt x.2.2]) (τ := vStr) (f := fun x : (Str × Str × Int) => x.1) (evB_vV (τ := (tv1 C)) (x := z257) rfl) fun _ => rfl) (evB_vV (τ := (vL C vStr)) (x := a0) rfl) op_ninS)))) (fun z257 => (ev_flat (ev_pickP (x := z257) (ws := fun x : (Str × Str × Int) => [vStr x.1, vStr x.2.1, vInt x.2.2]) (τ := vStr) (f := fun x : (Str × Str × Int) => x.1) (evB_vV (τ := (tv1 C)) (x := z257) rfl) fun _ => rfl))))))) (.drop (.drop (.drop .nil)))) (fun _ => Le.refl _) (fun _ => (.drop (.drop (.drop .nil)))))
def f7 (a0 : (List Str)) (a1 : (List Str)) (a2 : (List (Str × Str × Int))) (a3 : Str) : Out Unit Unit Bool Unit :=
  (Res.ok a2).to () fun v169 =>
  ((outR (f8 a0 a1 a2 a3) >>= fun x215 => (Res.ok (!x215)))).to () fun b216 => cond b216
  ((Res.ok false).to () fun r217 => .rt r217)
  ((gd (decide (a0.length + [a3].length ≤ sizeLine)) (Res.ok (a0 ++ [a3]))).to () fun l220 => (loopO (fun (x219 : Str) (s218 : Unit) =>
  ((((gd (decide (a0.length + a1.length ≤ sizeLine)) (Res.ok (a0 ++ a1)) >>= fun x223 => (gd (decide (x223.length < 64)) (Res.ok (sortS x223)))) >>= fun x229 => (gd (decide (x229.length ≤ sizeLine)) (lcR (fun z224 : Str => ((outR (f11 v169 z224 x219) >>= fun x228 => (Res.ok (decide ((0 : Int) < x228)))))) (fun z224 : Str => (Res.ok z224)) x229)))).to () fun v222 =>
  (outR (f13 a2 x219)).to () fun v230 =>
  ((outR (f14 v230 v222) >>= fun x246 => (Res.ok (!x246)))).to () fun b247 => cond b247
  ((Res.ok false).to () fun r248 => .rt r248)
  (.nx ()))) l220 ()).then fun s218 : Unit =>
  ((gd (decide (a1.length < 64)) (Res.ok (sortS a1)) >>= fun x254 => (gd (decide (x254.length ≤ sizeLine)) (lcR (fun z251 : Str => ((gd (decide (v169.length ≤ sizeLine)) (lcR (fun z252 : (Str × Str × Int) => (Res.ok true)) (fun z252 : (Str × Str × Int) => (Res.ok z252.1)) v169) >>= fun x253 => (Res.ok (decide (z251 ∈ x253)))))) (fun z251 : Str => (Res.ok z251)) x254)))).to () fun v250 =>
  (Res.ok a0).to () fun v255 =>
  (outR (f15 v255 a2)).to () fun v256 =>
  (orR ((outR (f14 v256 v250) >>= fun x264 => (Res.ok (!x264)))) (neR ((fun xs : (List Str) => PyData.list (xs.map PyData.str)) v255) ((fun xs : (List Str) => PyData.list (xs.map PyData.str)) a0))).to () fun b265 => cond b265
  ((Res.ok false).to () fun r266 => .rt r266)
  ((eqR ((fun xs : (List (Str × Str × Int)) => PyData.list (xs.map tp1)) a2) ((fun xs : (List (Str × Str × Int)) => PyData.list (xs.map tp1)) v169)).to () fun r268 => .rt r268))
theorem d7 {C : Kc} (X : Kf C) : FnT C R7 (fun k : (List Str) × (List Str) × (List (Str × Str × Int)) × Str × Unit => [(vL C vStr) k.1, (vL C vStr) k.2.1, (vL C (tv1 C)) k.2.2.1, vStr k.2.2.2.1]) (fun x : Bool => oV (vBl x)) (fun k => outR (f7 k.1 k.2.1 k.2.2.1 k.2.2.2.1)) :=
  fn_read (T := T7) (cs := cs) (n := 4) (N := 11) (s := b7) (fun _ => rfl) (fun _ => rfl) fun ⟨a0, a1, a2, a3, _⟩ =>
  (b_asg (i := 4) (evx (τ := (fun x : (List (Str × Str × Int)) => oV ((vL C (tv1 C)) x))) (m := (Res.ok a2)) (wk_ev (Γ' := [none, none, some (oV ((vL C (tv1 C)) a2)), none, none, none, none, none, none, none, none]) (.drop (.drop (.keep (.drop (.drop (.drop (.drop (.drop (.drop (.drop (.drop .nil))))))))))) (ev_fz (o := (oL C fun x => oV ((tv1 C) x))) (ev_listF (ma := (Res.ok a2)) (evO_v (τ := (vL C (tv1 C))) (x := a2) rfl)))) (.drop (.drop (.drop (.drop (.drop (.drop (.drop (.drop (.drop (.drop (.drop .nil)))))))))))) (fun _ => Nat.le_of_ble_eq_true rfl) fun v169 =>
  (b_ifL (m := ((outR (f8 a0 a1 a2 a3) >>= fun x215 => (Res.ok (!x215))))) (wk_evT (Γ' := [some (oV ((vL C vStr) a0)), some (oV ((vL C vStr) a1)), some (oV ((vL C (tv1 C)) a2)), some (oV (vStr a3)), none, none, none, none, none, none, none]) (.keep (.keep (.keep (.keep (.drop (.drop (.drop (.drop (.drop (.drop (.drop .nil))))))))))) (ev_notT (m := (outR (f8 a0 a1 a2 a3))) (ev_test (ev_see (o := (fun x : Bool => oV (vBl x))) (ev_callT (i := 8) (T := T7) (τ := (fun x : Bool => oV (vBl x))) (os := fun k => [(vL C vStr) k.1, (vL C vStr) k.2.1, (vL C (tv1 C)) k.2.2.1, vStr k.2.2.2.1]) (g := (fun k : (List Str) × (List Str) × (List (Str × Str × Int)) × Str × Unit => (k.1, k.2.1, k.2.2.1, k.2.2.2.1, ()))) (dv := []) (wd := []) (d8 (X := X)) (by exact ⟨by decide, by decide⟩) rfl (fun _ => .nil) (fun _ => rfl) (elv_consP (x := (a0 : (List Str))) (evB_vV (τ := (vL C vStr)) (x := a0) rfl) (elv_consP (x := (a1 : (List Str))) (evB_vV (τ := (vL C vStr)) (x := a1) rfl) (elv_consP (x := (a2 : (List (Str × Str × Int)))) (evB_vV (τ := (vL C (tv1 C))) (x := a2) rfl) (elv_consP (x := (a3 : Str)) (evB_vV (τ := vStr) (x := a3) rfl) (elv_nilE (by rfl))))))))))) (.drop (.drop (.drop (.drop (.drop (.drop (.drop (.drop (.drop (.drop (.drop .nil))))))))))) rfl
  (b_ret (g := fun r217 => r217) (evx (m := (Res.ok false)) (wk_ev (Γ' := [none, none, none, none, none, none, none, none, none, none, none]) (.drop (.drop (.drop (.drop (.drop (.drop (.drop (.drop (.drop (.drop (.drop .nil))))))))))) (ev_flat (ev_bl false))) (.drop (.drop (.drop (.drop (.drop (.drop (.drop (.drop (.drop (.drop (.drop .nil)))))))))))) (fun _ => Le.refl _) (fun _ => (.drop (.drop (.drop (.drop (.drop (.drop (.drop (.drop (.drop (.drop (.drop .nil)))))))))))))
  (b_forL (j := 5) (m := (gd (decide (a0.length + [a3].length ≤ sizeLine)) (Res.ok (a0 ++ [a3])))) (τ := vStr) (Γ0 := fun s218 : Unit => [some (oV ((vL C vStr) a0)), some (oV ((vL C vStr) a1)), some (oV ((vL C (tv1 C)) a2)), some (oV (vStr a3)), some (oV ((vL C (tv1 C)) v169)), none, none, none, none, none, none]) (s0 := ()) (wk_ev (Γ' := [some (oV ((vL C vStr) a0)), none, none, some (oV (vStr a3)), none, none, none, none, none, none, none]) (.keep (.drop (.drop (.keep (.drop (.drop (.drop (.drop (.drop (.drop (.drop .nil))))))))))) (ev_fz (o := (oL C fun x => oV (vStr x))) (ev_catP (x := a0) (y := [a3]) (evO_v (τ := (vL C vStr)) (x := a0) rfl) (ev_fz (o := (oL C fun x => oV (vStr x))) (ev_lst (τ := (oL C fun x => oV (vStr x))) (os := (fun k => [oV (vStr k.1)])) (g := (fun k : Str × Unit => [k.1])) (elo_consP (x := (a3 : Str)) (ev_flat (evB_vV (τ := vStr) (x := a3) rfl)) (elo_nilE (by rfl))) (fun _ => Nat.le_of_ble_eq_true rfl) (fun _ => rfl)))))) (.drop (.drop (.drop (.drop (.drop (.drop (.drop (.drop (.drop (.drop (.drop .nil))))))))))) (.keep (.keep (.keep (.keep (.keep (.drop (.drop (.drop (.drop (.drop (.drop .nil))))))))))) (fun _ => Nat.le_of_ble_eq_true rfl) (fun x219 s218 =>
  (b_asg (i := 6) (evx (τ := (fun x : (List Str) => oV ((vL C vStr) x))) (m := (((gd (decide (a0.length + a1.length ≤ sizeLine)) (Res.ok (a0 ++ a1)) >>= fun x223 => (gd (decide (x223.length < 64)) (Res.ok (sortS x223)))) >>= fun x229 => (gd (decide (x229.length ≤ sizeLine)) (lcR (fun z224 : Str => ((outR (f11 v169 z224 x219) >>= fun x228 => (Res.ok (decide ((0 : Int) < x228)))))) (fun z224 : Str => (Res.ok z224)) x229))))) (wk_ev (Γ' := [some (oV ((vL C vStr) a0)), some (oV ((vL C vStr) a1)), none, none, some (oV ((vL C (tv1 C)) v169)), some (oV (vStr x219)), none, none, none, none, none]) (.keep (.keep (.drop (.drop (.keep (.keep (.drop (.drop (.drop (.drop (.drop .nil))))))))))) (ev_fz (o := (oL C fun x => oV (vStr x))) (ev_lc (m := ((gd (decide (a0.length + a1.length ≤ sizeLine)) (Res.ok (a0 ++ a1)) >>= fun x223 => (gd (decide (x223.length < 64)) (Res.ok (sortS x223)))))) (τ := vStr) (ε := (fun x : Str => oV (vStr x))) (c := fun z224 : Str => ((outR (f11 v169 z224 x219) >>= fun x228 => (Res.ok (decide ((0 : Int) < x228)))))) (f := fun z224 : Str => (Res.ok z224)) (ev_fz (o := (oL C fun x => oV (vStr x))) (ev_blt1 (ma := (gd (decide (a0.length + a1.length ≤ sizeLine)) (Res.ok (a0 ++ a1)))) (op := fun x : List Str => gd (decide (x.length < 64)) (Res.ok (sortS x))) (ev_see (o := (oL C fun x => oV (vStr x))) (ev_catP (x := a0) (y := a1) (evO_v (τ := (vL C vStr)) (x := a0) rfl) (evO_v (τ := (vL C vStr)) (x := a1) rfl))) bl_sortS)) (fun z224 => (eps_one (ev_test (ev_cmpR (op := fun (x : Int) (y : Int) => (Res.ok (decide (y < x)))) (ma := (outR (f11 v169 z224 x219))) (y := (0 : Int)) (ev_see (o := (fun x : Int => oV (vInt x))) (ev_callT (i := 11) (T := T7) (τ := (fun x : Int => oV (vInt x))) (os := fun k => [(vL C (tv1 C)) k.1, vStr k.2.1, vStr k.2.2.1]) (g := (fun k : (List (Str × Str × Int)) × Str × Str × Unit => (k.1, k.2.1, k.2.2.1, ()))) (dv := []) (wd := []) (d11 (X := X)) (by exact ⟨by decide, by decide⟩) rfl (fun _ => .nil) (fun _ => rfl) (elv_consP (x := (v169 : (List (Str × Str × Int)))) (evB_vV (τ := (vL C (tv1 C))) (x := v169) rfl) (elv_consP (x := (z224 : Str)) (evB_vV (τ := vStr) (x := z224) rfl) (elv_consP (x := (x219 : Str)) (evB_vV (τ := vStr) (x := x219) rfl) (elv_nilE (by rfl))))))) (ev_int 0) op_gt)))) (fun z224 => (ev_flat (evB_vV (τ := vStr) (x := z224) rfl)))))) (.drop (.drop (.drop (.drop (.drop (.drop (.drop (.drop (.drop (.drop (.drop .nil)))))))))))) (fun _ => Nat.le_of_ble_eq_true rfl) fun v222 =>
  (b_asg (i := 8) (evx (τ := (oL C fun x => oV (vStr x))) (m := (outR (f13 a2 x219))) (wk_ev (Γ' := [none, none, some (oV ((vL C (tv1 C)) a2)), none, none, some (oV (vStr x219)), none, none, none, none, none]) (.drop (.drop (.keep (.drop (.drop (.keep (.drop (.drop (.drop (.drop (.drop .nil))))))))))) (ev_callT (i := 13) (T := T7) (τ := (oL C fun x => oV (vStr x))) (os := fun k => [(vL C (tv1 C)) k.1, vStr k.2.1]) (g := (fun k : (List (Str × Str × Int)) × Str × Unit => (k.1, k.2.1, ()))) (dv := []) (wd := []) (d13 (X := X)) (by exact ⟨by decide, by decide⟩) rfl (fun _ => .nil) (fun _ => rfl) (elv_consP (x := (a2 : (List (Str × Str × Int)))) (evB_vV (τ := (vL C (tv1 C))) (x := a2) rfl) (elv_consP (x := (x219 : Str)) (evB_vV (τ := vStr) (x := x219) rfl) (elv_nilE (by rfl)))))) (.drop (.drop (.drop (.drop (.drop (.drop (.drop (.drop (.drop (.drop (.drop .nil)))))))))))) (fun _ => Nat.le_of_ble_eq_true rfl) fun v230 =>
  (by exact (b_ifL (m := ((outR (f14 v230 v222) >>= fun x246 => (Res.ok (!x246))))) (bor_evT (Γ' := [none, none, none, none, none, none, some (oV ((vL C vStr) v222)), none, some (oV ((vL C vStr) v230)), none, none]) (.drop (.drop (.drop (.drop (.drop (.drop (.put rfl (.drop (.put (OwV.eq (o := (oL C fun x => oV (vStr x))) v230) (.drop (.drop .nil))))))))))) (ev_notT (m := (outR (f14 v230 v222))) (ev_test (ev_see (o := (fun x : Bool => oV (vBl x))) (ev_callT (i := 14) (T := T7) (τ := (fun x : Bool => oV (vBl x))) (os := fun k => [(vL C vStr) k.1, (vL C vStr) k.2.1]) (g := (fun k : (List Str) × (List Str) × Unit => (k.1, k.2.1, ()))) (dv := []) (wd := []) (d14 (X := X)) (by exact ⟨by decide, by decide⟩) rfl (fun _ => .nil) (fun _ => rfl) (elv_consP (x := (v230 : (List Str))) (evB_vV (τ := (vL C vStr)) (x := v230) rfl) (elv_consP (x := (v222 : (List Str))) (evB_vV (τ := (vL C vStr)) (x := v222) rfl) (elv_nilE (by rfl))))))))) (.drop (.drop (.drop (.drop (.drop (.drop (.drop (.drop (.drop (.drop (.drop .nil))))))))))) rfl
  (b_ret (g := fun r248 => r248) (evx (m := (Res.ok false)) (wk_ev (Γ' := [none, none, none, none, none, none, none, none, none, none, none]) (.drop (.drop (.drop (.drop (.drop (.drop (.drop (.drop (.drop (.drop (.drop .nil))))))))))) (ev_flat (ev_bl false))) (.drop (.drop (.drop (.drop (.drop (.drop (.drop (.drop (.drop (.drop (.drop .nil)))))))))))) (fun _ => Le.refl _) (fun _ => (.drop (.drop (.drop (.drop (.drop (.drop (.drop (.drop (.drop (.drop (.drop .nil)))))))))))))
  (p_clr (τ := (fun x : Str => oV (vStr x))) (xs := v230) (pl_v (i := 8) (τ := (oL C fun x => oV (vStr x))) (x := v230) rfl) (b_nop (.keep (.keep (.keep (.keep (.keep (.drop (.drop (.drop (.drop (.drop (.drop .nil)))))))))))))))))) fun s218 =>
  (b_asg (i := 6) (evx (τ := (fun x : (List Str) => oV ((vL C vStr) x))) (m := ((gd (decide (a1.length < 64)) (Res.ok (sortS a1)) >>= fun x254 => (gd (decide (x254.length ≤ sizeLine)) (lcR (fun z251 : Str => ((gd (decide (v169.length ≤ sizeLine)) (lcR (fun z252 : (Str × Str × Int) => (Res.ok true)) (fun z252 : (Str × Str × Int) => (Res.ok z252.1)) v169) >>= fun x253 => (Res.ok (decide (z251 ∈ x253)))))) (fun z251 : Str => (Res.ok z251)) x254))))) (wk_ev (Γ' := [none, some (oV ((vL C vStr) a1)), none, none, some (oV ((vL C (tv1 C)) v169)), none, none, none, none, none, none]) (.drop (.keep (.drop (.drop (.keep (.drop (.drop (.drop (.drop (.drop (.drop .nil))))))))))) (ev_fz (o := (oL C fun x => oV (vStr x))) (ev_lc (m := (gd (decide (a1.length < 64)) (Res.ok (sortS a1)))) (τ := vStr) (ε := (fun x : Str => oV (vStr x))) (c := fun z251 : Str => ((gd (decide (v169.length ≤ sizeLine)) (lcR (fun z252 : (Str × Str × Int) => (Res.ok true)) (fun z252 : (Str × Str × Int) => (Res.ok z252.1)) v169) >>= fun x253 => (Res.ok (decide (z251 ∈ x253)))))) (f := fun z251 : Str => (Res.ok z251)) (ev_fz (o := (oL C fun x => oV (vStr x))) (ev_blt1P (x := a1) (op := fun x : List Str => gd (decide (x.length < 64)) (Res.ok (sortS x))) (evB_vV (τ := (vL C vStr)) (x := a1) rfl) bl_sortS)) (fun z251 => (eps_one (ev_test (ev_cmpL (op := fun (x : Str) (y : (List Str)) => (Res.ok (decide (x ∈ y)))) (x := z251) (mb := (gd (decide (v169.length ≤ sizeLine)) (lcR (fun z252 : (Str × Str × Int) => (Res.ok true)) (fun z252 : (Str × Str × Int) => (Res.ok z252.1)) v169))) (evB_vV (τ := vStr) (x := z251) rfl) (ev_see (o := (oL C fun x => oV (vStr x))) (ev_lcP (xs := v169) (τ := (tv1 C)) (ε := (fun x : Str => oV (vStr x))) (c := fun z252 : (Str × Str × Int) => (Res.ok true)) (f := fun z252 : (Str × Str × Int) => (Res.ok z252.1)) (evO_v (τ := (vL C (tv1 C))) (x := v169) rfl) (fun z252 => eps_nil) (fun z252 => (ev_flat (ev_pickP (x := z252) (ws := fun x : (Str × Str × Int) => [vStr x.1, vStr x.2.1, vInt x.2.2]) (τ := vStr) (f := fun x : (Str × Str × Int) => x.1) (evB_vV (τ := (tv1 C)) (x := z252) rfl) fun _ => rfl))))) op_inS)))) (fun z251 => (ev_flat (evB_vV (τ := vStr) (x := z251) rfl)))))) (.drop (.drop (.drop (.drop (.drop (.drop (.drop (.drop (.drop (.drop (.drop .nil)))))))))))) (fun _ => Nat.le_of_ble_eq_true rfl) fun v250 =>
  (b_asg (i := 7) (evx (τ := (fun x : (List Str) => oV ((vL C vStr) x))) (m := (Res.ok a0)) (wk_ev (Γ' := [some (oV ((vL C vStr) a0)), none, none, none, none, none, none, none, none, none, none]) (.keep (.drop (.drop (.drop (.drop (.drop (.drop (.drop (.drop (.drop (.drop .nil))))))))))) (ev_fz (o := (oL C fun x => oV (vStr x))) (ev_blt1P (x := a0) (op := fun x => Res.ok x) (evB_vV (τ := (vL C vStr)) (x := a0) rfl) bl_list))) (.drop (.drop (.drop (.drop (.drop (.drop (.drop (.drop (.drop (.drop (.drop .nil)))))))))))) (fun _ => Nat.le_of_ble_eq_true rfl) fun v255 =>
  (b_asg (i := 8) (evx (τ := (oL C fun x => oV (vStr x))) (m := (outR (f15 v255 a2))) (wk_ev (Γ' := [none, none, some (oV ((vL C (tv1 C)) a2)), none, none, none, none, some (oV ((vL C vStr) v255)), none, none, none]) (.drop (.drop (.keep (.drop (.drop (.drop (.drop (.keep (.drop (.drop (.drop .nil))))))))))) (ev_callT (i := 15) (T := T7) (τ := (oL C fun x => oV (vStr x))) (os := fun k => [(vL C vStr) k.1, (vL C (tv1 C)) k.2.1]) (g := (fun k : (List Str) × (List (Str × Str × Int)) × Unit => (k.1, k.2.1, ()))) (dv := []) (wd := []) (d15 (X := X)) (by exact ⟨by decide, by decide⟩) rfl (fun _ => .nil) (fun _ => rfl) (elv_consP (x := (v255 : (List Str))) (evB_vV (τ := (vL C vStr)) (x := v255) rfl) (elv_consP (x := (a2 : (List (Str × Str × Int)))) (evB_vV (τ := (vL C (tv1 C))) (x := a2) rfl) (elv_nilE (by rfl)))))) (.drop (.drop (.drop (.drop (.drop (.drop (.drop (.drop (.drop (.drop (.drop .nil)))))))))))) (fun _ => Nat.le_of_ble_eq_true rfl) fun v256 =>
  (by exact (b_ifL (m := (orR ((outR (f14 v256 v250) >>= fun x264 => (Res.ok (!x264)))) (neR ((fun xs : (List Str) => PyData.list (xs.map PyData.str)) v255) ((fun xs : (List Str) => PyData.list (xs.map PyData.str)) a0)))) (bor_evT (Γ' := [some (oV ((vL C vStr) a0)), none, none, none, none, none, some (oV ((vL C vStr) v250)), some (oV ((vL C vStr) v255)), some (oV ((vL C vStr) v256)), none, none]) (.put rfl (.drop (.drop (.drop (.drop (.drop (.put rfl (.put rfl (.put (OwV.eq (o := (oL C fun x => oV (vStr x))) v256) (.drop (.drop .nil))))))))))) (ev_orT (ev_r2 (m := ((outR (f14 v256 v250) >>= fun x264 => (Res.ok (!x264))))) (n := (neR ((fun xs : (List Str) => PyData.list (xs.map PyData.str)) v255) ((fun xs : (List Str) => PyData.list (xs.map PyData.str)) a0))) (ev_notT (m := (outR (f14 v256 v250))) (ev_test (ev_see (o := (fun x : Bool => oV (vBl x))) (ev_callT (i := 14) (T := T7) (τ := (fun x : Bool => oV (vBl x))) (os := fun k => [(vL C vStr) k.1, (vL C vStr) k.2.1]) (g := (fun k : (List Str) × (List Str) × Unit => (k.1, k.2.1, ()))) (dv := []) (wd := []) (d14 (X := X)) (by exact ⟨by decide, by decide⟩) rfl (fun _ => .nil) (fun _ => rfl) (elv_consP (x := (v256 : (List Str))) (evB_vV (τ := (vL C vStr)) (x := v256) rfl) (elv_consP (x := (v250 : (List Str))) (evB_vV (τ := (vL C vStr)) (x := v250) rfl) (elv_nilE (by rfl)))))))) (ev_r1 (m := (neR ((fun xs : (List Str) => PyData.list (xs.map PyData.str)) v255) ((fun xs : (List Str) => PyData.list (xs.map PyData.str)) a0))) (ev_test (ev_cmpP (op := fun (x : (List Str)) (y : (List Str)) => neR ((fun xs : (List Str) => PyData.list (xs.map PyData.str)) x) ((fun xs : (List Str) => PyData.list (xs.map PyData.str)) y)) (x := v255) (y := a0) (evB_vV (τ := (vL C vStr)) (x := v255) rfl) (evB_vV (τ := (vL C vStr)) (x := a0) rfl) op_ne)))))) (.drop (.drop (.drop (.drop (.drop (.drop (.drop (.drop (.drop (.drop (.drop .nil))))))))))) rfl
  (b_ret (g := fun r266 => r266) (evx (m := (Res.ok false)) (wk_ev (Γ' := [none, none, none, none, none, none, none, none, none, none, none]) (.drop (.drop (.drop (.drop (.drop (.drop (.drop (.drop (.drop (.drop (.drop .nil))))))))))) (ev_flat (ev_bl false))) (.drop (.drop (.drop (.drop (.drop (.drop (.drop (.drop (.drop (.drop (.drop .nil)))))))))))) (fun _ => Le.refl _) (fun _ => (.drop (.drop (.drop (.drop (.drop (.drop (.drop (.drop (.drop (.drop (.drop .nil)))))))))))))
  (p_clr (τ := (fun x : Str => oV (vStr x))) (xs := v256) (pl_v (i := 8) (τ := (oL C fun x => oV (vStr x))) (x := v256) rfl) (b_ret (g := fun r268 => r268) (evx (m := (eqR ((fun xs : (List (Str × Str × Int)) => PyData.list (xs.map tp1)) a2) ((fun xs : (List (Str × Str × Int)) => PyData.list (xs.map tp1)) v169))) (wk_ev (Γ' := [none, none, some (oV ((vL C (tv1 C)) a2)), none, some (oV ((vL C (tv1 C)) v169)), none, none, none, none, none, none]) (.drop (.drop (.keep (.drop (.keep (.drop (.drop (.drop (.drop (.drop (.drop .nil))))))))))) (ev_flat (ev_cmpP (op := fun (x : (List (Str × Str × Int))) (y : (List (Str × Str × Int))) => eqR ((fun xs : (List (Str × Str × Int)) => PyData.list (xs.map tp1)) x) ((fun xs : (List (Str × Str × Int)) => PyData.list (xs.map tp1)) y)) (x := a2) (y := v169) (evB_vV (τ := (vL C (tv1 C))) (x := a2) rfl) (evB_vV (τ := (vL C (tv1 C))) (x := v169) rfl) op_eq))) (.drop (.drop (.drop (.drop (.drop (.drop (.drop (.drop (.drop (.drop (.drop .nil)))))))))))) (fun _ => Le.refl _) (fun _ => (.drop (.drop (.drop (.drop (.drop (.drop (.drop (.drop (.drop (.drop (.drop .nil))))))))))))))))))))))
def f0 (a0 : (List Int)) : Out Unit Unit Bool Unit :=
  (outR (f1 a0)).to () fun v1 =>
  (Res.ok v1.1).to () fun v70 =>
  (Res.ok v1.2).to () fun v71 =>
  (Res.ok [("nobody" : Str), ("noone" : Str), ("none" : Str), ("other" : Str), ("third" : Str), ("fourth" : Str), ("fifth" : Str), ("sixth" : Str), ("seventh" : Str)]).to () fun v72 =>
  ((gd (decide (v72.length ≤ sizeLine)) (lcR (fun z83 : Str => ((gd (decide (v70.length + v71.length ≤ sizeLine)) (Res.ok (v70 ++ v71)) >>= fun x84 => (Res.ok (!decide (z83 ∈ x84)))))) (fun z83 : Str => (Res.ok z83)) v72) >>= fun x85 => (ixR x85 (0 : Int)))).to () fun v82 =>
  (outR (f5 a0 v70 v71)).to () fun v86 =>
  ((outR (f7 v70 v71 v86 v82) >>= fun x273 => (Res.ok (!x273)))).to () fun b274 => cond b274
  ((Res.ok false).to () fun r275 => .rt r275)
  ((outR (f2 a0 (3 : Int))).to () fun v276 =>
  (gd (decide (v70.length + v71.length ≤ sizeLine)) (Res.ok (v70 ++ v71))).to () fun v279 =>
  ((((outR (f4 v276 (48271 : Int)) >>= fun x283 => (gd (!decide ((v279.length : Int) = 0)) (Res.ok (Int.fmod x283 (v279.length : Int))))) >>= fun x284 => (ixR v279 x284)) >>= fun x289 => ((((outR (f4 v276 (69621 : Int)) >>= fun x287 => (gd (!decide ((v70.length : Int) = 0)) (Res.ok (Int.fmod x287 (v70.length : Int))))) >>= fun x288 => (ixR v70 x288)) >>= fun x290 => (Res.ok (x289, x290, (7 : Int))))))).to () fun v280 =>
  ((outR (f4 v276 (16807 : Int)) >>= fun x297 => (gd (!decide (((v86.length : Int) + (1 : Int)) = 0)) (Res.ok (Int.fmod x297 ((v86.length : Int) + (1 : Int))))))).to () fun j298 => (Res.ok v280).to () fun v294 => gdO (decide (v86.length < sizeLine) && decide (0 ≤ j298) && decide (j298 < 2 ^ 63))
  ((andR (outR (f7 v70 v71 (v86.take j298.toNat ++ [v294] ++ v86.drop j298.toNat) v82)) (outR (f7 v70 v71 ([] : (List (Str × Str × Int))) v82))).to () fun r307 => .rt r307))
theorem d0 {C : Kc} (X : Kf C) : FnT C R0 (fun k : (List Int) × Unit => [(vL C vInt) k.1]) (fun x : Bool => oV (vBl x)) (fun k => outR (f0 k.1)) :=
  fn_read (T := T0) (cs := cs) (n := 1) (N := 11) (s := b0) (fun _ => rfl) (fun _ => rfl) fun ⟨a0, _⟩ =>
  (b_asg (i := 1) (evx (τ := (fun x : ((List Str) × (List Str)) => oV ((tv0 C) x))) (m := (outR (f1 a0))) (wk_ev (Γ' := [some (oV ((vL C vInt) a0)), none, none, none, none, none, none, none, none, none, none]) (.keep (.drop (.drop (.drop (.drop (.drop (.drop (.drop (.drop (.drop (.drop .nil))))))))))) (ev_callF (i := 1) (T := T0) (τ := (fun x : ((List Str) × (List Str)) => oV ((tv0 C) x))) (os := fun k => [(vL C vInt) k.1]) (g := (fun k : (List Int) × Unit => (k.1, ()))) (dv := []) (wd := []) (d1 (X := X)) (by exact ⟨by decide, by decide⟩) rfl (fun _ => .nil) (fun _ => rfl) (elo_consP (x := (a0 : (List Int))) (evO_v (τ := (vL C vInt)) (x := a0) rfl) (elo_nilE (by rfl))))) (.drop (.drop (.drop (.drop (.drop (.drop (.drop (.drop (.drop (.drop (.drop .nil)))))))))))) (fun _ => Nat.le_of_ble_eq_true rfl) fun v1 =>
  (b_asg (i := 2) (evx (τ := (fun x : (List Str) => oV ((vL C vStr) x))) (m := (Res.ok v1.1)) (wk_ev (Γ' := [none, some (oV ((tv0 C) v1)), none, none, none, none, none, none, none, none, none]) (.drop (.keep (.drop (.drop (.drop (.drop (.drop (.drop (.drop (.drop (.drop .nil))))))))))) (ev_pickFP (x := v1) (ws := fun x : ((List Str) × (List Str)) => [(vL C vStr) x.1, (vL C vStr) x.2]) (τ := (vL C vStr)) (f := fun x : ((List Str) × (List Str)) => x.1) (evO_v (τ := (tv0 C)) (x := v1) rfl) fun _ => rfl)) (.drop (.drop (.drop (.drop (.drop (.drop (.drop (.drop (.drop (.drop (.drop .nil)))))))))))) (fun _ => Nat.le_of_ble_eq_true rfl) fun v70 =>
  (b_asg (i := 3) (evx (τ := (fun x : (List Str) => oV ((vL C vStr) x))) (m := (Res.ok v1.2)) (wk_ev (Γ' := [none, some (oV ((tv0 C) v1)), none, none, none, none, none, none, none, none, none]) (.drop (.keep (.drop (.drop (.drop (.drop (.drop (.drop (.drop (.drop (.drop .nil))))))))))) (ev_pickFP (x := v1) (ws := fun x : ((List Str) × (List Str)) => [(vL C vStr) x.1, (vL C vStr) x.2]) (τ := (vL C vStr)) (f := fun x : ((List Str) × (List Str)) => x.2) (evO_v (τ := (tv0 C)) (x := v1) rfl) fun _ => rfl)) (.drop (.drop (.drop (.drop (.drop (.drop (.drop (.drop (.drop (.drop (.drop .nil)))))))))))) (fun _ => Nat.le_of_ble_eq_true rfl) fun v71 =>
  (b_asg (i := 4) (evx (τ := (fun x : (List Str) => oV ((vL C vStr) x))) (m := (Res.ok [("nobody" : Str), ("noone" : Str), ("none" : Str), ("other" : Str), ("third" : Str), ("fourth" : Str), ("fifth" : Str), ("sixth" : Str), ("seventh" : Str)])) (wk_ev (Γ' := [none, none, none, none, none, none, none, none, none, none, none]) (.drop (.drop (.drop (.drop (.drop (.drop (.drop (.drop (.drop (.drop (.drop .nil))))))))))) (ev_fz (o := (oL C fun x => oV (vStr x))) (ev_lst (τ := (oL C fun x => oV (vStr x))) (os := (fun k => [oV (vStr k.1), oV (vStr k.2.1), oV (vStr k.2.2.1), oV (vStr k.2.2.2.1), oV (vStr k.2.2.2.2.1), oV (vStr k.2.2.2.2.2.1), oV (vStr k.2.2.2.2.2.2.1), oV (vStr k.2.2.2.2.2.2.2.1), oV (vStr k.2.2.2.2.2.2.2.2.1)])) (g := (fun k : Str × Str × Str × Str × Str × Str × Str × Str × Str × Unit => [k.1, k.2.1, k.2.2.1, k.2.2.2.1, k.2.2.2.2.1, k.2.2.2.2.2.1, k.2.2.2.2.2.2.1, k.2.2.2.2.2.2.2.1, k.2.2.2.2.2.2.2.2.1])) (elo_consP (x := (("nobody" : Str) : Str)) (ev_flat (ev_str ("nobody" : Str))) (elo_consP (x := (("noone" : Str) : Str)) (ev_flat (ev_str ("noone" : Str))) (elo_consP (x := (("none" : Str) : Str)) (ev_flat (ev_str ("none" : Str))) (elo_consP (x := (("other" : Str) : Str)) (ev_flat (ev_str ("other" : Str))) (elo_consP (x := (("third" : Str) : Str)) (ev_flat (ev_str ("third" : Str))) (elo_consP (x := (("fourth" : Str) : Str)) (ev_flat (ev_str ("fourth" : Str))) (elo_consP (x := (("fifth" : Str) : Str)) (ev_flat (ev_str ("fifth" : Str))) (elo_consP (x := (("sixth" : Str) : Str)) (ev_flat (ev_str ("sixth" : Str))) (elo_consP (x := (("seventh" : Str) : Str)) (ev_flat (ev_str ("seventh" : Str))) (elo_nilE (by rfl))))))))))) (fun _ => Nat.le_of_ble_eq_true rfl) (fun _ => rfl)))) (.drop (.drop (.drop (.drop (.drop (.drop (.drop (.drop (.drop (.drop (.drop .nil)))))))))))) (fun _ => Nat.le_of_ble_eq_true rfl) fun v72 =>
  (b_asg (i := 5) (evx (τ := (fun x : Str => oV (vStr x))) (m := ((gd (decide (v72.length ≤ sizeLine)) (lcR (fun z83 : Str => ((gd (decide (v70.length + v71.length ≤ sizeLine)) (Res.ok (v70 ++ v71)) >>= fun x84 => (Res.ok (!decide (z83 ∈ x84)))))) (fun z83 : Str => (Res.ok z83)) v72) >>= fun x85 => (ixR x85 (0 : Int))))) (wk_ev (Γ' := [none, none, some (oV ((vL C vStr) v70)), some (oV ((vL C vStr) v71)), some (oV ((vL C vStr) v72)), none, none, none, none, none, none]) (.drop (.drop (.keep (.keep (.keep (.drop (.drop (.drop (.drop (.drop (.drop .nil))))))))))) (ev_flat (ev_ixR (op := ixR) (ma := (gd (decide (v72.length ≤ sizeLine)) (lcR (fun z83 : Str => ((gd (decide (v70.length + v71.length ≤ sizeLine)) (Res.ok (v70 ++ v71)) >>= fun x84 => (Res.ok (!decide (z83 ∈ x84)))))) (fun z83 : Str => (Res.ok z83)) v72))) (y := (0 : Int)) (ev_see (o := (oL C fun x => oV (vStr x))) (ev_lcP (xs := v72) (τ := vStr) (ε := (fun x : Str => oV (vStr x))) (c := fun z83 : Str => ((gd (decide (v70.length + v71.length ≤ sizeLine)) (Res.ok (v70 ++ v71)) >>= fun x84 => (Res.ok (!decide (z83 ∈ x84)))))) (f := fun z83 : Str => (Res.ok z83)) (evO_v (τ := (vL C vStr)) (x := v72) rfl) (fun z83 => (eps_one (ev_test (ev_cmpL (op := fun (x : Str) (y : (List Str)) => (Res.ok (!decide (x ∈ y)))) (x := z83) (mb := (gd (decide (v70.length + v71.length ≤ sizeLine)) (Res.ok (v70 ++ v71)))) (evB_vV (τ := vStr) (x := z83) rfl) (ev_see (o := (oL C fun x => oV (vStr x))) (ev_catP (x := v70) (y := v71) (evO_v (τ := (vL C vStr)) (x := v70) rfl) (evO_v (τ := (vL C vStr)) (x := v71) rfl))) op_ninS)))) (fun z83 => (ev_flat (evB_vV (τ := vStr) (x := z83) rfl))))) (ev_int 0) op_ixL))) (.drop (.drop (.drop (.drop (.drop (.drop (.drop (.drop (.drop (.drop (.drop .nil)))))))))))) (fun _ => Nat.le_of_ble_eq_true rfl) fun v82 =>
  (b_asg (i := 6) (evx (τ := (oL C fun x => oV ((tv1 C) x))) (m := (outR (f5 a0 v70 v71))) (wk_ev (Γ' := [some (oV ((vL C vInt) a0)), none, some (oV ((vL C vStr) v70)), some (oV ((vL C vStr) v71)), none, none, none, none, none, none, none]) (.keep (.drop (.keep (.keep (.drop (.drop (.drop (.drop (.drop (.drop (.drop .nil))))))))))) (ev_callT (i := 5) (T := T0) (τ := (oL C fun x => oV ((tv1 C) x))) (os := fun k => [(vL C vInt) k.1, (vL C vStr) k.2.1, (vL C vStr) k.2.2.1]) (g := (fun k : (List Int) × (List Str) × (List Str) × Unit => (k.1, k.2.1, k.2.2.1, ()))) (dv := []) (wd := []) (d5 (X := X)) (by exact ⟨by decide, by decide⟩) rfl (fun _ => .nil) (fun _ => rfl) (elv_consP (x := (a0 : (List Int))) (evB_vV (τ := (vL C vInt)) (x := a0) rfl) (elv_consP (x := (v70 : (List Str))) (evB_vV (τ := (vL C vStr)) (x := v70) rfl) (elv_consP (x := (v71 : (List Str))) (evB_vV (τ := (vL C vStr)) (x := v71) rfl) (elv_nilE (by rfl))))))) (.drop (.drop (.drop (.drop (.drop (.drop (.drop (.drop (.drop (.drop (.drop .nil)))))))))))) (fun _ => Nat.le_of_ble_eq_true rfl) fun v86 =>
  (by exact (b_ifL (m := ((outR (f7 v70 v71 v86 v82) >>= fun x273 => (Res.ok (!x273))))) (bor_evT (Γ' := [none, none, some (oV ((vL C vStr) v70)), some (oV ((vL C vStr) v71)), none, some (oV (vStr v82)), some (oV ((vL C (tv1 C)) v86)), none, none, none, none]) (.drop (.drop (.put rfl (.put rfl (.drop (.put rfl (.put (OwV.eq (o := (oL C fun x => oV ((tv1 C) x))) v86) (.drop (.drop (.drop (.drop .nil))))))))))) (ev_notT (m := (outR (f7 v70 v71 v86 v82))) (ev_test (ev_see (o := (fun x : Bool => oV (vBl x))) (ev_callT (i := 7) (T := T0) (τ := (fun x : Bool => oV (vBl x))) (os := fun k => [(vL C vStr) k.1, (vL C vStr) k.2.1, (vL C (tv1 C)) k.2.2.1, vStr k.2.2.2.1]) (g := (fun k : (List Str) × (List Str) × (List (Str × Str × Int)) × Str × Unit => (k.1, k.2.1, k.2.2.1, k.2.2.2.1, ()))) (dv := []) (wd := []) (d7 (X := X)) (by exact ⟨by decide, by decide⟩) rfl (fun _ => .nil) (fun _ => rfl) (elv_consP (x := (v70 : (List Str))) (evB_vV (τ := (vL C vStr)) (x := v70) rfl) (elv_consP (x := (v71 : (List Str))) (evB_vV (τ := (vL C vStr)) (x := v71) rfl) (elv_consP (x := (v86 : (List (Str × Str × Int)))) (evB_vV (τ := (vL C (tv1 C))) (x := v86) rfl) (elv_consP (x := (v82 : Str)) (evB_vV (τ := vStr) (x := v82) rfl) (elv_nilE (by rfl))))))))))) (.drop (.drop (.drop (.drop (.drop (.drop (.drop (.drop (.drop (.drop (.drop .nil))))))))))) rfl
  (b_ret (g := fun r275 => r275) (evx (m := (Res.ok false)) (wk_ev (Γ' := [none, none, none, none, none, none, none, none, none, none, none]) (.drop (.drop (.drop (.drop (.drop (.drop (.drop (.drop (.drop (.drop (.drop .nil))))))))))) (ev_flat (ev_bl false))) (.drop (.drop (.drop (.drop (.drop (.drop (.drop (.drop (.drop (.drop (.drop .nil)))))))))))) (fun _ => Le.refl _) (fun _ => (.drop (.drop (.drop (.drop (.drop (.drop (.drop (.drop (.drop (.drop (.drop .nil)))))))))))))
  (b_asg (i := 7) (evx (τ := (fun x : Int => oV (vInt x))) (m := (outR (f2 a0 (3 : Int)))) (wk_ev (Γ' := [some (oV ((vL C vInt) a0)), none, none, none, none, none, none, none, none, none, none]) (.keep (.drop (.drop (.drop (.drop (.drop (.drop (.drop (.drop (.drop (.drop .nil))))))))))) (ev_flat (ev_see (o := (fun x : Int => oV (vInt x))) (ev_callT (i := 2) (T := T0) (τ := (fun x : Int => oV (vInt x))) (os := fun k => [(vL C vInt) k.1, vInt k.2.1]) (g := (fun k : (List Int) × Int × Unit => (k.1, k.2.1, ()))) (dv := []) (wd := []) (d2 (X := X)) (by exact ⟨by decide, by decide⟩) rfl (fun _ => .nil) (fun _ => rfl) (elv_consP (x := (a0 : (List Int))) (evB_vV (τ := (vL C vInt)) (x := a0) rfl) (elv_consP (x := ((3 : Int) : Int)) (ev_int 3) (elv_nilE (by rfl)))))))) (.drop (.drop (.drop (.drop (.drop (.drop (.drop (.drop (.drop (.drop (.drop .nil)))))))))))) (fun _ => Nat.le_of_ble_eq_true rfl) fun v276 =>
  (b_asg (i := 8) (evx (τ := (fun x : (List Str) => oV ((vL C vStr) x))) (m := (gd (decide (v70.length + v71.length ≤ sizeLine)) (Res.ok (v70 ++ v71)))) (wk_ev (Γ' := [none, none, some (oV ((vL C vStr) v70)), some (oV ((vL C vStr) v71)), none, none, none, none, none, none, none]) (.drop (.drop (.keep (.keep (.drop (.drop (.drop (.drop (.drop (.drop (.drop .nil))))))))))) (ev_fz (o := (oL C fun x => oV (vStr x))) (ev_catP (x := v70) (y := v71) (evO_v (τ := (vL C vStr)) (x := v70) rfl) (evO_v (τ := (vL C vStr)) (x := v71) rfl)))) (.drop (.drop (.drop (.drop (.drop (.drop (.drop (.drop (.drop (.drop (.drop .nil)))))))))))) (fun _ => Nat.le_of_ble_eq_true rfl) fun v279 =>
  (b_asg (i := 9) (evx (τ := (fun x : (Str × Str × Int) => oV ((tv1 C) x))) (m := ((((outR (f4 v276 (48271 : Int)) >>= fun x283 => (gd (!decide ((v279.length : Int) = 0)) (Res.ok (Int.fmod x283 (v279.length : Int))))) >>= fun x284 => (ixR v279 x284)) >>= fun x289 => ((((outR (f4 v276 (69621 : Int)) >>= fun x287 => (gd (!decide ((v70.length : Int) = 0)) (Res.ok (Int.fmod x287 (v70.length : Int))))) >>= fun x288 => (ixR v70 x288)) >>= fun x290 => (Res.ok (x289, x290, (7 : Int)))))))) (wk_ev (Γ' := [none, none, some (oV ((vL C vStr) v70)), none, none, none, none, some (oV (vInt v276)), some (oV ((vL C vStr) v279)), none, none]) (.drop (.drop (.keep (.drop (.drop (.drop (.drop (.keep (.keep (.drop (.drop .nil))))))))))) (ev_fz (o := (to1 C)) (ev_tup (τ := (to1 C)) (os := (fun k => [oV (vStr k.1), oV (vStr k.2.1), oV (vInt k.2.2.1)])) (g := (fun k : Str × Str × Int × Unit => (k.1, k.2.1, k.2.2.1))) (elo_cons (m := (((outR (f4 v276 (48271 : Int)) >>= fun x283 => (gd (!decide ((v279.length : Int) = 0)) (Res.ok (Int.fmod x283 (v279.length : Int))))) >>= fun x284 => (ixR v279 x284)))) (ev_flat (ev_ixL (op := ixR) (x := v279) (mb := ((outR (f4 v276 (48271 : Int)) >>= fun x283 => (gd (!decide ((v279.length : Int) = 0)) (Res.ok (Int.fmod x283 (v279.length : Int))))))) (evB_vV (τ := (vL C vStr)) (x := v279) rfl) (ev_binR (op := fun (x : Int) (y : Int) => (gd (!decide (y = 0)) (Res.ok (Int.fmod x y)))) (ma := (outR (f4 v276 (48271 : Int)))) (y := (v279.length : Int)) (ev_see (o := (fun x : Int => oV (vInt x))) (ev_callT (i := 4) (T := T0) (τ := (fun x : Int => oV (vInt x))) (os := fun k => [vInt k.1, vInt k.2.1]) (g := (fun k : Int × Int × Unit => (k.1, k.2.1, ()))) (dv := []) (wd := []) (d4 (X := X)) (by exact ⟨by decide, by decide⟩) rfl (fun _ => .nil) (fun _ => rfl) (elv_consP (x := (v276 : Int)) (evB_vV (τ := vInt) (x := v276) rfl) (elv_consP (x := ((48271 : Int) : Int)) (ev_int 48271) (elv_nilE (by rfl)))))) (ev_blt1P (x := v279) (op := fun x : (List Str) => (Res.ok (x.length : Int))) (evB_vV (τ := (vL C vStr)) (x := v279) rfl) bl_lenL) op_modI) op_ixL)) fun y291 => (elo_cons (m := (((outR (f4 v276 (69621 : Int)) >>= fun x287 => (gd (!decide ((v70.length : Int) = 0)) (Res.ok (Int.fmod x287 (v70.length : Int))))) >>= fun x288 => (ixR v70 x288)))) (ev_flat (ev_ixL (op := ixR) (x := v70) (mb := ((outR (f4 v276 (69621 : Int)) >>= fun x287 => (gd (!decide ((v70.length : Int) = 0)) (Res.ok (Int.fmod x287 (v70.length : Int))))))) (evB_vV (τ := (vL C vStr)) (x := v70) rfl) (ev_binR (op := fun (x : Int) (y : Int) => (gd (!decide (y = 0)) (Res.ok (Int.fmod x y)))) (ma := (outR (f4 v276 (69621 : Int)))) (y := (v70.length : Int)) (ev_see (o := (fun x : Int => oV (vInt x))) (ev_callT (i := 4) (T := T0) (τ := (fun x : Int => oV (vInt x))) (os := fun k => [vInt k.1, vInt k.2.1]) (g := (fun k : Int × Int × Unit => (k.1, k.2.1, ()))) (dv := []) (wd := []) (d4 (X := X)) (by exact ⟨by decide, by decide⟩) rfl (fun _ => .nil) (fun _ => rfl) (elv_consP (x := (v276 : Int)) (evB_vV (τ := vInt) (x := v276) rfl) (elv_consP (x := ((69621 : Int) : Int)) (ev_int 69621) (elv_nilE (by rfl)))))) (ev_blt1P (x := v70) (op := fun x : (List Str) => (Res.ok (x.length : Int))) (evB_vV (τ := (vL C vStr)) (x := v70) rfl) bl_lenL) op_modI) op_ixL)) fun y292 => (elo_consP (x := ((7 : Int) : Int)) (ev_flat (ev_int 7)) (elo_nilE (by rfl))))) (fun _ => Nat.le_of_ble_eq_true rfl) (fun _ => rfl)))) (.drop (.drop (.drop (.drop (.drop (.drop (.drop (.drop (.drop (.drop (.drop .nil)))))))))))) (fun _ => Nat.le_of_ble_eq_true rfl) fun v280 =>
  (p_ins (mj := ((outR (f4 v276 (16807 : Int)) >>= fun x297 => (gd (!decide (((v86.length : Int) + (1 : Int)) = 0)) (Res.ok (Int.fmod x297 ((v86.length : Int) + (1 : Int)))))))) (m := (Res.ok v280)) (τ := (fun x : (Str × Str × Int) => oV ((tv1 C) x))) (xs := v86) (pl_v (i := 6) (τ := (oL C fun x => oV ((tv1 C) x))) (x := v86) rfl) (bor_evB (Γ' := [none, none, none, none, none, none, some (oV ((vL C (tv1 C)) v86)), some (oV (vInt v276)), none, none, none]) (.drop (.drop (.drop (.drop (.drop (.drop (.put (OwV.eq (o := (oL C fun x => oV ((tv1 C) x))) v86) (.put rfl (.drop (.drop (.drop .nil))))))))))) (ev_binR (op := fun (x : Int) (y : Int) => (gd (!decide (y = 0)) (Res.ok (Int.fmod x y)))) (ma := (outR (f4 v276 (16807 : Int)))) (y := ((v86.length : Int) + (1 : Int))) (ev_see (o := (fun x : Int => oV (vInt x))) (ev_callT (i := 4) (T := T0) (τ := (fun x : Int => oV (vInt x))) (os := fun k => [vInt k.1, vInt k.2.1]) (g := (fun k : Int × Int × Unit => (k.1, k.2.1, ()))) (dv := []) (wd := []) (d4 (X := X)) (by exact ⟨by decide, by decide⟩) rfl (fun _ => .nil) (fun _ => rfl) (elv_consP (x := (v276 : Int)) (evB_vV (τ := vInt) (x := v276) rfl) (elv_consP (x := ((16807 : Int) : Int)) (ev_int 16807) (elv_nilE (by rfl)))))) (ev_binP (op := fun (x : Int) (y : Int) => (Res.ok (x + y))) (x := (v86.length : Int)) (y := (1 : Int)) (ev_blt1P (x := v86) (op := fun x : (List (Str × Str × Int)) => (Res.ok (x.length : Int))) (evB_vV (τ := (vL C (tv1 C))) (x := v86) rfl) bl_lenL) (ev_int 1) op_addI) op_modI)) (wk_ev (Γ' := [none, none, none, none, none, none, none, none, none, some (oV ((tv1 C) v280)), none]) (.drop (.drop (.drop (.drop (.drop (.drop (.drop (.drop (.drop (.keep (.drop .nil))))))))))) (evO_v (τ := (tv1 C)) (x := v280) rfl)) (Cv.wk (.drop (.drop (.drop (.drop (.drop (.drop (.drop (.drop (.drop (.drop (.drop .nil)))))))))))) fun j298 v294 =>
  (b_ret (g := fun r307 => r307) (evx (m := (andR (outR (f7 v70 v71 (v86.take j298.toNat ++ [v294] ++ v86.drop j298.toNat) v82)) (outR (f7 v70 v71 ([] : (List (Str × Str × Int))) v82)))) (bor_evC (Γ' := [none, none, some (oV ((vL C vStr) v70)), some (oV ((vL C vStr) v71)), none, some (oV (vStr v82)), some (oV ((vL C (tv1 C)) (v86.take j298.toNat ++ [v294] ++ v86.drop j298.toNat))), none, none, none, none]) (.drop (.drop (.put rfl (.put rfl (.drop (.put rfl (.put (OwV.eq (o := (oL C fun x => oV ((tv1 C) x))) (v86.take j298.toNat ++ [v294] ++ v86.drop j298.toNat)) (.drop (.drop (.drop (.drop .nil))))))))))) (ev_flat (ev_andV (ev_av2 (m := (outR (f7 v70 v71 (v86.take j298.toNat ++ [v294] ++ v86.drop j298.toNat) v82))) (n := (outR (f7 v70 v71 ([] : (List (Str × Str × Int))) v82))) (ev_see (o := (fun x : Bool => oV (vBl x))) (ev_callT (i := 7) (T := T0) (τ := (fun x : Bool => oV (vBl x))) (os := fun k => [(vL C vStr) k.1, (vL C vStr) k.2.1, (vL C (tv1 C)) k.2.2.1, vStr k.2.2.2.1]) (g := (fun k : (List Str) × (List Str) × (List (Str × Str × Int)) × Str × Unit => (k.1, k.2.1, k.2.2.1, k.2.2.2.1, ()))) (dv := []) (wd := []) (d7 (X := X)) (by exact ⟨by decide, by decide⟩) rfl (fun _ => .nil) (fun _ => rfl) (elv_consP (x := (v70 : (List Str))) (evB_vV (τ := (vL C vStr)) (x := v70) rfl) (elv_consP (x := (v71 : (List Str))) (evB_vV (τ := (vL C vStr)) (x := v71) rfl) (elv_consP (x := ((v86.take j298.toNat ++ [v294] ++ v86.drop j298.toNat) : (List (Str × Str × Int)))) (evB_vV (τ := (vL C (tv1 C))) (x := (v86.take j298.toNat ++ [v294] ++ v86.drop j298.toNat)) rfl) (elv_consP (x := (v82 : Str)) (evB_vV (τ := vStr) (x := v82) rfl) (elv_nilE (by rfl)))))))) (ev_av1 (m := (outR (f7 v70 v71 ([] : (List (Str × Str × Int))) v82))) (ev_see (o := (fun x : Bool => oV (vBl x))) (ev_callT (i := 7) (T := T0) (τ := (fun x : Bool => oV (vBl x))) (os := fun k => [(vL C vStr) k.1, (vL C vStr) k.2.1, (vL C (tv1 C)) k.2.2.1, vStr k.2.2.2.1]) (g := (fun k : (List Str) × (List Str) × (List (Str × Str × Int)) × Str × Unit => (k.1, k.2.1, k.2.2.1, k.2.2.2.1, ()))) (dv := []) (wd := []) (d7 (X := X)) (by exact ⟨by decide, by decide⟩) rfl (fun _ => .nil) (fun _ => rfl) (elv_consP (x := (v70 : (List Str))) (evB_vV (τ := (vL C vStr)) (x := v70) rfl) (elv_consP (x := (v71 : (List Str))) (evB_vV (τ := (vL C vStr)) (x := v71) rfl) (elv_consP (x := (([] : (List (Str × Str × Int))) : (List (Str × Str × Int)))) (ev_see (o := (oL C fun x => oV ((tv1 C) x))) (ev_lst (τ := (oL C fun x => oV ((tv1 C) x))) (os := (fun _ => [])) (g := (fun _ : Unit => ([] : (List (Str × Str × Int))))) elo_nil (fun _ => Nat.le_of_ble_eq_true rfl) (fun _ => rfl))) (elv_consP (x := (v82 : Str)) (evB_vV (τ := vStr) (x := v82) rfl) (elv_nilE (by rfl))))))))))))) (.drop (.drop (.drop (.drop (.drop (.drop (.drop (.drop (.drop (.drop (.drop .nil)))))))))))) (fun _ => Le.refl _) (fun _ => (.drop (.drop (.drop (.drop (.drop (.drop (.drop (.drop (.drop (.drop (.drop .nil)))))))))))))))))))))))))
def top (i : Nat) : Stmt := PySem.Challenge.pw_groupbooks_k41_holders_told.main.body.getD i (.Pass ⟨0, 0, 0, 0⟩)
section
variable {P : Program} {w : World} {K : PySem.W.Frag} {mg : Str → Option Value} {base : Heap} {cl : Nat → Addr} {gl : Nat → V}
theorem k2 (W : Wd lw K mg cl gl)  {f : Addr} {fd : FuncData} (F : FunD K "_law_cell_at" "_law_cell_at" (defArgs (top 6)) (defBody (top 6)) (defScope (top 6)) [] [] f fd) (hb : ∀ n, n ≤ ([] : List V).length → ∃ us, Binds K fd ["_law_script", "_law_k"] us ∧ Vals (([] : List V).drop n) us)   : FnC (gx lw T2 P w K mg base cl gl) 1 R2 f :=
  fn_is (T := T2) (c := c2) (k := 0) (s := b2) (ps := ["_law_script", "_law_k"]) F ⟨⟨rfl, rfl, rfl, by decide +kernel, rfl, by decide +kernel, by decide +kernel⟩, (show ckS ⟨T2, fnm, cnm, lw.gs, gnm, cs⟩ c2 (defScope (top 6)) b2 (defBody (top 6)) = true by decide +kernel), rfl⟩ (W.world (by decide) rfl) { fns := (fun _ z => nomatch z), fnh := (fun _ z => nomatch z) } hb
theorem k3 (W : Wd lw K mg cl gl)  {f : Addr} {fd : FuncData} (F : FunD K "_law_names" "_law_names" (defArgs (top 9)) (defBody (top 9)) (defScope (top 9)) [] [] f fd) (hb : ∀ n, n ≤ ([] : List V).length → ∃ us, Binds K fd ["_law_cell", "_law_many"] us ∧ Vals (([] : List V).drop n) us)   : FnC (gx lw T3 P w K mg base cl gl) 1 R3 f :=
  fn_is (T := T3) (c := c3) (k := 0) (s := b3) (ps := ["_law_cell", "_law_many"]) F ⟨⟨rfl, rfl, rfl, by decide +kernel, rfl, by decide +kernel, by decide +kernel⟩, (show ckS ⟨T3, fnm, cnm, lw.gs, gnm, cs⟩ c3 (defScope (top 9)) b3 (defBody (top 9)) = true by decide +kernel), rfl⟩ (W.world (by decide) rfl) { fns := (fun _ z => nomatch z), fnh := (fun _ z => nomatch z) } hb
theorem k4 (W : Wd lw K mg cl gl)  {f : Addr} {fd : FuncData} (F : FunD K "_law_mix" "_law_mix" (defArgs (top 8)) (defBody (top 8)) (defScope (top 8)) [] [] f fd) (hb : ∀ n, n ≤ ([] : List V).length → ∃ us, Binds K fd ["_law_cell", "_law_by"] us ∧ Vals (([] : List V).drop n) us)   : FnC (gx lw T4 P w K mg base cl gl) 1 R4 f :=
  fn_is (T := T4) (c := c4) (k := 0) (s := b4) (ps := ["_law_cell", "_law_by"]) F ⟨⟨rfl, rfl, rfl, by decide +kernel, rfl, by decide +kernel, by decide +kernel⟩, (show ckS ⟨T4, fnm, cnm, lw.gs, gnm, cs⟩ c4 (defScope (top 8)) b4 (defBody (top 8)) = true by decide +kernel), rfl⟩ (W.world (by decide) rfl) { fns := (fun _ z => nomatch z), fnh := (fun _ z => nomatch z) } hb
theorem k1 (W : Wd lw K mg cl gl)  {f : Addr} {fd : FuncData} (F : FunD K "_law_people" "_law_people" (defArgs (top 10)) (defBody (top 10)) (defScope (top 10)) [] [] f fd) (hb : ∀ n, n ≤ ([] : List V).length → ∃ us, Binds K fd ["_law_script"] us ∧ Vals (([] : List V).drop n) us) {ad2 : Addr} {ad3 : Addr} {ad4 : Addr} (h2 : FnC (gx lw T2 P w K mg base cl gl) 1 R2 ad2) (hm2 : mg "_law_cell_at" = some (.ref ad2)) (h3 : FnC (gx lw T3 P w K mg base cl gl) 1 R3 ad3) (hm3 : mg "_law_names" = some (.ref ad3)) (h4 : FnC (gx lw T4 P w K mg base cl gl) 1 R4 ad4) (hm4 : mg "_law_mix" = some (.ref ad4)) : FnC (gx lw T1 P w K mg base cl gl) 2 R1 f :=
  fn_is (T := T1) (c := c1) (k := 1) (s := b1) (ps := ["_law_script"]) F ⟨⟨rfl, rfl, rfl, by decide +kernel, rfl, by decide +kernel, by decide +kernel⟩, (show ckS ⟨T1, fnm, cnm, lw.gs, gnm, cs⟩ c1 (defScope (top 10)) b1 (defBody (top 10)) = true by decide +kernel), rfl⟩ (W.world (by decide) rfl) { fns := (List.forall_mem_cons.mpr ⟨⟨ad2, (h2.up (by decide)).tb, hm2⟩, (List.forall_mem_cons.mpr ⟨⟨ad3, (h3.up (by decide)).tb, hm3⟩, (List.forall_mem_cons.mpr ⟨⟨ad4, (h4.up (by decide)).tb, hm4⟩, (fun _ z => nomatch z)⟩)⟩)⟩), fnh := (fun _ z => nomatch z) } hb
theorem k6 (W : Wd lw K mg cl gl)  {f : Addr} {fd : FuncData} (F : FunD K "_law_shares" "_law_shares" (defArgs (top 11)) (defBody (top 11)) (defScope (top 11)) [] [] f fd) (hb : ∀ n, n ≤ ([] : List V).length → ∃ us, Binds K fd ["_law_cell"] us ∧ Vals (([] : List V).drop n) us)   : FnC (gx lw T6 P w K mg base cl gl) 1 R6 f :=
  fn_is (T := T6) (c := c6) (k := 0) (s := b6) (ps := ["_law_cell"]) F ⟨⟨rfl, rfl, rfl, by decide +kernel, rfl, by decide +kernel, by decide +kernel⟩, (show ckS ⟨T6, fnm, cnm, lw.gs, gnm, cs⟩ c6 (defScope (top 11)) b6 (defBody (top 11)) = true by decide +kernel), rfl⟩ (W.world (by decide) rfl) { fns := (fun _ z => nomatch z), fnh := (fun _ z => nomatch z) } hb
theorem k5 (W : Wd lw K mg cl gl)  {f : Addr} {fd : FuncData} (F : FunD K "_law_good" "_law_good" (defArgs (top 12)) (defBody (top 12)) (defScope (top 12)) [] [] f fd) (hb : ∀ n, n ≤ ([] : List V).length → ∃ us, Binds K fd ["_law_script", "_law_firms", "_law_strangers"] us ∧ Vals (([] : List V).drop n) us) {ad2 : Addr} {ad4 : Addr} {ad6 : Addr} (h2 : FnC (gx lw T2 P w K mg base cl gl) 1 R2 ad2) (hm2 : mg "_law_cell_at" = some (.ref ad2)) (h4 : FnC (gx lw T4 P w K mg base cl gl) 1 R4 ad4) (hm4 : mg "_law_mix" = some (.ref ad4)) (h6 : FnC (gx lw T6 P w K mg base cl gl) 1 R6 ad6) (hm6 : mg "_law_shares" = some (.ref ad6)) : FnC (gx lw T5 P w K mg base cl gl) 2 R5 f :=
  fn_is (T := T5) (c := c5) (k := 1) (s := b5) (ps := ["_law_script", "_law_firms", "_law_strangers"]) F ⟨⟨rfl, rfl, rfl, by decide +kernel, rfl, by decide +kernel, by decide +kernel⟩, (show ckS ⟨T5, fnm, cnm, lw.gs, gnm, cs⟩ c5 (defScope (top 12)) b5 (defBody (top 12)) = true by decide +kernel), rfl⟩ (W.world (by decide) rfl) { fns := (List.forall_mem_cons.mpr ⟨⟨ad2, (h2.up (by decide)).tb, hm2⟩, (List.forall_mem_cons.mpr ⟨⟨ad4, (h4.up (by decide)).tb, hm4⟩, (List.forall_mem_cons.mpr ⟨⟨ad6, (h6.up (by decide)).tb, hm6⟩, (fun _ z => nomatch z)⟩)⟩)⟩), fnh := (fun _ z => nomatch z) } hb
theorem k9 (W : Wd lw K mg cl gl)  {f : Addr} {fd : FuncData} (F : FunD K "shares_of" "shares_of" (defArgs (top 1)) (defBody (top 1)) (defScope (top 1)) [] [] f fd) (hb : ∀ n, n ≤ ([] : List V).length → ∃ us, Binds K fd ["rows", "holder", "firm"] us ∧ Vals (([] : List V).drop n) us)   : FnC (gx lw T9 P w K mg base cl gl) 1 R9 f :=
  fn_is (T := T9) (c := c9) (k := 0) (s := b9) (ps := ["rows", "holder", "firm"]) F ⟨⟨rfl, rfl, rfl, by decide +kernel, rfl, by decide +kernel, by decide +kernel⟩, (show ckS ⟨T9, fnm, cnm, lw.gs, gnm, cs⟩ c9 (defScope (top 1)) b9 (defBody (top 1)) = true by decide +kernel), rfl⟩ (W.world (by decide) rfl) { fns := (fun _ z => nomatch z), fnh := (fun _ z => nomatch z) } hb
theorem k10 (W : Wd lw K mg cl gl)  {f : Addr} {fd : FuncData} (F : FunD K "_law_whole" "_law_whole" (defArgs (top 7)) (defBody (top 7)) (defScope (top 7)) [] [] f fd) (hb : ∀ n, n ≤ ([] : List V).length → ∃ us, Binds K fd ["_law_found"] us ∧ Vals (([] : List V).drop n) us)   : FnC (gx lw T10 P w K mg base cl gl) 1 R10 f :=
  fn_is (T := T10) (c := c10) (k := 0) (s := b10) (ps := ["_law_found"]) F ⟨⟨rfl, rfl, rfl, by decide +kernel, rfl, by decide +kernel, by decide +kernel⟩, (show ckS ⟨T10, fnm, cnm, lw.gs, gnm, cs⟩ c10 (defScope (top 7)) b10 (defBody (top 7)) = true by decide +kernel), rfl⟩ (W.world (by decide) rfl) { fns := (fun _ z => nomatch z), fnh := (fun _ z => nomatch z) } hb
theorem k11 (W : Wd lw K mg cl gl)  {f : Addr} {fd : FuncData} (F : FunD K "_law_held" "_law_held" (defArgs (top 13)) (defBody (top 13)) (defScope (top 13)) [] [] f fd) (hb : ∀ n, n ≤ ([] : List V).length → ∃ us, Binds K fd ["_law_rows", "_law_holder", "_law_firm"] us ∧ Vals (([] : List V).drop n) us)   : FnC (gx lw T11 P w K mg base cl gl) 1 R11 f :=
  fn_is (T := T11) (c := c11) (k := 0) (s := b11) (ps := ["_law_rows", "_law_holder", "_law_firm"]) F ⟨⟨rfl, rfl, rfl, by decide +kernel, rfl, by decide +kernel, by decide +kernel⟩, (show ckS ⟨T11, fnm, cnm, lw.gs, gnm, cs⟩ c11 (defScope (top 13)) b11 (defBody (top 13)) = true by decide +kernel), rfl⟩ (W.world (by decide) rfl) { fns := (fun _ z => nomatch z), fnh := (fun _ z => nomatch z) } hb
theorem k12 (W : Wd lw K mg cl gl)  {f : Addr} {fd : FuncData} (F : FunD K "all_shares" "all_shares" (defArgs (top 2)) (defBody (top 2)) (defScope (top 2)) [] [] f fd) (hb : ∀ n, n ≤ ([] : List V).length → ∃ us, Binds K fd ["rows", "firm"] us ∧ Vals (([] : List V).drop n) us)   : FnC (gx lw T12 P w K mg base cl gl) 1 R12 f :=
  fn_is (T := T12) (c := c12) (k := 0) (s := b12) (ps := ["rows", "firm"]) F ⟨⟨rfl, rfl, rfl, by decide +kernel, rfl, by decide +kernel, by decide +kernel⟩, (show ckS ⟨T12, fnm, cnm, lw.gs, gnm, cs⟩ c12 (defScope (top 2)) b12 (defBody (top 2)) = true by decide +kernel), rfl⟩ (W.world (by decide) rfl) { fns := (fun _ z => nomatch z), fnh := (fun _ z => nomatch z) } hb
theorem k8 (W : Wd lw K mg cl gl)  {f : Addr} {fd : FuncData} (F : FunD K "_law_counts" "_law_counts" (defArgs (top 15)) (defBody (top 15)) (defScope (top 15)) [] [] f fd) (hb : ∀ n, n ≤ ([] : List V).length → ∃ us, Binds K fd ["_law_firms", "_law_strangers", "_law_rows", "_law_nobody"] us ∧ Vals (([] : List V).drop n) us) {ad9 : Addr} {ad10 : Addr} {ad11 : Addr} {ad12 : Addr} (h9 : FnC (gx lw T9 P w K mg base cl gl) 1 R9 ad9) (hm9 : mg "shares_of" = some (.ref ad9)) (h10 : FnC (gx lw T10 P w K mg base cl gl) 1 R10 ad10) (hm10 : mg "_law_whole" = some (.ref ad10)) (h11 : FnC (gx lw T11 P w K mg base cl gl) 1 R11 ad11) (hm11 : mg "_law_held" = some (.ref ad11)) (h12 : FnC (gx lw T12 P w K mg base cl gl) 1 R12 ad12) (hm12 : mg "all_shares" = some (.ref ad12)) : FnC (gx lw T8 P w K mg base cl gl) 2 R8 f :=
  fn_is (T := T8) (c := c8) (k := 1) (s := b8) (ps := ["_law_firms", "_law_strangers", "_law_rows", "_law_nobody"]) F ⟨⟨rfl, rfl, rfl, by decide +kernel, rfl, by decide +kernel, by decide +kernel⟩, (show ckS ⟨T8, fnm, cnm, lw.gs, gnm, cs⟩ c8 (defScope (top 15)) b8 (defBody (top 15)) = true by decide +kernel), rfl⟩ (W.world (by decide) rfl) { fns := (List.forall_mem_cons.mpr ⟨⟨ad9, (h9.up (by decide)).tb, hm9⟩, (List.forall_mem_cons.mpr ⟨⟨ad10, (h10.up (by decide)).tb, hm10⟩, (List.forall_mem_cons.mpr ⟨⟨ad11, (h11.up (by decide)).tb, hm11⟩, (List.forall_mem_cons.mpr ⟨⟨ad12, (h12.up (by decide)).tb, hm12⟩, (fun _ z => nomatch z)⟩)⟩)⟩)⟩), fnh := (fun _ z => nomatch z) } hb
theorem k13 (W : Wd lw K mg cl gl)  {f : Addr} {fd : FuncData} (F : FunD K "owners_of" "owners_of" (defArgs (top 3)) (defBody (top 3)) (defScope (top 3)) [] [] f fd) (hb : ∀ n, n ≤ ([] : List V).length → ∃ us, Binds K fd ["rows", "firm"] us ∧ Vals (([] : List V).drop n) us)   : FnC (gx lw T13 P w K mg base cl gl) 1 R13 f :=
  fn_is (T := T13) (c := c13) (k := 0) (s := b13) (ps := ["rows", "firm"]) F ⟨⟨rfl, rfl, rfl, by decide +kernel, rfl, by decide +kernel, by decide +kernel⟩, (show ckS ⟨T13, fnm, cnm, lw.gs, gnm, cs⟩ c13 (defScope (top 3)) b13 (defBody (top 3)) = true by decide +kernel), rfl⟩ (W.world (by decide) rfl) { fns := (fun _ z => nomatch z), fnh := (fun _ z => nomatch z) } hb
theorem k14 (W : Wd lw K mg cl gl)  {f : Addr} {fd : FuncData} (F : FunD K "_law_sorted_names" "_law_sorted_names" (defArgs (top 14)) (defBody (top 14)) (defScope (top 14)) [] [] f fd) (hb : ∀ n, n ≤ ([] : List V).length → ∃ us, Binds K fd ["_law_found", "_law_due"] us ∧ Vals (([] : List V).drop n) us)   : FnC (gx lw T14 P w K mg base cl gl) 1 R14 f :=
  fn_is (T := T14) (c := c14) (k := 0) (s := b14) (ps := ["_law_found", "_law_due"]) F ⟨⟨rfl, rfl, rfl, by decide +kernel, rfl, by decide +kernel, by decide +kernel⟩, (show ckS ⟨T14, fnm, cnm, lw.gs, gnm, cs⟩ c14 (defScope (top 14)) b14 (defBody (top 14)) = true by decide +kernel), rfl⟩ (W.world (by decide) rfl) { fns := (fun _ z => nomatch z), fnh := (fun _ z => nomatch z) } hb
theorem k15 (W : Wd lw K mg cl gl)  {f : Addr} {fd : FuncData} (F : FunD K "strangers_of" "strangers_of" (defArgs (top 4)) (defBody (top 4)) (defScope (top 4)) [] [] f fd) (hb : ∀ n, n ≤ ([] : List V).length → ∃ us, Binds K fd ["firms", "rows"] us ∧ Vals (([] : List V).drop n) us)   : FnC (gx lw T15 P w K mg base cl gl) 1 R15 f :=
  fn_is (T := T15) (c := c15) (k := 0) (s := b15) (ps := ["firms", "rows"]) F ⟨⟨rfl, rfl, rfl, by decide +kernel, rfl, by decide +kernel, by decide +kernel⟩, (show ckS ⟨T15, fnm, cnm, lw.gs, gnm, cs⟩ c15 (defScope (top 4)) b15 (defBody (top 4)) = true by decide +kernel), rfl⟩ (W.world (by decide) rfl) { fns := (fun _ z => nomatch z), fnh := (fun _ z => nomatch z) } hb
theorem k7 (W : Wd lw K mg cl gl)  {f : Addr} {fd : FuncData} (F : FunD K "_law_told" "_law_told" (defArgs (top 16)) (defBody (top 16)) (defScope (top 16)) [] [] f fd) (hb : ∀ n, n ≤ ([] : List V).length → ∃ us, Binds K fd ["_law_firms", "_law_strangers", "_law_handed", "_law_nobody"] us ∧ Vals (([] : List V).drop n) us) {ad8 : Addr} {ad11 : Addr} {ad13 : Addr} {ad14 : Addr} {ad15 : Addr} (h8 : FnC (gx lw T8 P w K mg base cl gl) 2 R8 ad8) (hm8 : mg "_law_counts" = some (.ref ad8)) (h11 : FnC (gx lw T11 P w K mg base cl gl) 1 R11 ad11) (hm11 : mg "_law_held" = some (.ref ad11)) (h13 : FnC (gx lw T13 P w K mg base cl gl) 1 R13 ad13) (hm13 : mg "owners_of" = some (.ref ad13)) (h14 : FnC (gx lw T14 P w K mg base cl gl) 1 R14 ad14) (hm14 : mg "_law_sorted_names" = some (.ref ad14)) (h15 : FnC (gx lw T15 P w K mg base cl gl) 1 R15 ad15) (hm15 : mg "strangers_of" = some (.ref ad15)) : FnC (gx lw T7 P w K mg base cl gl) 3 R7 f :=
  fn_is (T := T7) (c := c7) (k := 2) (s := b7) (ps := ["_law_firms", "_law_strangers", "_law_handed", "_law_nobody"]) F ⟨⟨rfl, rfl, rfl, by decide +kernel, rfl, by decide +kernel, by decide +kernel⟩, (show ckS ⟨T7, fnm, cnm, lw.gs, gnm, cs⟩ c7 (defScope (top 16)) b7 (defBody (top 16)) = true by decide +kernel), rfl⟩ (W.world (by decide) rfl) { fns := (List.forall_mem_cons.mpr ⟨⟨ad8, (h8.up (by decide)).tb, hm8⟩, (List.forall_mem_cons.mpr ⟨⟨ad11, (h11.up (by decide)).tb, hm11⟩, (List.forall_mem_cons.mpr ⟨⟨ad13, (h13.up (by decide)).tb, hm13⟩, (List.forall_mem_cons.mpr ⟨⟨ad14, (h14.up (by decide)).tb, hm14⟩, (List.forall_mem_cons.mpr ⟨⟨ad15, (h15.up (by decide)).tb, hm15⟩, (fun _ z => nomatch z)⟩)⟩)⟩)⟩)⟩), fnh := (fun _ z => nomatch z) } hb
theorem k0 (W : Wd lw K mg cl gl)  {f : Addr} {fd : FuncData} (F : FunD K "law" "law" (defArgs (top 17)) (defBody (top 17)) (defScope (top 17)) [] [] f fd) (hb : ∀ n, n ≤ ([] : List V).length → ∃ us, Binds K fd ["_law_script"] us ∧ Vals (([] : List V).drop n) us) {ad1 : Addr} {ad2 : Addr} {ad4 : Addr} {ad5 : Addr} {ad7 : Addr} (h1 : FnC (gx lw T1 P w K mg base cl gl) 2 R1 ad1) (hm1 : mg "_law_people" = some (.ref ad1)) (h2 : FnC (gx lw T2 P w K mg base cl gl) 1 R2 ad2) (hm2 : mg "_law_cell_at" = some (.ref ad2)) (h4 : FnC (gx lw T4 P w K mg base cl gl) 1 R4 ad4) (hm4 : mg "_law_mix" = some (.ref ad4)) (h5 : FnC (gx lw T5 P w K mg base cl gl) 2 R5 ad5) (hm5 : mg "_law_good" = some (.ref ad5)) (h7 : FnC (gx lw T7 P w K mg base cl gl) 3 R7 ad7) (hm7 : mg "_law_told" = some (.ref ad7)) : FnC (gx lw T0 P w K mg base cl gl) 4 R0 f :=
  fn_is (T := T0) (c := c0) (k := 3) (s := b0) (ps := ["_law_script"]) F ⟨⟨rfl, rfl, rfl, by decide +kernel, rfl, by decide +kernel, by decide +kernel⟩, (show ckS ⟨T0, fnm, cnm, lw.gs, gnm, cs⟩ c0 (defScope (top 17)) b0 (defBody (top 17)) = true by decide +kernel), rfl⟩ (W.world (by decide) rfl) { fns := (List.forall_mem_cons.mpr ⟨⟨ad1, (h1.up (by decide)).tb, hm1⟩, (List.forall_mem_cons.mpr ⟨⟨ad2, (h2.up (by decide)).tb, hm2⟩, (List.forall_mem_cons.mpr ⟨⟨ad4, (h4.up (by decide)).tb, hm4⟩, (List.forall_mem_cons.mpr ⟨⟨ad5, (h5.up (by decide)).tb, hm5⟩, (List.forall_mem_cons.mpr ⟨⟨ad7, (h7.up (by decide)).tb, hm7⟩, (fun _ z => nomatch z)⟩)⟩)⟩)⟩)⟩), fnh := (fun _ z => nomatch z) } hb
end
def heldI (rows : List Rw3) (h f : Str) : Int := ((rows.filter fun r => decide (r.1 = h) && decide (r.2.1 = f)).map fun r => r.2.2).sum
def allI (rows : List Rw3) (f : Str) : Int := ((rows.filter fun r => decide (r.2.1 = f)).map fun r => r.2.2).sum
abbrev okRows (rows : List Rw3) : Prop := rows.length ≤ 100 ∧ ∀ r ∈ rows, tOk 8 r.1 ∧ tOk 8 r.2.1
theorem held_eq (rows : List Rw3) (h f : Str) (hr : okRows rows) (hh : tOk 8 h) (hf : tOk 8 f) : outR (f9 rows h f) = .ok (heldI rows h f) := by
  unfold f9
  rw [gd_t (decide_eq_true (by unfold sizeLine; have := hr.1; omega))]
  rw [lcR_mem (fun r : Rw3 => decide (r.1 = h) && decide (r.2.1 = f)) (fun r : Rw3 => r.2.2) rows fun r hx => ⟨by
    rw [eqR_str (hr.2 r hx).1.ok hh.ok, eqR_str (hr.2 r hx).2.ok hf.ok]
    cases decide (r.1 = h) <;> rfl, rfl⟩]
  rfl
theorem held_eq' (rows : List Rw3) (h f : Str) (hr : okRows rows) (hh : tOk 8 h) (hf : tOk 8 f) : outR (f11 rows h f) = .ok (heldI rows h f) := held_eq rows h f hr hh hf
theorem all_eq (rows : List Rw3) (f : Str) (hr : okRows rows) (hf : tOk 8 f) : outR (f12 rows f) = .ok (allI rows f) := by
  unfold f12
  rw [gd_t (decide_eq_true (by unfold sizeLine; have := hr.1; omega))]
  rw [lcR_mem (fun r : Rw3 => decide (r.2.1 = f)) (fun r : Rw3 => r.2.2) rows fun r hx => ⟨eqR_str (hr.2 r hx).2.ok hf.ok, rfl⟩]
  rfl
theorem sum_add {α : Type} (g k : α → Int) (l : List α) : (l.map fun h => g h + k h).sum = (l.map g).sum + (l.map k).sum := by
  induction l with
  | nil => rfl
  | cons x l ih => simp only [List.map_cons, List.sum_cons, ih]; omega
theorem sum_zero {α : Type} (l : List α) (g : α → Int) (h : ∀ x ∈ l, g x = 0) : (l.map g).sum = 0 := by
  induction l with
  | nil => rfl
  | cons x l ih => rw [List.map_cons, List.sum_cons, h x List.mem_cons_self, ih fun y hy => h y (List.mem_cons_of_mem _ hy)]; rfl
theorem sum_one (v : Int) (x : Str) : ∀ (l : List Str), l.Nodup → x ∈ l → (l.map fun h => if h = x then v else 0).sum = v
  | [], _, h => nomatch h
  | y :: l, n, h => by
    obtain ⟨n1, n2⟩ := List.nodup_cons.mp n
    rw [List.map_cons, List.sum_cons]
    by_cases e : y = x
    · rw [if_pos e, sum_zero l _ fun z hz => if_neg fun q => n1 (by rw [e, ← q]; exact hz)]; omega
    · rw [if_neg e, sum_one v x l n2 ((List.mem_cons.mp h).resolve_left fun q => e q.symm)]; omega
theorem held_cons (r : Rw3) (rows : List Rw3) (h f : Str) : heldI (r :: rows) h f = (if h = r.1 then (if r.2.1 = f then r.2.2 else 0) else 0) + heldI rows h f := by
  unfold heldI
  by_cases e : h = r.1
  · by_cases k : r.2.1 = f
    · rw [List.filter_cons_of_pos (by simp [e, k]), if_pos e, if_pos k]; rfl
    · rw [List.filter_cons_of_neg (by simp [k]), if_pos e, if_neg k]; omega
  · rw [List.filter_cons_of_neg (by simp [Ne.symm e]), if_neg e]; omega
theorem all_cons (r : Rw3) (rows : List Rw3) (f : Str) : allI (r :: rows) f = (if r.2.1 = f then r.2.2 else 0) + allI rows f := by
  unfold allI
  by_cases k : r.2.1 = f
  · rw [List.filter_cons_of_pos (by simp [k]), if_pos k]; rfl
  · rw [List.filter_cons_of_neg (by simp [k]), if_neg k]; omega
theorem held_all (l : List Str) (hn : l.Nodup) (f : Str) : ∀ rows : List Rw3, (∀ r ∈ rows, r.1 ∈ l) → (l.map fun h => heldI rows h f).sum = allI rows f
  | [], _ => sum_zero l _ fun _ _ => rfl
  | r :: rows, h => by
    rw [all_cons, ← held_all l hn f rows fun q hq => h q (List.mem_cons_of_mem _ hq)]
    rw [← sum_one (if r.2.1 = f then r.2.2 else 0) r.1 l hn (h r List.mem_cons_self), ← sum_add]
    refine congrArg List.sum (List.map_congr_left fun x _ => ?_)
    rw [held_cons]
theorem held_pos (h f : Str) : ∀ rows : List Rw3, (∀ r ∈ rows, 1 ≤ r.2.2) → 0 ≤ heldI rows h f ∧ (0 < heldI rows h f ↔ ∃ r ∈ rows, r.1 = h ∧ r.2.1 = f)
  | [], _ => ⟨Int.le_refl 0, ⟨fun z => absurd (show (0 : Int) < 0 from z) (by decide), fun ⟨_, z, _⟩ => nomatch z⟩⟩
  | r :: rows, hp => by
    obtain ⟨i1, i2⟩ := held_pos h f rows fun q hq => hp q (List.mem_cons_of_mem _ hq)
    have hr := hp r List.mem_cons_self
    rw [held_cons]
    by_cases e : h = r.1 ∧ r.2.1 = f
    · rw [if_pos e.1, if_pos e.2]
      exact ⟨by omega, fun _ => ⟨r, List.mem_cons_self, e.1.symm, e.2⟩, fun _ => by omega⟩
    · have z : (if h = r.1 then (if r.2.1 = f then r.2.2 else 0) else 0) = 0 := by
        by_cases a : h = r.1
        · rw [if_pos a, if_neg fun b => e ⟨a, b⟩]
        · rw [if_neg a]
      rw [z, Int.zero_add]
      refine ⟨i1, i2.trans ⟨fun ⟨q, hq, k⟩ => ⟨q, List.mem_cons_of_mem _ hq, k⟩, fun ⟨q, hq, k⟩ => ?_⟩⟩
      rcases List.mem_cons.mp hq with rfl | hq
      · exact absurd ⟨k.1.symm, k.2⟩ e
      · exact ⟨q, hq, k⟩
theorem whole_eq (z : Int) : outR (f10 z) = .ok true := rfl
theorem counts_eq (fs ss : List Str) (rows : List Rw3) (nob : Str) (hr : okRows rows) (hn : (fs ++ ss ++ [nob]).Nodup) (hw : ∀ x ∈ fs ++ ss ++ [nob], tOk 8 x) (hl : fs.length ≤ 6) (hs : ss.length ≤ 3) (hm : ∀ r ∈ rows, r.1 ∈ fs ++ ss) : outR (f8 fs ss rows nob) = .ok true := by
  refine rz_eq (rz_outR.mpr ?_)
  unfold f8
  rw [gd_t (decide_eq_true (by show fs.length + 1 ≤ sizeLine; unfold sizeLine; omega)), ok_toN]
  refine then_nx (P := fun _ : Unit => True) ?_ fun _ _ => rfl
  refine oz_loop (fun (xs : List Str) (_ : Unit) => ∀ x ∈ xs, tOk 8 x) (fun x hx => ?_) (fun _ _ => trivial) fun x xs _ h => ?_
  · rcases List.mem_append.mp hx with hx | hx
    · exact hw x (List.mem_append_left _ (List.mem_append_left _ hx))
    · exact hw x (List.mem_append_right _ hx)
  · have tx := h x List.mem_cons_self
    have hxs : ∀ y ∈ xs, tOk 8 y := fun y hy => h y (List.mem_cons_of_mem _ hy)
    rw [ok_toN, gd_t (decide_eq_true (by unfold sizeLine; omega)), ok_bindN, gd_t (decide_eq_true (by rw [List.length_append]; show fs.length + ss.length + 1 ≤ sizeLine; unfold sizeLine; omega)), ok_toN]
    refine then_nx (P := fun s : Int => s = allI rows x) ?_ fun s hs' => ?_
    · refine oz_loop (fun (ys : List Str) (s : Int) => ∃ d, fs ++ ss ++ [nob] = d ++ ys ∧ s = (d.map fun h => heldI rows h x).sum) ⟨[], rfl, rfl⟩ (fun s q => ?_) fun y ys s q => ?_
      · obtain ⟨d, q1, q2⟩ := q
        rw [List.append_nil] at q1
        rw [q2, ← q1]
        exact held_all _ hn x rows fun r hr => List.mem_append_left _ (hm r hr)
      · obtain ⟨d, q1, q2⟩ := q
        have ty : tOk 8 y := hw y (by rw [q1]; exact List.mem_append_right _ List.mem_cons_self)
        rw [held_eq rows y x hr ty tx, ok_toN, held_eq' rows y x hr ty tx, whole_eq]
        simp only [ok_bindN, decide_true]
        rw [show orR (Res.ok (!true)) (Res.ok (!true)) = Res.ok false from rfl, ok_toN, cond_false, ok_toN]
        exact ⟨d ++ [y], by rw [q1, List.append_assoc]; rfl, by rw [q2, List.map_append, List.sum_append]; simp⟩
    · rw [all_eq rows x hr tx, ok_toN, whole_eq]
      simp only [ok_bindN, hs', decide_true]
      rw [show orR (Res.ok (!true)) (Res.ok (!true)) = Res.ok false from rfl, ok_toN, cond_false]
      exact hxs
/-- the holders of a firm, in the rows' order -/
def ownL (rows : List Rw3) (f : Str) : List Str := (rows.filter fun r => decide (r.2.1 = f)).map fun r => r.1
theorem owners_eq (rows : List Rw3) (f : Str) (hr : okRows rows) (hl : rows.length < 64) (hf : tOk 8 f) : outR (f13 rows f) = .ok (sset (ownL rows f)) := by
  unfold f13
  rw [gd_t (decide_eq_true (by unfold sizeLine; omega))]
  rw [lcR_mem (fun r : Rw3 => decide (r.2.1 = f)) (fun r : Rw3 => r.1) rows fun r hx => ⟨eqR_str (hr.2 r hx).2.ok hf.ok, rfl⟩]
  have : ((rows.filter fun r => decide (r.2.1 = f)).map fun r => r.1).length < 64 := by
    rw [List.length_map]
    exact Nat.lt_of_le_of_lt (List.length_filter_le _ _) hl
  rw [ok_bindN, gd_t (decide_eq_true this)]
  rfl
def strL (fs : List Str) (rows : List Rw3) : List Str := (rows.filter fun r => !decide (r.1 ∈ fs)).map fun r => r.1
theorem strangers_eq (fs : List Str) (rows : List Rw3) (hl : rows.length < 64) : outR (f15 fs rows) = .ok (sset (strL fs rows)) := by
  unfold f15
  rw [gd_t (decide_eq_true (by unfold sizeLine; omega))]
  rw [lcR_mem (fun r : Rw3 => !decide (r.1 ∈ fs)) (fun r : Rw3 => r.1) rows fun r hx => ⟨rfl, rfl⟩]
  have : ((rows.filter fun r => !decide (r.1 ∈ fs)).map fun r => r.1).length < 64 := by
    rw [List.length_map]
    exact Nat.lt_of_le_of_lt (List.length_filter_le _ _) hl
  rw [ok_bindN, gd_t (decide_eq_true this)]
  rfl
theorem eqL (l : List Str) (h : ∀ x ∈ l, tOk 8 x) : eqR ((fun xs : (List Str) => PyData.list (xs.map PyData.str)) l) ((fun xs : (List Str) => PyData.list (xs.map PyData.str)) l) = .ok true := okD.eq (k := 1) (okD_lst (okAll_map fun x hx => okD_str (h x hx).ok)) (by decide)
theorem names_eq (l : List Str) (h : ∀ x ∈ l, tOk 8 x) : outR (f14 l l) = .ok true := by
  refine rz_eq (rz_outR.mpr ?_)
  unfold f14
  rw [ok_toN, decide_eq_true (show (l.length : Int) = l.length from rfl)]
  rw [show (!true || !true) = false from rfl, cond_false, ok_toN]
  refine then_nx (P := fun _ : Unit => True) ?_ fun _ _ => ?_
  · exact oz_loop (fun (_ : List Str) (_ : Unit) => True) trivial (fun _ _ => trivial) fun _ _ _ _ => trivial
  · rw [eqL l h]; rfl
theorem due_own (l : List Str) (hn : l.Nodup) (rows : List Rw3) (f : Str) (hm : ∀ r ∈ rows, r.1 ∈ l) (hp : ∀ r ∈ rows, 1 ≤ r.2.2) : (sortS l).filter (fun h => decide (0 < heldI rows h f)) = sset (ownL rows f) := by
  refine sset_uniq (List.Pairwise.filter _ ((sortS_perm l).nodup_iff.mpr hn)) (List.Pairwise.filter _ (sortS_sorted l)) fun x => ?_
  rw [List.mem_filter, sortS_mem, decide_eq_true_eq, (held_pos x f rows hp).2]
  unfold ownL
  rw [List.mem_map]
  constructor
  · rintro ⟨_, r, hr, e1, e2⟩
    exact ⟨r, List.mem_filter.mpr ⟨hr, decide_eq_true e2⟩, e1⟩
  · rintro ⟨r, hr, e⟩
    obtain ⟨h1, h2⟩ := List.mem_filter.mp hr
    exact ⟨by rw [← e]; exact hm r h1, r, h1, e, of_decide_eq_true h2⟩
theorem due_str (fs ss : List Str) (hn : (fs ++ ss).Nodup) (rows : List Rw3) (hm : ∀ r ∈ rows, r.1 ∈ fs ++ ss) : (sortS ss).filter (fun h => decide (h ∈ rows.map fun r => r.1)) = sset (strL fs rows) := by
  obtain ⟨n1, n2, n3⟩ := List.nodup_append.mp hn
  refine sset_uniq (List.Pairwise.filter _ ((sortS_perm ss).nodup_iff.mpr n2)) (List.Pairwise.filter _ (sortS_sorted ss)) fun x => ?_
  rw [List.mem_filter, sortS_mem, decide_eq_true_eq]
  unfold strL
  rw [List.mem_map, List.mem_map]
  constructor
  · rintro ⟨hx, r, hr, e⟩
    refine ⟨r, List.mem_filter.mpr ⟨hr, ?_⟩, e⟩
    rw [decide_eq_false fun z => n3 r.1 z x hx e]; rfl
  · rintro ⟨r, hr, e⟩
    obtain ⟨h1, h2⟩ := List.mem_filter.mp hr
    have h3 : ¬ r.1 ∈ fs := fun z => by rw [decide_eq_true z] at h2; cases h2
    exact ⟨by rw [← e]; exact (List.mem_append.mp (hm r h1)).resolve_left h3, r, h1, e⟩
theorem told_eq (fs ss : List Str) (rows : List Rw3) (nob : Str) (hn : (fs ++ ss ++ [nob]).Nodup) (hw : ∀ x ∈ fs ++ ss ++ [nob], tOk 8 x) (hl : fs.length ≤ 6) (hs : ss.length ≤ 3) (hrl : rows.length ≤ 40) (hm : ∀ r ∈ rows, r.1 ∈ fs ++ ss ∧ r.2.1 ∈ fs ∧ 1 ≤ r.2.2) : outR (f7 fs ss rows nob) = .ok true := by
  have hw2 : ∀ x ∈ fs ++ ss, tOk 8 x := fun x hx => hw x (List.mem_append_left _ hx)
  have hr : okRows rows := ⟨by omega, fun r h => ⟨hw2 _ (hm r h).1, hw2 _ (List.mem_append_left _ (hm r h).2.1)⟩⟩
  have hn2 := (List.nodup_append.mp hn).1
  have hp : ∀ r ∈ rows, 1 ≤ r.2.2 := fun r h => (hm r h).2.2
  have hm1 : ∀ r ∈ rows, r.1 ∈ fs ++ ss := fun r h => (hm r h).1
  have n2 : eqR ((fun xs : (List (Str × Str × Int)) => PyData.list (xs.map tp1)) rows) ((fun xs : (List (Str × Str × Int)) => PyData.list (xs.map tp1)) rows) = .ok true := okD.eq (k := 2) (okD_lst (okAll_map fun x hx => okD_tup (okAll_cons (okD_str (hr.2 x hx).1.ok) (okAll_cons (okD_str (hr.2 x hx).2.ok) (okAll_cons (okD_int _) (okAll_nil 0)))))) (by decide)
  have n1 : neR ((fun xs : (List Str) => PyData.list (xs.map PyData.str)) fs) ((fun xs : (List Str) => PyData.list (xs.map PyData.str)) fs) = .ok false := okD.ne (k := 1) (okD_lst (okAll_map fun x hx => okD_str (hw2 x (List.mem_append_left _ hx)).ok)) (by decide)
  refine rz_eq (rz_outR.mpr ?_)
  unfold f7
  rw [ok_toN, counts_eq fs ss rows nob hr hn hw hl hs hm1]
  simp only [ok_bindN, ok_toN]
  rw [show (!true) = false from rfl, cond_false, gd_t (decide_eq_true (by show fs.length + 1 ≤ sizeLine; unfold sizeLine; omega)), ok_toN]
  have len : (fs ++ ss).length ≤ 9 := by rw [List.length_append]; omega
  refine then_nx (P := fun _ : Unit => True) ?_ fun _ _ => ?_
  · refine oz_loop (fun (xs : List Str) (_ : Unit) => ∀ x ∈ xs, tOk 8 x) (fun x hx => ?_) (fun _ _ => trivial) fun x xs _ h => ?_
    · rcases List.mem_append.mp hx with hx | hx
      · exact hw x (List.mem_append_left _ (List.mem_append_left _ hx))
      · exact hw x (List.mem_append_right _ hx)
    · have tx := h x List.mem_cons_self
      rw [gd_t (decide_eq_true (by unfold sizeLine; omega)), ok_bindN, gd_t (decide_eq_true (show (fs ++ ss).length < 64 by omega)), ok_bindN, gd_t (decide_eq_true (by rw [sortS_len]; unfold sizeLine; omega))]
      rw [lcR_mem (fun h : Str => decide (0 < heldI rows h x)) (fun h : Str => h) (sortS (fs ++ ss)) fun y hy => ⟨by
        rw [held_eq' rows y x hr (hw2 y (sortS_mem.mp hy)) tx]; rfl, rfl⟩]
      rw [List.map_id' , due_own _ hn2 rows x hm1 hp, ok_toN, owners_eq rows x hr (by omega) tx, ok_toN, names_eq _ fun y hy => ?_]
      · exact fun y hy => h y (List.mem_cons_of_mem _ hy)
      · have := sset_mem.mp hy
        unfold ownL at this
        obtain ⟨r, h1, rfl⟩ := List.mem_map.mp this
        exact (hr.2 r (List.mem_filter.mp h1).1).1
  · rw [gd_t (decide_eq_true (show ss.length < 64 by omega)), ok_bindN, gd_t (decide_eq_true (by rw [sortS_len]; unfold sizeLine; omega))]
    rw [lcR_mem (fun h : Str => decide (h ∈ rows.map fun r => r.1)) (fun h : Str => h) (sortS ss) fun y hy => ⟨by
      rw [gd_t (decide_eq_true (by unfold sizeLine; omega)), lcR_map]; rfl, rfl⟩]
    rw [List.map_id', due_str fs ss hn2 rows hm1, ok_toN, strangers_eq fs rows (by omega), ok_toN, names_eq _ fun y hy => ?_]
    · simp only [ok_bindN]
      rw [show neR (PyData.list (List.map PyData.str fs)) (PyData.list (List.map PyData.str fs)) = Res.ok false from n1, show orR (Res.ok (!true)) (Res.ok false) = Res.ok false from rfl, ok_toN, cond_false, show eqR (PyData.list (List.map tp1 rows)) (PyData.list (List.map tp1 rows)) = Res.ok true from n2]
      rfl
    · have := sset_mem.mp hy
      unfold strL at this
      obtain ⟨r, h1, rfl⟩ := List.mem_map.mp this
      exact (hr.2 r (List.mem_filter.mp h1).1).1
theorem f2_eq : f2 = cellF := rfl
theorem f4_eq : f4 = mixF := rfl
theorem f5_eq : f5 = goodF := rfl
theorem f1_eq : f1 = peopleF := rfl
theorem nodup_len : ∀ (l D : List Str), l.Nodup → (∀ x ∈ l, x ∈ D) → l.length ≤ D.length
  | [], D, _, _ => Nat.zero_le _
  | x :: l, D, h, k => by
    obtain ⟨h1, h2⟩ := List.nodup_cons.mp h
    have hx := k x List.mem_cons_self
    have := nodup_len l (D.erase x) h2 fun y hy => (List.mem_erase_of_ne fun e => h1 (by rw [← e]; exact hy)).mpr (k y (List.mem_cons_of_mem _ hy))
    rw [List.length_erase_of_mem hx] at this
    have := List.length_pos_of_mem hx
    rw [List.length_cons]
    omega
def fixed : List Str := [("nobody" : Str), ("noone" : Str), ("none" : Str), ("other" : Str), ("third" : Str), ("fourth" : Str), ("fifth" : Str), ("sixth" : Str), ("seventh" : Str)]
theorem fixed_nd : fixed.Nodup := by decide
theorem fixed_ok : ∀ x ∈ fixed, tOk 8 x := fun x hx => lit_ok x 8 (by
  have : (fixed.all fun x => decide (x.length ≤ 8) && x.cps.toList.all (fun c => decide (c < 128))) = true := by decide
  exact List.all_eq_true.mp this x hx)
theorem nob_ok (l : List Str) (h : l.length ≤ 8) : ∃ x, ixR (fixed.filter fun z => !decide (z ∈ l)) (0 : Int) = .ok x ∧ x ∈ fixed ∧ ¬ x ∈ l := by
  cases e : fixed.filter fun z => !decide (z ∈ l) with
  | nil =>
    have := nodup_len fixed l fixed_nd fun x hx => by
      have q := List.filter_eq_nil_iff.mp e x hx
      simpa using q
    have : 9 ≤ l.length := this
    omega
  | cons x r =>
    have hx : x ∈ fixed.filter fun z => !decide (z ∈ l) := by rw [e]; exact List.mem_cons_self
    obtain ⟨h1, h2⟩ := List.mem_filter.mp hx
    exact ⟨x, ixR_ok (i := 0) rfl, h1, by simpa using h2⟩
theorem law_plain : ∀ ns : List Int, ns.length ≤ 63 → (∀ z ∈ ns, Builtin.Int.intBits z ≤ 1048576) → f0 ns = .rt true := by
  intro ns _ hz
  obtain ⟨fs, ss, p1, p2, p3, p4, p5, p6⟩ := people_ok8 ns
  obtain ⟨rows, r1, r2, r3⟩ := good_ok ns hz fs ss p2 p3
  obtain ⟨w, hw, _⟩ := cell_ok ns 3 (by decide)
  obtain ⟨a, a1, _⟩ := mix_ok w 48271 (by decide)
  obtain ⟨b, b1, _⟩ := mix_ok w 69621 (by decide)
  obtain ⟨d, d1, _⟩ := mix_ok w 16807 (by decide)
  obtain ⟨y, y1, y2⟩ := ix_md (fs ++ ss) (by rw [List.length_append]; omega) a
  obtain ⟨v, v1, v2⟩ := ix_md fs p2.1 b
  obtain ⟨nob, b2, b3, b4⟩ := nob_ok (fs ++ ss) (by rw [List.length_append]; exact p6)
  have hn : (fs ++ ss ++ [nob]).Nodup := List.nodup_append.mpr ⟨p5, by simp, fun x hx z hz e => b4 (by rw [← List.mem_singleton.mp hz, ← e]; exact hx)⟩
  have hw3 : ∀ x ∈ fs ++ ss ++ [nob], tOk 8 x := fun x hx => by
    rcases List.mem_append.mp hx with hx | hx
    · exact p4 x hx
    · rw [List.mem_singleton.mp hx]; exact fixed_ok nob b3
  have r4 : ∀ r ∈ rows, r.1 ∈ fs ++ ss ∧ r.2.1 ∈ fs ∧ 1 ≤ r.2.2 := fun r h => ⟨(r3 r h).1, (r3 r h).2.1, (r3 r h).2.2.1⟩
  have t1 := told_eq fs ss rows nob hn hw3 p2.2 p3.2 (by omega) r4
  have t0 := told_eq fs ss [] nob hn hw3 p2.2 p3.2 (by decide) (fun _ z => nomatch z)
  have q := fm_lt d ((rows.length : Int) + 1) (by omega)
  have en : decide (fs.length + ss.length ≤ sizeLine) = true := decide_eq_true (by unfold sizeLine; omega)
  have pl : ((fs ++ ss).length : Int) ≠ 0 := by rw [List.length_append]; omega
  have e83 : gd (decide (fixed.length ≤ sizeLine)) (lcR (fun z83 : Str => ((gd (decide (fs.length + ss.length ≤ sizeLine)) (Res.ok (fs ++ ss)) >>= fun x84 => (Res.ok (!decide (z83 ∈ x84)))))) (fun z83 : Str => (Res.ok z83)) fixed) = .ok (fixed.filter fun z => !decide (z ∈ fs ++ ss)) := by
    rw [gd_t (decide_eq_true (by show 9 ≤ sizeLine; unfold sizeLine; decide))]
    rw [lcR_mem (fun z : Str => !decide (z ∈ fs ++ ss)) (fun z : Str => z) fixed fun z hz => ⟨by rw [gd_t en]; rfl, rfl⟩, List.map_id']
  unfold f0
  rw [f1_eq, f2_eq, f4_eq, f5_eq, p1]
  simp only [ok_toN]
  rw [show [("nobody" : Str), ("noone" : Str), ("none" : Str), ("other" : Str), ("third" : Str), ("fourth" : Str), ("fifth" : Str), ("sixth" : Str), ("seventh" : Str)] = fixed from rfl, e83]
  simp only [ok_bindN]
  rw [b2]
  simp only [ok_toN]
  rw [r1]
  simp only [ok_toN]
  rw [t1]
  simp only [ok_bindN, ok_toN]
  rw [hw]
  simp only [ok_toN]
  rw [gd_t en]
  simp only [ok_toN]
  rw [a1, b1, d1]
  simp only [ok_bindN]
  rw [gd_t (nz_of pl), gd_t (nz_of (show (fs.length : Int) ≠ 0 by omega)), gd_t (nz_of (show (rows.length : Int) + 1 ≠ 0 by omega))]
  simp only [ok_bindN]
  rw [y1, v1]
  simp only [ok_bindN, ok_toN]
  generalize Int.fmod d ((rows.length : Int) + 1) = j at q
  have hl : (rows.take j.toNat ++ [(y, v, (7 : Int))] ++ rows.drop j.toNat).length = rows.length + 1 := by simp; omega
  have hm : ∀ r ∈ rows.take j.toNat ++ [(y, v, (7 : Int))] ++ rows.drop j.toNat, r.1 ∈ fs ++ ss ∧ r.2.1 ∈ fs ∧ 1 ≤ r.2.2 := fun r hy => by
    rcases List.mem_append.mp hy with hy | hy
    · rcases List.mem_append.mp hy with hy | hy
      · exact r4 r (List.mem_of_mem_take hy)
      · rw [List.mem_singleton.mp hy]; exact ⟨y2, v2, show (1 : Int) ≤ 7 by decide⟩
    · exact r4 r (List.mem_of_mem_drop hy)
  have t2 := told_eq fs ss _ nob hn hw3 p2.2 p3.2 (by rw [hl]; omega) hm
  rw [gdO_t (show (decide (rows.length < sizeLine) && decide (0 ≤ j) && decide (j < 2 ^ 63)) = true by rw [decide_eq_true (show rows.length < sizeLine by unfold sizeLine; omega), decide_eq_true q.1, decide_eq_true (show j < 2 ^ 63 by omega)]; rfl)]
  rw [t2, t0]
  rfl

theorem all_mk (law : ∀ ns : List Int, ns.length ≤ 63 → (∀ z ∈ ns, Builtin.Int.intBits z ≤ 1048576) → f0 ns = .rt true) {P : Program} {w : World} {K : PySem.W.Frag} {h : Heap} {mg : Str → Option Value} {fa : Addr} (X : K.In h) (G : h.Ns mainGlobals mg) (hfa : mg "law" = some (.ref fa))
    {a2_ : Addr} {oc2 kV2 dc2 pm2 cd2 ct2 : Value} {od2 an2 : Option Addr} {sl2 : Array (Option Value)}
    {a3_ : Addr} {oc3 kV3 dc3 pm3 cd3 ct3 : Value} {od3 an3 : Option Addr} {sl3 : Array (Option Value)}
    {a4_ : Addr} {oc4 kV4 dc4 pm4 cd4 ct4 : Value} {od4 an4 : Option Addr} {sl4 : Array (Option Value)}
    {a1_ : Addr} {oc1 kV1 dc1 pm1 cd1 ct1 : Value} {od1 an1 : Option Addr} {sl1 : Array (Option Value)}
    {a6_ : Addr} {oc6 kV6 dc6 pm6 cd6 ct6 : Value} {od6 an6 : Option Addr} {sl6 : Array (Option Value)}
    {a5_ : Addr} {oc5 kV5 dc5 pm5 cd5 ct5 : Value} {od5 an5 : Option Addr} {sl5 : Array (Option Value)}
    {a9_ : Addr} {oc9 kV9 dc9 pm9 cd9 ct9 : Value} {od9 an9 : Option Addr} {sl9 : Array (Option Value)}
    {a10_ : Addr} {oc10 kV10 dc10 pm10 cd10 ct10 : Value} {od10 an10 : Option Addr} {sl10 : Array (Option Value)}
    {a11_ : Addr} {oc11 kV11 dc11 pm11 cd11 ct11 : Value} {od11 an11 : Option Addr} {sl11 : Array (Option Value)}
    {a12_ : Addr} {oc12 kV12 dc12 pm12 cd12 ct12 : Value} {od12 an12 : Option Addr} {sl12 : Array (Option Value)}
    {a8_ : Addr} {oc8 kV8 dc8 pm8 cd8 ct8 : Value} {od8 an8 : Option Addr} {sl8 : Array (Option Value)}
    {a13_ : Addr} {oc13 kV13 dc13 pm13 cd13 ct13 : Value} {od13 an13 : Option Addr} {sl13 : Array (Option Value)}
    {a14_ : Addr} {oc14 kV14 dc14 pm14 cd14 ct14 : Value} {od14 an14 : Option Addr} {sl14 : Array (Option Value)}
    {a15_ : Addr} {oc15 kV15 dc15 pm15 cd15 ct15 : Value} {od15 an15 : Option Addr} {sl15 : Array (Option Value)}
    {a7_ : Addr} {oc7 kV7 dc7 pm7 cd7 ct7 : Value} {od7 an7 : Option Addr} {sl7 : Array (Option Value)}
    {a0_ : Addr} {oc0 kV0 dc0 pm0 cd0 ct0 : Value} {od0 an0 : Option Addr} {sl0 : Array (Option Value)}
    (a2 : PySem.W.nsIn K mainGlobals "_law_cell_at" = some (some (.ref a2_)))
    (l2 : K.lookup a2_ = some ⟨oc2, od2, .func (PySem.W.fnOf "_law_cell_at" "_law_cell_at" (defArgs (top 6)) (defBody (top 6)) (defScope (top 6)) .none kV2 dc2 pm2 an2 cd2 ct2), sl2⟩)
    (c2_ : PySem.W.codeIn K cd2 "_law_cell_at" = true)
    (k2_ : PySem.W.keepIn K (.ref a2_) = true)
    (a3 : PySem.W.nsIn K mainGlobals "_law_names" = some (some (.ref a3_)))
    (l3 : K.lookup a3_ = some ⟨oc3, od3, .func (PySem.W.fnOf "_law_names" "_law_names" (defArgs (top 9)) (defBody (top 9)) (defScope (top 9)) .none kV3 dc3 pm3 an3 cd3 ct3), sl3⟩)
    (c3_ : PySem.W.codeIn K cd3 "_law_names" = true)
    (k3_ : PySem.W.keepIn K (.ref a3_) = true)
    (a4 : PySem.W.nsIn K mainGlobals "_law_mix" = some (some (.ref a4_)))
    (l4 : K.lookup a4_ = some ⟨oc4, od4, .func (PySem.W.fnOf "_law_mix" "_law_mix" (defArgs (top 8)) (defBody (top 8)) (defScope (top 8)) .none kV4 dc4 pm4 an4 cd4 ct4), sl4⟩)
    (c4_ : PySem.W.codeIn K cd4 "_law_mix" = true)
    (k4_ : PySem.W.keepIn K (.ref a4_) = true)
    (a1 : PySem.W.nsIn K mainGlobals "_law_people" = some (some (.ref a1_)))
    (l1 : K.lookup a1_ = some ⟨oc1, od1, .func (PySem.W.fnOf "_law_people" "_law_people" (defArgs (top 10)) (defBody (top 10)) (defScope (top 10)) .none kV1 dc1 pm1 an1 cd1 ct1), sl1⟩)
    (c1_ : PySem.W.codeIn K cd1 "_law_people" = true)
    (k1_ : PySem.W.keepIn K (.ref a1_) = true)
    (a6 : PySem.W.nsIn K mainGlobals "_law_shares" = some (some (.ref a6_)))
    (l6 : K.lookup a6_ = some ⟨oc6, od6, .func (PySem.W.fnOf "_law_shares" "_law_shares" (defArgs (top 11)) (defBody (top 11)) (defScope (top 11)) .none kV6 dc6 pm6 an6 cd6 ct6), sl6⟩)
    (c6_ : PySem.W.codeIn K cd6 "_law_shares" = true)
    (k6_ : PySem.W.keepIn K (.ref a6_) = true)
    (a5 : PySem.W.nsIn K mainGlobals "_law_good" = some (some (.ref a5_)))
    (l5 : K.lookup a5_ = some ⟨oc5, od5, .func (PySem.W.fnOf "_law_good" "_law_good" (defArgs (top 12)) (defBody (top 12)) (defScope (top 12)) .none kV5 dc5 pm5 an5 cd5 ct5), sl5⟩)
    (c5_ : PySem.W.codeIn K cd5 "_law_good" = true)
    (k5_ : PySem.W.keepIn K (.ref a5_) = true)
    (a9 : PySem.W.nsIn K mainGlobals "shares_of" = some (some (.ref a9_)))
    (l9 : K.lookup a9_ = some ⟨oc9, od9, .func (PySem.W.fnOf "shares_of" "shares_of" (defArgs (top 1)) (defBody (top 1)) (defScope (top 1)) .none kV9 dc9 pm9 an9 cd9 ct9), sl9⟩)
    (c9_ : PySem.W.codeIn K cd9 "shares_of" = true)
    (k9_ : PySem.W.keepIn K (.ref a9_) = true)
    (a10 : PySem.W.nsIn K mainGlobals "_law_whole" = some (some (.ref a10_)))
    (l10 : K.lookup a10_ = some ⟨oc10, od10, .func (PySem.W.fnOf "_law_whole" "_law_whole" (defArgs (top 7)) (defBody (top 7)) (defScope (top 7)) .none kV10 dc10 pm10 an10 cd10 ct10), sl10⟩)
    (c10_ : PySem.W.codeIn K cd10 "_law_whole" = true)
    (k10_ : PySem.W.keepIn K (.ref a10_) = true)
    (a11 : PySem.W.nsIn K mainGlobals "_law_held" = some (some (.ref a11_)))
    (l11 : K.lookup a11_ = some ⟨oc11, od11, .func (PySem.W.fnOf "_law_held" "_law_held" (defArgs (top 13)) (defBody (top 13)) (defScope (top 13)) .none kV11 dc11 pm11 an11 cd11 ct11), sl11⟩)
    (c11_ : PySem.W.codeIn K cd11 "_law_held" = true)
    (k11_ : PySem.W.keepIn K (.ref a11_) = true)
    (a12 : PySem.W.nsIn K mainGlobals "all_shares" = some (some (.ref a12_)))
    (l12 : K.lookup a12_ = some ⟨oc12, od12, .func (PySem.W.fnOf "all_shares" "all_shares" (defArgs (top 2)) (defBody (top 2)) (defScope (top 2)) .none kV12 dc12 pm12 an12 cd12 ct12), sl12⟩)
    (c12_ : PySem.W.codeIn K cd12 "all_shares" = true)
    (k12_ : PySem.W.keepIn K (.ref a12_) = true)
    (a8 : PySem.W.nsIn K mainGlobals "_law_counts" = some (some (.ref a8_)))
    (l8 : K.lookup a8_ = some ⟨oc8, od8, .func (PySem.W.fnOf "_law_counts" "_law_counts" (defArgs (top 15)) (defBody (top 15)) (defScope (top 15)) .none kV8 dc8 pm8 an8 cd8 ct8), sl8⟩)
    (c8_ : PySem.W.codeIn K cd8 "_law_counts" = true)
    (k8_ : PySem.W.keepIn K (.ref a8_) = true)
    (a13 : PySem.W.nsIn K mainGlobals "owners_of" = some (some (.ref a13_)))
    (l13 : K.lookup a13_ = some ⟨oc13, od13, .func (PySem.W.fnOf "owners_of" "owners_of" (defArgs (top 3)) (defBody (top 3)) (defScope (top 3)) .none kV13 dc13 pm13 an13 cd13 ct13), sl13⟩)
    (c13_ : PySem.W.codeIn K cd13 "owners_of" = true)
    (k13_ : PySem.W.keepIn K (.ref a13_) = true)
    (a14 : PySem.W.nsIn K mainGlobals "_law_sorted_names" = some (some (.ref a14_)))
    (l14 : K.lookup a14_ = some ⟨oc14, od14, .func (PySem.W.fnOf "_law_sorted_names" "_law_sorted_names" (defArgs (top 14)) (defBody (top 14)) (defScope (top 14)) .none kV14 dc14 pm14 an14 cd14 ct14), sl14⟩)
    (c14_ : PySem.W.codeIn K cd14 "_law_sorted_names" = true)
    (k14_ : PySem.W.keepIn K (.ref a14_) = true)
    (a15 : PySem.W.nsIn K mainGlobals "strangers_of" = some (some (.ref a15_)))
    (l15 : K.lookup a15_ = some ⟨oc15, od15, .func (PySem.W.fnOf "strangers_of" "strangers_of" (defArgs (top 4)) (defBody (top 4)) (defScope (top 4)) .none kV15 dc15 pm15 an15 cd15 ct15), sl15⟩)
    (c15_ : PySem.W.codeIn K cd15 "strangers_of" = true)
    (k15_ : PySem.W.keepIn K (.ref a15_) = true)
    (a7 : PySem.W.nsIn K mainGlobals "_law_told" = some (some (.ref a7_)))
    (l7 : K.lookup a7_ = some ⟨oc7, od7, .func (PySem.W.fnOf "_law_told" "_law_told" (defArgs (top 16)) (defBody (top 16)) (defScope (top 16)) .none kV7 dc7 pm7 an7 cd7 ct7), sl7⟩)
    (c7_ : PySem.W.codeIn K cd7 "_law_told" = true)
    (k7_ : PySem.W.keepIn K (.ref a7_) = true)
    (a0 : PySem.W.nsIn K mainGlobals "law" = some (some (.ref a0_)))
    (l0 : K.lookup a0_ = some ⟨oc0, od0, .func (PySem.W.fnOf "law" "law" (defArgs (top 17)) (defBody (top 17)) (defScope (top 17)) .none kV0 dc0 pm0 an0 cd0 ct0), sl0⟩)
    (c0_ : PySem.W.codeIn K cd0 "law" = true)
    (k0_ : PySem.W.keepIn K (.ref a0_) = true)
    (z_len : PySem.W.nsIn K mainGlobals "len" = some none)
    (z_abs : PySem.W.nsIn K mainGlobals "abs" = some none)
    (z_sum : PySem.W.nsIn K mainGlobals "sum" = some none)
    (z_sorted : PySem.W.nsIn K mainGlobals "sorted" = some none)
    (z_list : PySem.W.nsIn K mainGlobals "list" = some none)
    (z_int : PySem.W.nsIn K mainGlobals "int" = some none)
    (z_str : PySem.W.nsIn K mainGlobals "str" = some none)
    (z_max : PySem.W.nsIn K mainGlobals "max" = some none)
    (z_min : PySem.W.nsIn K mainGlobals "min" = some none)
    (z_isinstance : PySem.W.nsIn K mainGlobals "isinstance" = some none)
    (z_range : PySem.W.nsIn K mainGlobals "range" = some none)
    (z_bool : PySem.W.nsIn K mainGlobals "bool" = some none)
    (z_tuple : PySem.W.nsIn K mainGlobals "tuple" = some none)
    (z_dict : PySem.W.nsIn K mainGlobals "dict" = some none)
    (z_ValueError : PySem.W.nsIn K mainGlobals "ValueError" = some none)
    (z_reversed : PySem.W.nsIn K mainGlobals "reversed" = some none)
    (z_enumerate : PySem.W.nsIn K mainGlobals "enumerate" = some none)
    (z_any : PySem.W.nsIn K mainGlobals "any" = some none)
    (z_all : PySem.W.nsIn K mainGlobals "all" = some none)
    (z_zip : PySem.W.nsIn K mainGlobals "zip" = some none)
    (z_set : PySem.W.nsIn K mainGlobals "set" = some none)
    : ∃ fd : FuncData, (∀ (s : Shared) (v : Value), BindsTo s fd ⟨[v], []⟩ [("_law_script", v)]) ∧ ∀ base : Heap, K.In base → base.Ns mainGlobals mg → FnOk P w K mg base (L2N.CX P w) 4 fa fd ["_law_script"] (spLawB K) := by
  have e := hfa.symm.trans (PySem.W.mg_of X G a0)
  cases e
  let cl : Nat → Addr := fun _ => 0
  let gl : Nat → V := fun _ => .non
  have W : Wd lw K mg cl gl :=
    { one := fun _ z => (List.not_mem_nil z).elim
      ex := fun _ z => (List.not_mem_nil z).elim
      pr := fun _ z => (List.not_mem_nil z).elim
      rf := fun _ z => (List.not_mem_nil z).elim
      blt := List.forall_mem_cons.mpr ⟨PySem.W.mg_none_of X G z_len, List.forall_mem_cons.mpr ⟨PySem.W.mg_none_of X G z_abs, List.forall_mem_cons.mpr ⟨PySem.W.mg_none_of X G z_sum, List.forall_mem_cons.mpr ⟨PySem.W.mg_none_of X G z_sorted, List.forall_mem_cons.mpr ⟨PySem.W.mg_none_of X G z_list, List.forall_mem_cons.mpr ⟨PySem.W.mg_none_of X G z_int, List.forall_mem_cons.mpr ⟨PySem.W.mg_none_of X G z_str, List.forall_mem_cons.mpr ⟨PySem.W.mg_none_of X G z_max, List.forall_mem_cons.mpr ⟨PySem.W.mg_none_of X G z_min, List.forall_mem_cons.mpr ⟨PySem.W.mg_none_of X G z_isinstance, List.forall_mem_cons.mpr ⟨PySem.W.mg_none_of X G z_range, List.forall_mem_cons.mpr ⟨PySem.W.mg_none_of X G z_bool, List.forall_mem_cons.mpr ⟨PySem.W.mg_none_of X G z_tuple, List.forall_mem_cons.mpr ⟨PySem.W.mg_none_of X G z_dict, List.forall_mem_cons.mpr ⟨PySem.W.mg_none_of X G z_ValueError, List.forall_mem_cons.mpr ⟨PySem.W.mg_none_of X G z_reversed, List.forall_mem_cons.mpr ⟨PySem.W.mg_none_of X G z_enumerate, List.forall_mem_cons.mpr ⟨PySem.W.mg_none_of X G z_any, List.forall_mem_cons.mpr ⟨PySem.W.mg_none_of X G z_all, List.forall_mem_cons.mpr ⟨PySem.W.mg_none_of X G z_zip, List.forall_mem_cons.mpr ⟨PySem.W.mg_none_of X G z_set, fun _ z => (List.not_mem_nil z).elim⟩⟩⟩⟩⟩⟩⟩⟩⟩⟩⟩⟩⟩⟩⟩⟩⟩⟩⟩⟩⟩
      glo := fun _ z => (List.not_mem_nil z).elim }
  have F2 := FunD.ofN l2 c2_ k2_
  have B2 : Binds K _ ["_law_script", "_law_k"] [] := F2.bindsN (ps := ["_law_script", "_law_k"]) fun _ _ _ _ _ _ us hl => match us, hl with | [_, _], _ => rfl
  have F3 := FunD.ofN l3 c3_ k3_
  have B3 : Binds K _ ["_law_cell", "_law_many"] [] := F3.bindsN (ps := ["_law_cell", "_law_many"]) fun _ _ _ _ _ _ us hl => match us, hl with | [_, _], _ => rfl
  have F4 := FunD.ofN l4 c4_ k4_
  have B4 : Binds K _ ["_law_cell", "_law_by"] [] := F4.bindsN (ps := ["_law_cell", "_law_by"]) fun _ _ _ _ _ _ us hl => match us, hl with | [_, _], _ => rfl
  have F1 := FunD.ofN l1 c1_ k1_
  have B1 : Binds K _ ["_law_script"] [] := F1.bindsN (ps := ["_law_script"]) fun _ _ _ _ _ _ us hl => match us, hl with | [_], _ => rfl
  have F6 := FunD.ofN l6 c6_ k6_
  have B6 : Binds K _ ["_law_cell"] [] := F6.bindsN (ps := ["_law_cell"]) fun _ _ _ _ _ _ us hl => match us, hl with | [_], _ => rfl
  have F5 := FunD.ofN l5 c5_ k5_
  have B5 : Binds K _ ["_law_script", "_law_firms", "_law_strangers"] [] := F5.bindsN (ps := ["_law_script", "_law_firms", "_law_strangers"]) fun _ _ _ _ _ _ us hl => match us, hl with | [_, _, _], _ => rfl
  have F9 := FunD.ofN l9 c9_ k9_
  have B9 : Binds K _ ["rows", "holder", "firm"] [] := F9.bindsN (ps := ["rows", "holder", "firm"]) fun _ _ _ _ _ _ us hl => match us, hl with | [_, _, _], _ => rfl
  have F10 := FunD.ofN l10 c10_ k10_
  have B10 : Binds K _ ["_law_found"] [] := F10.bindsN (ps := ["_law_found"]) fun _ _ _ _ _ _ us hl => match us, hl with | [_], _ => rfl
  have F11 := FunD.ofN l11 c11_ k11_
  have B11 : Binds K _ ["_law_rows", "_law_holder", "_law_firm"] [] := F11.bindsN (ps := ["_law_rows", "_law_holder", "_law_firm"]) fun _ _ _ _ _ _ us hl => match us, hl with | [_, _, _], _ => rfl
  have F12 := FunD.ofN l12 c12_ k12_
  have B12 : Binds K _ ["rows", "firm"] [] := F12.bindsN (ps := ["rows", "firm"]) fun _ _ _ _ _ _ us hl => match us, hl with | [_, _], _ => rfl
  have F8 := FunD.ofN l8 c8_ k8_
  have B8 : Binds K _ ["_law_firms", "_law_strangers", "_law_rows", "_law_nobody"] [] := F8.bindsN (ps := ["_law_firms", "_law_strangers", "_law_rows", "_law_nobody"]) fun _ _ _ _ _ _ us hl => match us, hl with | [_, _, _, _], _ => rfl
  have F13 := FunD.ofN l13 c13_ k13_
  have B13 : Binds K _ ["rows", "firm"] [] := F13.bindsN (ps := ["rows", "firm"]) fun _ _ _ _ _ _ us hl => match us, hl with | [_, _], _ => rfl
  have F14 := FunD.ofN l14 c14_ k14_
  have B14 : Binds K _ ["_law_found", "_law_due"] [] := F14.bindsN (ps := ["_law_found", "_law_due"]) fun _ _ _ _ _ _ us hl => match us, hl with | [_, _], _ => rfl
  have F15 := FunD.ofN l15 c15_ k15_
  have B15 : Binds K _ ["firms", "rows"] [] := F15.bindsN (ps := ["firms", "rows"]) fun _ _ _ _ _ _ us hl => match us, hl with | [_, _], _ => rfl
  have F7 := FunD.ofN l7 c7_ k7_
  have B7 : Binds K _ ["_law_firms", "_law_strangers", "_law_handed", "_law_nobody"] [] := F7.bindsN (ps := ["_law_firms", "_law_strangers", "_law_handed", "_law_nobody"]) fun _ _ _ _ _ _ us hl => match us, hl with | [_, _, _, _], _ => rfl
  have F0 := FunD.ofN l0 c0_ k0_
  have B0 : Binds K _ ["_law_script"] [] := F0.bindsN (ps := ["_law_script"]) fun _ _ _ _ _ _ us hl => match us, hl with | [_], _ => rfl
  refine ⟨_, fun s v => F0.bindsA (ps := ["_law_script"]) (fun _ _ _ _ _ _ us hl => match us, hl with | [_], _ => rfl) s [v] rfl, fun base hk hn => ?_⟩
  have H2 := k2 (P := P) (w := w) (base := base) W F2 (bind0 B2) 
  have H3 := k3 (P := P) (w := w) (base := base) W F3 (bind0 B3) 
  have H4 := k4 (P := P) (w := w) (base := base) W F4 (bind0 B4) 
  have H1 := k1 (P := P) (w := w) (base := base) W F1 (bind0 B1) H2 (PySem.W.mg_of X G a2) H3 (PySem.W.mg_of X G a3) H4 (PySem.W.mg_of X G a4)
  have H6 := k6 (P := P) (w := w) (base := base) W F6 (bind0 B6) 
  have H5 := k5 (P := P) (w := w) (base := base) W F5 (bind0 B5) H2 (PySem.W.mg_of X G a2) H4 (PySem.W.mg_of X G a4) H6 (PySem.W.mg_of X G a6)
  have H9 := k9 (P := P) (w := w) (base := base) W F9 (bind0 B9) 
  have H10 := k10 (P := P) (w := w) (base := base) W F10 (bind0 B10) 
  have H11 := k11 (P := P) (w := w) (base := base) W F11 (bind0 B11) 
  have H12 := k12 (P := P) (w := w) (base := base) W F12 (bind0 B12) 
  have H8 := k8 (P := P) (w := w) (base := base) W F8 (bind0 B8) H9 (PySem.W.mg_of X G a9) H10 (PySem.W.mg_of X G a10) H11 (PySem.W.mg_of X G a11) H12 (PySem.W.mg_of X G a12)
  have H13 := k13 (P := P) (w := w) (base := base) W F13 (bind0 B13) 
  have H14 := k14 (P := P) (w := w) (base := base) W F14 (bind0 B14) 
  have H15 := k15 (P := P) (w := w) (base := base) W F15 (bind0 B15) 
  have H7 := k7 (P := P) (w := w) (base := base) W F7 (bind0 B7) H8 (PySem.W.mg_of X G a8) H11 (PySem.W.mg_of X G a11) H13 (PySem.W.mg_of X G a13) H14 (PySem.W.mg_of X G a14) H15 (PySem.W.mg_of X G a15)
  have F := def_ok (G := gx lw T0 P w K mg base cl gl) (c := c0) (k := 3) (s := b0) (ps := ["_law_script"]) F0 ⟨⟨rfl, rfl, rfl, by decide +kernel, rfl, by decide +kernel, by decide +kernel⟩, (show ckS ⟨T0, fnm, cnm, lw.gs, gnm, cs⟩ c0 (defScope (top 17)) b0 (defBody (top 17)) = true by decide +kernel), rfl⟩ (W.world (by decide) rfl) { fns := (List.forall_mem_cons.mpr ⟨⟨_, (H1.up (by decide)).tb, PySem.W.mg_of X G a1⟩, (List.forall_mem_cons.mpr ⟨⟨_, (H2.up (by decide)).tb, PySem.W.mg_of X G a2⟩, (List.forall_mem_cons.mpr ⟨⟨_, (H4.up (by decide)).tb, PySem.W.mg_of X G a4⟩, (List.forall_mem_cons.mpr ⟨⟨_, (H5.up (by decide)).tb, PySem.W.mg_of X G a5⟩, (List.forall_mem_cons.mpr ⟨⟨_, (H7.up (by decide)).tb, PySem.W.mg_of X G a7⟩, (fun _ z => nomatch z)⟩)⟩)⟩)⟩)⟩), fnh := (fun _ z => nomatch z) }
  exact F.imp (law_ok (C := ⟨K, cl, gl, none⟩) (d0 ⟨W.exm⟩) law)
end K41
open PySem PySem.W PyProof.Rows
set_option maxRecDepth 100000 in
set_option maxHeartbeats 0 in
theorem PySem.Challenge.cw_groupbooks_k41_holders_told_holds : PySem.Challenge.rw_groupbooks_k41_holders_told.Holds := by
  w_on; o_law; k_head; (case hw => w_witness2)
  k_fill
  refine Q.walk_k (l := PySem.Challenge.rw_groupbooks_k41_holders_told) (k := 4) "_law_script" rfl rfl ⟨rfl, by decide, by decide⟩ (fun w h Y => PySem.W.kIn_of Y) ?F
  case F =>
    intro w mg fa h KX G hmg
    refine' K41.all_mk K41.law_plain KX G hmg ?ff_a2 ?ff_l2 ?ff_c2_ ?ff_k2_ ?ff_a3 ?ff_l3 ?ff_c3_ ?ff_k3_ ?ff_a4 ?ff_l4 ?ff_c4_ ?ff_k4_ ?ff_a1 ?ff_l1 ?ff_c1_ ?ff_k1_ ?ff_a6 ?ff_l6 ?ff_c6_ ?ff_k6_ ?ff_a5 ?ff_l5 ?ff_c5_ ?ff_k5_ ?ff_a9 ?ff_l9 ?ff_c9_ ?ff_k9_ ?ff_a10 ?ff_l10 ?ff_c10_ ?ff_k10_ ?ff_a11 ?ff_l11 ?ff_c11_ ?ff_k11_ ?ff_a12 ?ff_l12 ?ff_c12_ ?ff_k12_ ?ff_a8 ?ff_l8 ?ff_c8_ ?ff_k8_ ?ff_a13 ?ff_l13 ?ff_c13_ ?ff_k13_ ?ff_a14 ?ff_l14 ?ff_c14_ ?ff_k14_ ?ff_a15 ?ff_l15 ?ff_c15_ ?ff_k15_ ?ff_a7 ?ff_l7 ?ff_c7_ ?ff_k7_ ?ff_a0 ?ff_l0 ?ff_c0_ ?ff_k0_ ?ff_z_len ?ff_z_abs ?ff_z_sum ?ff_z_sorted ?ff_z_list ?ff_z_int ?ff_z_str ?ff_z_max ?ff_z_min ?ff_z_isinstance ?ff_z_range ?ff_z_bool ?ff_z_tuple ?ff_z_dict ?ff_z_ValueError ?ff_z_reversed ?ff_z_enumerate ?ff_z_any ?ff_z_all ?ff_z_zip ?ff_z_set
    (case ff_a2 => k_is)
    (case ff_l2 => k_is)
    (case ff_c2_ => k_is)
    (case ff_k2_ => k_is)
    (case ff_a3 => k_is)
    (case ff_l3 => k_is)
    (case ff_c3_ => k_is)
    (case ff_k3_ => k_is)
    (case ff_a4 => k_is)
    (case ff_l4 => k_is)
    (case ff_c4_ => k_is)
    (case ff_k4_ => k_is)
    (case ff_a1 => k_is)
    (case ff_l1 => k_is)
    (case ff_c1_ => k_is)
    (case ff_k1_ => k_is)
    (case ff_a6 => k_is)
    (case ff_l6 => k_is)
    (case ff_c6_ => k_is)
    (case ff_k6_ => k_is)
    (case ff_a5 => k_is)
    (case ff_l5 => k_is)
    (case ff_c5_ => k_is)
    (case ff_k5_ => k_is)
    (case ff_a9 => k_is)
    (case ff_l9 => k_is)
    (case ff_c9_ => k_is)
    (case ff_k9_ => k_is)
    (case ff_a10 => k_is)
    (case ff_l10 => k_is)
    (case ff_c10_ => k_is)
    (case ff_k10_ => k_is)
    (case ff_a11 => k_is)
    (case ff_l11 => k_is)
    (case ff_c11_ => k_is)
    (case ff_k11_ => k_is)
    (case ff_a12 => k_is)
    (case ff_l12 => k_is)
    (case ff_c12_ => k_is)
    (case ff_k12_ => k_is)
    (case ff_a8 => k_is)
    (case ff_l8 => k_is)
    (case ff_c8_ => k_is)
    (case ff_k8_ => k_is)
    (case ff_a13 => k_is)
    (case ff_l13 => k_is)
    (case ff_c13_ => k_is)
    (case ff_k13_ => k_is)
    (case ff_a14 => k_is)
    (case ff_l14 => k_is)
    (case ff_c14_ => k_is)
    (case ff_k14_ => k_is)
    (case ff_a15 => k_is)
    (case ff_l15 => k_is)
    (case ff_c15_ => k_is)
    (case ff_k15_ => k_is)
    (case ff_a7 => k_is)
    (case ff_l7 => k_is)
    (case ff_c7_ => k_is)
    (case ff_k7_ => k_is)
    (case ff_a0 => k_is)
    (case ff_l0 => k_is)
    (case ff_c0_ => k_is)
    (case ff_k0_ => k_is)
    (case ff_z_len => k_is)
    (case ff_z_abs => k_is)
    (case ff_z_sum => k_is)
    (case ff_z_sorted => k_is)
    (case ff_z_list => k_is)
    (case ff_z_int => k_is)
    (case ff_z_str => k_is)
    (case ff_z_max => k_is)
    (case ff_z_min => k_is)
    (case ff_z_isinstance => k_is)
    (case ff_z_range => k_is)
    (case ff_z_bool => k_is)
    (case ff_z_tuple => k_is)
    (case ff_z_dict => k_is)
    (case ff_z_ValueError => k_is)
    (case ff_z_reversed => k_is)
    (case ff_z_enumerate => k_is)
    (case ff_z_any => k_is)
    (case ff_z_all => k_is)
    (case ff_z_zip => k_is)
    (case ff_z_set => k_is)
