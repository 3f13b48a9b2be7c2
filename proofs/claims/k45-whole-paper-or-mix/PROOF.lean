import PyProof.Rows.All
import Wide.All
import OpenK.AllK
import Wide.FinOn
import HandS.ForMost
import HandS.ForExc
import HandS.Wide
import HandS.Text
import HandS.TupAny
import HandS.WideBits
import HandS.SortInts
import HandS.IsInst
import HandS.ExcIs
import HandS.ExcOwn
import HandS.Defaults
import HandS.HotCalls
import HandS.ExcInit
import HandS.ExcInitHot
import HandS.ListItems
import HandS.Conv
import HandS.SetKeys
import HandS.DictTup
import HandS.Flow
import HandS.TupLen
import HandS.Small
import HandS.More
import HandS.Codes
import HandS.EndBits
import HandS.Walk
import HandS.Deep
import HandS.DictComp
import HandS.StrMore
import HandS.Zip
import HandS.RaiseMore
import HandS.SetFor
import HandS.ExcField
import HandS.TryElse
import KE.KExcIs
import KE.KRevIter
import HandS.RevTup
import HandS.Rev
import HandS.SortOrd
import HandS.Iter
import HandS.Dict
import KE.KDictSum
import KE.KSortTup
import KE.KSortTupAny
import KE.GoesRaise
import HandS.Head0
import HandS.Head1
import HandS.Head2
import PySem.Challenge.RW_groupbooks_k45_whole_paper_or_mix
set_option Elab.async false
set_option linter.all false
set_option maxRecDepth 100000
set_option maxHeartbeats 1000000
namespace QR
open PySem L2 PySem.Spec PyProof.Rows
def strLt (a b : PySem.Str) : Bool := decide (a.cps.toList < b.cps.toList)
def rowLt : List PySem.Str → List PySem.Str → Bool
 | [], [] => false
 | [], _ :: _ => true
 | _ :: _, [] => false
 | a :: x, b :: y => if a = b then rowLt x y else strLt a b
theorem strLt_asym {a b : PySem.Str} (h : strLt a b = true) : strLt b a = false := by
 unfold strLt at *
 rw [decide_eq_true_eq] at h
 exact decide_eq_false (List.lt_asymm h)
theorem strLt_tr {a b c : PySem.Str} (h1 : strLt b a = false) (h2 : strLt c b = false) : strLt c a = false := by
 unfold strLt at *
 rw [decide_eq_false_iff_not] at *
 exact List.not_lt.mpr (List.le_trans (List.not_lt.mp h1) (List.not_lt.mp h2))
theorem strLt_tot {a b : PySem.Str} (h1 : strLt b a = false) (h2 : strLt a b = false) : a = b := by
 unfold strLt at *
 rw [decide_eq_false_iff_not] at *
 have e := List.le_antisymm (List.not_lt.mp h1) (List.not_lt.mp h2)
 cases a with
 | mk x =>
   cases b with
   | mk y =>
     congr 1
     exact Array.toList_inj.mp e
theorem rowLt_asym : ∀ x y : List PySem.Str, rowLt x y = true → rowLt y x = false
 | [], [], h => by cases h
 | [], _ :: _, _ => rfl
 | _ :: _, [], h => by cases h
 | a :: x, b :: y, h => by
   unfold rowLt at *
   by_cases e : a = b
   · rw [if_pos e] at h
     rw [if_pos e.symm]
     exact rowLt_asym x y h
   · rw [if_neg e] at h
     rw [if_neg fun z => e z.symm]
     exact strLt_asym h
theorem rowLt_tr : ∀ x y z : List PySem.Str, rowLt y x = false → rowLt z y = false → rowLt z x = false
 | [], [], _, _, h => h
 | [], _ :: _, [], _, _ => rfl
 | [], b :: y, c :: z, h1, h2 => by
   unfold rowLt
   rfl
 | a :: x, [], _, h, _ => by cases h
 | a :: x, b :: y, [], _, h => by cases h
 | a :: x, b :: y, c :: z, h1, h2 => by
   unfold rowLt at *
   by_cases e1 : b = a
   · rw [if_pos e1] at h1
     by_cases e2 : c = b
     · rw [if_pos e2] at h2
       rw [if_pos (e2.trans e1)]
       exact rowLt_tr x y z h1 h2
     · rw [if_neg e2] at h2
       subst e1
       rw [if_neg e2]
       exact h2
   · rw [if_neg e1] at h1
     by_cases e2 : c = b
     · subst e2
       rw [if_neg e1]
       exact h1
     · rw [if_neg e2] at h2
       have h3 := strLt_tr h1 h2
       by_cases e3 : c = a
       · subst e3
         exact absurd (strLt_tot h1 h2) fun z => e1 z.symm
       · rw [if_neg e3]
         exact h3
def IsRow (h : Heap) (v : Value) (r : List PySem.Str) : Prop := ∃ a o its n, v = Value.ref a ∧ h.get? a = some o ∧ o.cls = .type "tuple" ∧ o.data = .seq its n ∧ StrsAre its.toList r
def strOf : Value → PySem.Str
 | .str x _ => x
 | _ => ⟨#[]⟩
theorem strsAre_of : ∀ {vs : List Value} {r : List PySem.Str}, StrsAre vs r → vs.map strOf = r
 | _, _, .nil => rfl
 | _, _, .cons y t h => by rw [List.map_cons, strsAre_of h]; rfl
theorem strsAre_len : ∀ {vs : List Value} {r : List PySem.Str}, StrsAre vs r → vs.length = r.length
 | _, _, .nil => rfl
 | _, _, .cons y t h => congrArg Nat.succ (strsAre_len h)
def rowAt (h : Heap) (v : Value) : List PySem.Str := match v with
 | .ref a => (match h.get? a with
   | some o => (match o.data with
     | .seq its _ => its.toList.map strOf
     | _ => [])
   | none => [])
 | _ => []
theorem IsRow.at_ {h : Heap} {v : Value} {r : List PySem.Str} (x : IsRow h v r) : rowAt h v = r := by
 obtain ⟨a, o, its, n, rfl, h1, h2, h3, h4⟩ := x
 unfold rowAt
 simp only [h1, h3]
 exact strsAre_of h4
theorem IsRow.keeps {h h' : Heap} {v : Value} {r : List PySem.Str} (x : IsRow h v r) (k : ∀ b o, h.get? b = some o → o.cls = .type "tuple" → h'.get? b = some o) : IsRow h' v r := by
 obtain ⟨a, o, its, n, e, h1, h2, h3, h4⟩ := x
 exact ⟨a, o, its, n, e, k a o h1 h2, h2, h3, h4⟩
section
variable {prog : Program} {w : World} {A : Around} {E : Value → Shared → Prop} {s : Shared}
theorem lex_rows {b : Bool} {Q : Bool → Shared → Prop} : ∀ {p q : List Value} {r t : List PySem.Str} (i : Nat), StrsAre p r → StrsAre q t → r.length = t.length → Q (rowLt r t) s → PySem.W.KatLex prog w A b false Q (p.zip q) i s
 | _, _, _, _, i, .nil, .nil, _, h => PySem.W.kat_nil h
 | _, _, _, _, i, .nil, .cons _ _ _, hl, h => by simp at hl
 | _, _, _, _, i, .cons _ _ _, .nil, hl, h => by simp at hl
 | _, _, _, _, i, .cons x t (vs := vs) (ys := r) hp, .cons y u (vs := us) (ys := q) hq, hl, h => by
   have ih := fun hh => lex_rows (b := b) (Q := Q) (i + 1) hp hq (by simpa using hl) hh
   show PySem.W.KatLex prog w A b false Q ((Value.str x t, Value.str y u) :: vs.zip us) i s
   refine PySem.W.kat_cons (SeqAt.EqAt.str_str x t y u prog w _ _ ?_)
   unfold rowLt at h
   refine PySem.W.kat_go (fun e1 => ?_) (fun e1 => ?_)
   · have ex : x = y := by simpa using e1
     rw [if_pos ex] at h
     exact PySem.W.kat_yes (ih h)
   · have ex : ¬ x = y := by simpa using e1
     rw [if_neg ex] at h
     exact PySem.W.kat_no (oneLt_any_str h)
theorem row_cmp {vs : List Value} {m : Nat} (hp : ∀ v ∈ vs, ∃ r, IsRow s.heap v r ∧ r.length = m) : SrtO.Cmp prog w A s (tuples' true) (fun p => p.1 ∈ vs) (SrtO.lt2 fun v u => rowLt (rowAt s.heap v) (rowAt s.heap u)) := by
 intro p q hm hm'
 obtain ⟨r, h1, l1⟩ := hp _ hm
 obtain ⟨t, h2, l2⟩ := hp _ hm'
 show wpAny (model prog w) A (keyLt' (tuples' true) p.1 q.1) (fun b s' => s' = s ∧ b = rowLt (rowAt s.heap p.1) (rowAt s.heap q.1)) (fun _ _ => False) s
 rw [h1.at_, h2.at_]
 obtain ⟨a, o, its, n, e, ho, hc, hd, hs⟩ := h1
 obtain ⟨a', o', its', n', e', ho', hc', hd', hs'⟩ := h2
 rw [e, e']
 refine PySem.W.kat_lt ho hd ho' hd' ?_
 have hf : decide (its.size < its'.size) = false := by
   have q1 := strsAre_len hs
   have q2 := strsAre_len hs'
   rw [Array.length_toList] at q1 q2
   exact decide_eq_false (by omega)
 rw [hf]
 exact lex_rows 0 hs hs' (l1.trans l2.symm) ⟨rfl, rfl⟩
theorem rows_firsts {h : Heap} {m : Nat} : ∀ {vs : List Value}, (∀ v ∈ vs, ∃ r, IsRow h v r ∧ r.length = m + 1) → ∃ fs, PySem.W.KatTups h vs fs ∧ fs.length = vs.length ∧ ∀ f ∈ fs, ∃ x t, f = Value.str x t
 | [], _ => ⟨[], PySem.W.KatTups.nil, rfl, fun f hf => by simp at hf⟩
 | v :: vs, hv => by
   obtain ⟨fs, k, hl, hi⟩ := rows_firsts fun u hu => hv u (List.mem_cons_of_mem _ hu)
   obtain ⟨r, ⟨a, o, its, n, rfl, ho, hc, hd, hs⟩, hr⟩ := hv v List.mem_cons_self
   cases hi0 : its.toList with
   | nil =>
     rw [hi0] at hs
     cases hs
     simp at hr
   | cons w0 ws =>
     rw [hi0] at hs
     cases hs with
     | cons y t hs =>
       refine ⟨.str y t :: fs, PySem.W.KatTups.cons ho hc hd (by rw [← Array.getElem?_toList, hi0]; rfl) k, by rw [List.length_cons, List.length_cons, hl], fun f hf => ?_⟩
       rcases List.mem_cons.mp hf with rfl | hf
       · exact ⟨y, t, rfl⟩
       · exact hi f hf
theorem rows_sortable {a : Addr} {vs : List Value} {m : Nat} (h0 : 0 < vs.length) (hp : ∀ v ∈ vs, ∃ r, IsRow s.heap v r ∧ r.length = m + 1) (ha : ∀ o, s.heap.get? a = some o → o.cls ≠ .type "tuple") : SrtO.SortableO prog w A s a vs fun v u => rowLt (rowAt s.heap v) (rowAt s.heap u) := by
 intro h' keep
 have kp : ∀ {v : Value} {r : List PySem.Str}, IsRow s.heap v r → IsRow h' v r := fun x => x.keeps fun b o e c => keep b o (fun z => by subst z; exact ha o e c) e
 have hp' : ∀ v ∈ vs, ∃ r, IsRow h' v r ∧ r.length = m + 1 := fun v hm => let ⟨r, q1, q2⟩ := hp v hm; ⟨r, kp q1, q2⟩
 obtain ⟨fs, h1, h2, h3⟩ := rows_firsts hp'
 refine ⟨tuples' true, fun Q E hq => ?_, ?_⟩
 · refine PySem.W.kat_kind (T := .type "str") h1 (by omega) (fun f hm => ?_) (by rfl) ?_
   · obtain ⟨x, t, rfl⟩ := h3 f hm
     exact PySem.W.Looks.now
   · have e : (Value.type "str" != Value.type "tuple") = true := by first | decide +kernel | rfl | decide
     rw [e]
     exact hq
 · have c := row_cmp (prog := prog) (w := w) (A := A) (s := { s with heap := h' }) hp'
   intro p q hm hm'
   have e := c p q hm hm'
   obtain ⟨r, q1, _⟩ := hp _ hm
   obtain ⟨t, q2, _⟩ := hp _ hm'
   refine wpAny_mono e (fun b s' hb => ⟨hb.1, hb.2.trans ?_⟩) fun _ _ z => z
   show rowLt (rowAt h' p.1) (rowAt h' q.1) = rowLt (rowAt s.heap p.1) (rowAt s.heap q.1)
   rw [(kp q1).at_, (kp q2).at_, q1.at_, q2.at_]
theorem walks_raw (hh : A.handled = none) (I d : Addr) (hne : d ≠ I) (es : Array DictEntry) (ep : Nat) :
   Walks prog w A I [I, d] [I] es.size (fun i v => ∃ en, es[i]? = some en ∧ en.key = v) (fun i h => h.IsKeyIter I d i es.size ep ∧ DT.Raw h d es ep) where
 sub := fun b hb => by simp at hb; simp [hb]
 frame := fun _ _ _ st hk => ⟨st.1.at fun o e => hk I (by simp) o e, st.2.at' fun o e => hk d (by simp) o e⟩
 item := fun i s Q E hi st hQ => by
   obtain ⟨o, ho, hx, hd⟩ := st.2
   have hen : es[i]? = some es[i] := Array.getElem?_eq_getElem hi
   refine next_key_item st.1 ho hd rfl hen fun h' hit' sb => ?_
   exact hQ _ h' s.toks ⟨_, hen, rfl⟩ ⟨hit', st.2.at' fun o e => (sb.2 d hne).trans e⟩ fun b o hb e => (sb.2 b (fun z => hb (by simp [z]))).trans e
 done := fun s Q E st hQ => by
   obtain ⟨o, ho, hx, hd⟩ := st.2
   exact next_key_end hh st.1 ho hd rfl (Nat.le_refl _) fun h' he' => hQ h' s.toks fun b o hb e => he' b o (fun z => hb (by simp [z])) e
 self := fun _ _ _ _ st hQ => wpAny_pyIter_keyiter st.1 hQ
theorem src_raw {d : Addr} {es : Array DictEntry} {ep : Nat} (lo : (d == sysModules) = false) : PySem.W.KdlSrc prog w "dict" d d es.size (fun i v => ∃ en, es[i]? = some en ∧ en.key = v) (fun h => DT.Raw h d es ep) where
 type := fun _ hm => hm.typeIs
 there := fun _ hm => ⟨hm.lt, hm.lt⟩
 keep := fun _ _ hm hk => hm.at' fun o e => hk d (.inl rfl) o e
 notList := by decide
 notTuple := by decide
 hint := fun _ _ _ _ hm hq => PySem.W.kdl_hint_dict hm.typeIs hq
 iter := fun A s hh hm => by
   obtain ⟨o, ho, hx, hd⟩ := id hm
   exact ⟨_, _, (fun _ _ hq => iter_keys lo ho hx hd hq), walks_raw hh _ d (Nat.ne_of_lt hm.lt) es ep, ⟨⟨_, Heap.get?_push_size _ rfl, rfl, rfl⟩, hm.push _⟩⟩
end
section
variable {X : Cx}
theorem row_of {P : Program} {w : World} {H : Hp} {h : Heap} {q : Addr} {r : List PySem.Str} (ok : HOk P w H h) (e : H q = some (.tup (r.map V.str))) : IsRow h (.ref q) r := by
 obtain ⟨_, its, rv, o, ho, hc, n, hd⟩ := (show ObjOk P w H h q (.tup (r.map V.str)) from ok q _ e)
 have key : ∀ {its : List Value} {r : List PySem.Str}, Vals (r.map V.str) its → StrsAre its r := by
   intro its r
   induction r generalizing its with
   | nil => intro h; cases h; exact .nil
   | cons y r ih =>
     intro h
     cases h with
     | cons r1 rr =>
       obtain ⟨t, rfl⟩ := r1
       exact .cons y t (ih rr)
 exact ⟨q, o, its.toArray, n, rfl, ho, hc, hd, by simpa using key rv⟩
def rSortT : List V → Hp → VK → Prop := fun xs H Q => ∃ (a : Addr) (kvs : List (List L2.Key × V)) (rs : List (List PySem.Str)) (m : Nat), xs = [.ref a] ∧ Rd H a (.dT kvs) ∧ kvs.map (·.1) = rs.map (List.map Sum.inr) ∧ (∀ r ∈ rs, r.length = m + 1) ∧
 ∀ (qs : List Addr) (ys : List (List PySem.Str)) (p : Addr), ys.Perm rs → ys.Pairwise (fun x y => rowLt y x = false) → Paired (fun q r => H q = some (.tup (r.map V.str))) qs ys → H p = none → Q (.ref p) (upd H p (.lst (qs.map V.ref)))
theorem paired_of {α β : Type} {F : α → β → Prop} : ∀ {as : List α} {bs : List β}, as.length = bs.length → (∀ (i : Nat) (a : α) (b : β), as[i]? = some a → bs[i]? = some b → F a b) → Paired F as bs
 | [], [], _, _ => .nil
 | a :: as, b :: bs, hl, h => .cons (h 0 a b rfl rfl) (paired_of (F := F) (as := as) (bs := bs) (by simpa using hl) fun i x y hx hy => h (i + 1) x y (by simpa using hx) (by simpa using hy))
 | [], _ :: _, hl, _ => by simp at hl
 | _ :: _, [], hl, _ => by simp at hl
theorem call_sortT (hcalm : X.calm = true) : CallR X (.builtin "sorted") rSortT := by
 intro pins s σ H xs us Q I r q
 obtain ⟨a, kvs, rs, m, rfl, ha, hks, hm, q⟩ := q
 obtain rfl := Vals.ref1 r
 obtain ⟨z, lo, xs', rel, o, es, ep, ho, hx, hdat, hes, his, hn⟩ := dt_rd I.hok ha
 have raw : DT.Raw s.heap a es ep := ⟨o, ho, hx, hdat⟩
 have l1 : kvs.length = xs'.length := Paired.length rel
 have l2 : es.size = xs'.length := size_of_entries hes
 have l3 : kvs.length = rs.length := by
   have e := congrArg List.length hks
   rw [List.length_map, List.length_map] at e
   exact e
 -- each key's own tuple
 have kq : ∀ (i : Nat) (en : DictEntry), es[i]? = some en → ∃ (r : List PySem.Str) (b : Addr), rs[i]? = some r ∧ en.key = Value.ref b ∧ H b = some (.tup (r.map V.str)) := by
   intro i en hen
   rw [entry_at hes i] at hen
   cases hxi : xs'[i]? with
   | none => rw [hxi] at hen; cases hen
   | some x =>
     rw [hxi] at hen
     have een : entryOfKey (tupleKind (mixKind X.prog X.w)) x = en := Option.some.inj hen
     obtain ⟨e0, he0, r1, r2, r3⟩ := L2.DX.pget rel hxi
     have e1 : (kvs.map (·.1))[i]? = some e0.1 := by rw [List.getElem?_map, he0]; rfl
     rw [hks, List.getElem?_map] at e1
     cases hr : rs[i]? with
     | none => rw [hr] at e1; cases e1
     | some r =>
       rw [hr] at e1
       have e2 : r.map Sum.inr = e0.1 := Option.some.inj e1
       refine ⟨r, x.2.1, rfl, by rw [← een]; rfl, ?_⟩
       rw [r2, ← e2, List.map_map]
       rfl
 refine Calls.call_function_entry kind_sorted plain_sorted entry_sorted (args_sorted1 _) ?_
 unfold Builtin.«sorted»
 refine wpAny_bind (m := checkCount "sorted" 1 1 _) (wpAny_pure ?_)
 refine wpAny_bind (PySem.W.kdu_collect (A := X.A.in1) (src_raw (prog := X.prog) (w := X.w) lo) (I.ok.hd hcalm) raw (by omega) fun h' tk acc hk hacc => ?_)
 have hal : acc.toList.length = rs.length := by rw [Array.length_toList, hacc.1]; omega
 -- the addresses
 have hac : ∀ (i : Nat) (v : Value), acc.toList[i]? = some v → ∃ (r : List PySem.Str) (b : Addr), rs[i]? = some r ∧ v = Value.ref b ∧ H b = some (.tup (r.map V.str)) := fun i v e => by
   obtain ⟨en, e1, e2⟩ := hacc.2 i v (by rw [← Array.getElem?_toList]; exact e)
   obtain ⟨r, b, q1, q2, q3⟩ := kq i en e1
   exact ⟨r, b, q1, e2.symm.trans q2, q3⟩
 have I1 : Inv X pins σ H { s with heap := h', toks := tk } := I.kept hk
 have hz : acc.toList.length ≤ sizeLine := by omega
 refine wpAny_bind (wpAny_newList ?_ hz)
 have hoL : (h'.push (seqObj "list" acc.toList.toArray 0)).get? h'.objs.size = some (seqObj "list" acc.toList.toArray 0) := Heap.get?_push_size _ rfl
 have hrow : ∀ v ∈ acc.toList, ∃ r, IsRow (h'.push (seqObj "list" acc.toList.toArray 0)) v r ∧ r.length = m + 1 := fun v hv => by
   obtain ⟨i, hi⟩ := List.getElem?_of_mem hv
   obtain ⟨r, b, q1, q2, q3⟩ := hac i v hi
   subst q2
   exact ⟨r, (row_of I1.hok q3).keeps fun b o e _ => Heap.get?_push_of_some _ e, hm r (List.mem_of_getElem? q1)⟩
 have hrw : ∀ (i : Nat) (v : Value) (r : List PySem.Str), acc.toList[i]? = some v → rs[i]? = some r → rowAt (h'.push (seqObj "list" acc.toList.toArray 0)) v = r := fun i v r e1 e2 => by
   obtain ⟨r', b, q1, q2, q3⟩ := hac i v e1
   subst q2
   rw [e2] at q1
   cases q1
   exact ((row_of I1.hok q3).keeps fun b o e _ => Heap.get?_push_of_some _ e).at_
 show wpAny _ _ _ _ _ { s with heap := h'.push (seqObj "list" acc.toList.toArray 0), toks := tk }
 have O : SrtO.Swo fun v u => rowLt (rowAt (h'.push (seqObj "list" acc.toList.toArray 0)) v) (rowAt (h'.push (seqObj "list" acc.toList.toArray 0)) u) := ⟨fun x y h => rowLt_asym _ _ h, fun x y z h1 h2 => rowLt_tr _ _ _ h1 h2⟩
 refine wpAny_bind (wpAny_holding (wpAny_call_entry slot_list_sort ⟨_, hoL, rfl⟩ entry_list_sort
   (SrtO.list_sort_ord (s := { s with heap := h'.push (seqObj "list" acc.toList.toArray 0), toks := tk }) O hoL hz (fun h2 => rows_sortable (by omega) hrow fun o e => by
     have e' : some o = some (seqObj "list" acc.toList.toArray 0) := e.symm.trans hoL
     cases e'
     intro c
     exact absurd (Value.type.inj c) (by decide)) fun out hs hb => ⟨_, rfl, ?_⟩) (args_list_sort _)))
 obtain ⟨e', he'⟩ := sortedHeap_at (vs := acc.toList) (out := out.toArray) hoL
 have pm : out.Perm acc.toList := hb.perm
 -- the sorted rows
 have allr : acc.toList.map (rowAt (h'.push (seqObj "list" acc.toList.toArray 0))) = rs := by
   apply List.ext_getElem?
   intro i
   rw [List.getElem?_map]
   cases e : acc.toList[i]? with
   | none =>
     have : rs.length ≤ i := by
       have := List.getElem?_eq_none_iff.mp e
       omega
     rw [List.getElem?_eq_none this]
     rfl
   | some v =>
     obtain ⟨r, b, q1, q2, q3⟩ := hac i v e
     rw [q1, Option.map_some, hrw i v r e q1]
 have outr : ∀ v ∈ out, ∃ b, v = Value.ref b ∧ H b = some (.tup ((rowAt (h'.push (seqObj "list" acc.toList.toArray 0)) v).map V.str)) := fun v hv => by
   obtain ⟨i, hi⟩ := List.getElem?_of_mem (pm.mem_iff.mp hv)
   obtain ⟨r, b, q1, q2, q3⟩ := hac i v hi
   exact ⟨b, q2, by rw [hrw i v r hi q1]; exact q3⟩
 have adO : ∀ v ∈ out, v = Value.ref (match v with | .ref b => b | _ => 0) := fun v hv => by
   obtain ⟨b, rfl, _⟩ := outr v hv
   rfl
 have eo : out = (out.map fun v => match v with | .ref b => b | _ => 0).map Value.ref := by
   rw [List.map_map]
   conv => lhs; rw [← List.map_id out]
   exact List.map_congr_left fun v hv => adO v hv
 generalize hqs : (out.map fun v => match v with | .ref b => b | _ => 0) = qs at eo
 have hlen : (qs.map V.ref).length ≤ sizeLine := by
   rw [List.length_map, ← hqs, List.length_map, pm.length_eq]
   exact hz
 have hvals : Vals (qs.map V.ref) out := by
   rw [eo]
   have : ∀ qs : List Addr, Vals (qs.map V.ref) (qs.map Value.ref) := fun qs => by
     induction qs with
     | nil => exact .nil
     | cons q qs ih => exact .cons rfl ih
   exact this qs
 refine wpAny_pure ⟨_, rfl, .ref h'.objs.size, upd H h'.objs.size (.lst (qs.map V.ref)), I1.laid (t' := tk) (fun b u e => ?_) (Nat.le_refl _)
   (show ObjOk X.prog X.w _ _ _ (.lst (qs.map V.ref)) from ⟨hlen, out, e', hvals, he'⟩), rfl, q qs (out.map (rowAt (h'.push (seqObj "list" acc.toList.toArray 0)))) _ ?_ ?_ ?_ (I1.hok.fresh (Nat.le_refl _))⟩
 · have hb : b < h'.objs.size := Heap.lt_size e
   rw [sortedHeap_old (Nat.ne_of_lt hb) (by rw [size_push']; exact Nat.lt_succ_of_lt hb)]
   exact Heap.get?_push_of_some _ e
 · rw [← allr]
   exact pm.map _
 · exact List.pairwise_map.mpr hs
 · refine paired_of (by rw [← hqs, List.length_map, List.length_map]) fun i c y hc hy => ?_
   rw [← hqs, List.getElem?_map] at hc
   rw [List.getElem?_map] at hy
   cases ev : out[i]? with
   | none => rw [ev] at hc; cases hc
   | some v =>
     rw [ev] at hc hy
     obtain ⟨b, rfl, hb⟩ := outr v (List.mem_of_getElem? ev)
     cases hc
     cases hy
     exact hb
end
end QR
namespace QS
open PySem L2 PySem.Spec PyProof.Rows
abbrev Ky := L2.Key
def kLt : Ky → Ky → Bool
 | .inl a, .inl b => decide (a < b)
 | .inl _, .inr _ => true
 | .inr _, .inl _ => false
 | .inr a, .inr b => QR.strLt a b
def rwLt : List Ky → List Ky → Bool
 | [], [] => false
 | [], _ :: _ => true
 | _ :: _, [] => false
 | a :: x, b :: y => if a = b then rwLt x y else kLt a b
theorem kLt_asym : ∀ {a b : Ky}, kLt a b = true → kLt b a = false
 | .inl a, .inl b, h => decide_eq_false (by have := of_decide_eq_true h; omega)
 | .inl _, .inr _, _ => rfl
 | .inr _, .inl _, h => nomatch h
 | .inr a, .inr b, h => QR.strLt_asym h
theorem kLt_tr : ∀ {a b c : Ky}, kLt b a = false → kLt c b = false → kLt c a = false
 | .inl a, .inl b, .inl c, h1, h2 => decide_eq_false (by have := of_decide_eq_false h1; have := of_decide_eq_false h2; omega)
 | .inr a, .inr b, .inr c, h1, h2 => QR.strLt_tr h1 h2
 | .inl _, _, .inr _, _, _ => rfl
 | .inl _, .inr _, .inl _, _, h => nomatch h
 | .inr _, .inl _, _, h, _ => nomatch h
 | .inr _, .inr _, .inl _, _, h => nomatch h
theorem kLt_tot : ∀ {a b : Ky}, kLt b a = false → kLt a b = false → a = b
 | .inl a, .inl b, h1, h2 => congrArg Sum.inl (by have := of_decide_eq_false h1; have := of_decide_eq_false h2; omega)
 | .inl _, .inr _, _, h => nomatch h
 | .inr _, .inl _, h, _ => nomatch h
 | .inr a, .inr b, h1, h2 => congrArg Sum.inr (QR.strLt_tot h1 h2)
theorem rwLt_asym : ∀ x y : List Ky, rwLt x y = true → rwLt y x = false
 | [], [], h => by cases h
 | [], _ :: _, _ => rfl
 | _ :: _, [], h => by cases h
 | a :: x, b :: y, h => by
   unfold rwLt at *
   by_cases e : a = b
   · rw [if_pos e] at h
     rw [if_pos e.symm]
     exact rwLt_asym x y h
   · rw [if_neg e] at h
     rw [if_neg fun z => e z.symm]
     exact kLt_asym h
theorem rwLt_tr : ∀ x y z : List Ky, rwLt y x = false → rwLt z y = false → rwLt z x = false
 | [], [], _, _, h => h
 | [], _ :: _, [], _, _ => rfl
 | [], b :: y, c :: z, h1, h2 => by
   unfold rwLt
   rfl
 | a :: x, [], _, h, _ => by cases h
 | a :: x, b :: y, [], _, h => by cases h
 | a :: x, b :: y, c :: z, h1, h2 => by
   unfold rwLt at *
   by_cases e1 : b = a
   · rw [if_pos e1] at h1
     by_cases e2 : c = b
     · rw [if_pos e2] at h2
       rw [if_pos (e2.trans e1)]
       exact rwLt_tr x y z h1 h2
     · rw [if_neg e2] at h2
       rw [if_neg fun q => e2 (q.trans e1.symm), ← e1]
       exact h2
   · rw [if_neg e1] at h1
     by_cases e2 : c = b
     · rw [if_neg fun q => e1 (e2.symm.trans q), e2]
       exact h1
     · rw [if_neg e2] at h2
       have h3 := kLt_tr h1 h2
       by_cases e3 : c = a
       · rw [e3] at h2
         exact absurd (kLt_tot h1 h2) (Ne.symm e1)
       · rw [if_neg e3]; exact h3
def KeyIs : Ky → Value → Prop
 | .inl i, v => ∃ t, v = .int i t
 | .inr x, v => ∃ t, v = .str x t
inductive Keys : List Ky → List Value → Prop
 | nil : Keys [] []
 | cons {k : Ky} {v : Value} {ks : List Ky} {vs : List Value} (h : KeyIs k v) (t : Keys ks vs) : Keys (k :: ks) (v :: vs)
theorem keys_of : ∀ {ks : List Ky} {vs : List Value}, Vals (ks.map kV) vs → Keys ks vs
 | [], _, .nil => .nil
 | .inl i :: ks, _, .cons r t => .cons (k := .inl i) (by obtain ⟨t, q⟩ := r; exact ⟨t, q⟩) (keys_of t)
 | .inr x :: ks, _, .cons r t => .cons (k := .inr x) (by obtain ⟨t, q⟩ := r; exact ⟨t, q⟩) (keys_of t)
def kOf : Value → Ky
 | .int i _ => .inl i
 | .str x _ => .inr x
 | _ => .inl 0
theorem keys_at : ∀ {ks : List Ky} {vs : List Value}, Keys ks vs → vs.map kOf = ks
 | _, _, .nil => rfl
 | k :: ks, v :: vs, .cons h t => by
   rw [List.map_cons, keys_at t]
   refine congrArg (· :: ks) ?_
   cases k with
   | inl i => obtain ⟨t, rfl⟩ := h; rfl
   | inr x => obtain ⟨t, rfl⟩ := h; rfl
theorem keys_len : ∀ {ks : List Ky} {vs : List Value}, Keys ks vs → vs.length = ks.length
 | _, _, .nil => rfl
 | _, _, .cons _ t => congrArg Nat.succ (keys_len t)
def IsRw (h : Heap) (v : Value) (r : List Ky) : Prop := ∃ a o its n, v = Value.ref a ∧ h.get? a = some o ∧ o.cls = .type "tuple" ∧ o.data = .seq its n ∧ Keys r its.toList
def rwAt (h : Heap) (v : Value) : List Ky := match v with
 | .ref a => (match h.get? a with
   | some o => (match o.data with
     | .seq its _ => its.toList.map kOf
     | _ => [])
   | none => [])
 | _ => []
theorem IsRw.at_ {h : Heap} {v : Value} {r : List Ky} (x : IsRw h v r) : rwAt h v = r := by
 obtain ⟨a, o, its, n, rfl, h1, h2, h3, h4⟩ := x
 unfold rwAt
 simp only [h1, h3]
 exact keys_at h4
theorem IsRw.keeps {h h' : Heap} {v : Value} {r : List Ky} (x : IsRw h v r) (k : ∀ b o, h.get? b = some o → o.cls = .type "tuple" → h'.get? b = some o) : IsRw h' v r := by
 obtain ⟨a, o, its, n, e, h1, h2, h3, h4⟩ := x
 exact ⟨a, o, its, n, e, k a o h1 h2, h2, h3, h4⟩
def shp (r : List Ky) : List Bool := r.map Sum.isLeft
section
variable {prog : Program} {w : World} {A : Around} {E : Value → Shared → Prop} {s : Shared}
theorem lex_rws {b : Bool} {Q : Bool → Shared → Prop} : ∀ {r t : List Ky} {p q : List Value} (i : Nat), Keys r p → Keys t q → shp r = shp t → Q (rwLt r t) s → PySem.W.KatLex prog w A b false Q (p.zip q) i s
 | _, _, _, _, i, .nil, .nil, _, h => PySem.W.kat_nil h
 | _, _, _, _, i, .nil, .cons _ _, hl, h => by simp [shp] at hl
 | _, _, _, _, i, .cons _ _, .nil, hl, h => by simp [shp] at hl
 | k :: r, l :: t, v :: vs, u :: us, i, .cons hp hps, .cons hq hqs, hl, h => by
   have hl' : Sum.isLeft k = Sum.isLeft l ∧ shp r = shp t := by
     unfold shp at hl ⊢
     simpa using hl
   have ih := fun hh => lex_rws (b := b) (Q := Q) (i + 1) hps hqs hl'.2 hh
   show PySem.W.KatLex prog w A b false Q ((v, u) :: vs.zip us) i s
   unfold rwLt at h
   match k, l, hp, hq, hl'.1, h with
   | .inl x, .inl y, hp, hq, _, h =>
     obtain ⟨t, rfl⟩ := hp
     obtain ⟨u', rfl⟩ := hq
     refine PySem.W.kat_cons (wpAny_eqBool_int ?_)
     refine PySem.W.kat_go (fun e1 => ?_) (fun e1 => ?_)
     · have ex : x = y := by simpa using e1
       rw [if_pos (congrArg Sum.inl ex)] at h
       exact PySem.W.kat_yes (ih h)
     · have ex : ¬ x = y := by simpa using e1
       rw [if_neg fun z => ex (Sum.inl.inj z)] at h
       exact PySem.W.kat_no (oneLt_any_int h)
   | .inr x, .inr y, hp, hq, _, h =>
     obtain ⟨t, rfl⟩ := hp
     obtain ⟨u', rfl⟩ := hq
     refine PySem.W.kat_cons (wpAny_eqBool_str ?_)
     refine PySem.W.kat_go (fun e1 => ?_) (fun e1 => ?_)
     · have ex : x = y := of_decide_eq_true e1
       rw [if_pos (congrArg Sum.inr ex)] at h
       exact PySem.W.kat_yes (ih h)
     · have ex : ¬ x = y := of_decide_eq_false e1
       rw [if_neg fun z => ex (Sum.inr.inj z)] at h
       exact PySem.W.kat_no (oneLt_any_str h)
theorem rw_cmp {vs : List Value} {sh : List Bool} (hp : ∀ v ∈ vs, ∃ r, IsRw s.heap v r ∧ shp r = sh) : SrtO.Cmp prog w A s (tuples' true) (fun p => p.1 ∈ vs) (SrtO.lt2 fun v u => rwLt (rwAt s.heap v) (rwAt s.heap u)) := by
 intro p q hm hm'
 obtain ⟨r, h1, l1⟩ := hp _ hm
 obtain ⟨t, h2, l2⟩ := hp _ hm'
 show wpAny (model prog w) A (keyLt' (tuples' true) p.1 q.1) (fun b s' => s' = s ∧ b = rwLt (rwAt s.heap p.1) (rwAt s.heap q.1)) (fun _ _ => False) s
 rw [h1.at_, h2.at_]
 have ll : r.length = t.length := by
   have := congrArg List.length (l1.trans l2.symm)
   unfold shp at this
   rw [List.length_map, List.length_map] at this
   exact this
 obtain ⟨a, o, its, n, e, ho, hc, hd, hs⟩ := h1
 obtain ⟨a', o', its', n', e', ho', hc', hd', hs'⟩ := h2
 rw [e, e']
 refine PySem.W.kat_lt ho hd ho' hd' ?_
 have hf : decide (its.size < its'.size) = false := by
   have q1 := keys_len hs
   have q2 := keys_len hs'
   rw [Array.length_toList] at q1 q2
   exact decide_eq_false (by omega)
 rw [hf]
 exact lex_rws 0 hs hs' (l1.trans l2.symm) ⟨rfl, rfl⟩
theorem rws_firsts {h : Heap} {b : Bool} {sh : List Bool} : ∀ {vs : List Value}, (∀ v ∈ vs, ∃ r, IsRw h v r ∧ shp r = b :: sh) → ∃ fs, PySem.W.KatTups h vs fs ∧ fs.length = vs.length ∧ ∀ f ∈ fs, ∃ k, KeyIs k f ∧ Sum.isLeft k = b
 | [], _ => ⟨[], PySem.W.KatTups.nil, rfl, fun f hf => by simp at hf⟩
 | v :: vs, hv => by
   obtain ⟨fs, k, hl, hi⟩ := rws_firsts fun u hu => hv u (List.mem_cons_of_mem _ hu)
   obtain ⟨r, ⟨a, o, its, n, rfl, ho, hc, hd, hs⟩, hr⟩ := hv v List.mem_cons_self
   cases r with
   | nil => simp [shp] at hr
   | cons y r =>
     cases hi0 : its.toList with
     | nil => rw [hi0] at hs; cases hs
     | cons w0 ws =>
       rw [hi0] at hs
       cases hs with
       | cons hy hs =>
         refine ⟨w0 :: fs, PySem.W.KatTups.cons ho hc hd (by rw [← Array.getElem?_toList, hi0]; rfl) k, by rw [List.length_cons, List.length_cons, hl], fun f hf => ?_⟩
         rcases List.mem_cons.mp hf with rfl | hf
         · refine ⟨y, hy, ?_⟩
           unfold shp at hr
           rw [List.map_cons] at hr
           exact (List.cons.inj hr).1
         · exact hi f hf
theorem rws_sortable {a : Addr} {vs : List Value} {b : Bool} {sh : List Bool} (h0 : 0 < vs.length) (hp : ∀ v ∈ vs, ∃ r, IsRw s.heap v r ∧ shp r = b :: sh) (ha : ∀ o, s.heap.get? a = some o → o.cls ≠ .type "tuple") : SrtO.SortableO prog w A s a vs fun v u => rwLt (rwAt s.heap v) (rwAt s.heap u) := by
 intro h' keep
 have kp : ∀ {v : Value} {r : List Ky}, IsRw s.heap v r → IsRw h' v r := fun x => x.keeps fun b o e c => keep b o (fun z => by subst z; exact ha o e c) e
 have hp' : ∀ v ∈ vs, ∃ r, IsRw h' v r ∧ shp r = b :: sh := fun v hm => let ⟨r, q1, q2⟩ := hp v hm; ⟨r, kp q1, q2⟩
 obtain ⟨fs, h1, h2, h3⟩ := rws_firsts hp'
 refine ⟨tuples' true, fun Q E hq => ?_, ?_⟩
 · cases b with
   | true =>
     refine PySem.W.kat_kind (T := .type "int") h1 (by omega) (fun f hm => ?_) (by rfl) ?_
     · obtain ⟨k, hk, hb⟩ := h3 f hm
       cases k with
       | inl i => obtain ⟨t, rfl⟩ := hk; exact PySem.W.Looks.now
       | inr x => cases hb
     · have e : (Value.type "int" != Value.type "tuple") = true := by first | decide +kernel | rfl | decide
       rw [e]
       exact hq
   | false =>
     refine PySem.W.kat_kind (T := .type "str") h1 (by omega) (fun f hm => ?_) (by rfl) ?_
     · obtain ⟨k, hk, hb⟩ := h3 f hm
       cases k with
       | inl i => cases hb
       | inr x => obtain ⟨t, rfl⟩ := hk; exact PySem.W.Looks.now
     · have e : (Value.type "str" != Value.type "tuple") = true := by first | decide +kernel | rfl | decide
       rw [e]
       exact hq
 · have c := rw_cmp (prog := prog) (w := w) (A := A) (s := { s with heap := h' }) hp'
   intro p q hm hm'
   have e := c p q hm hm'
   obtain ⟨r, q1, _⟩ := hp _ hm
   obtain ⟨t, q2, _⟩ := hp _ hm'
   refine wpAny_mono e (fun b s' hb => ⟨hb.1, hb.2.trans ?_⟩) fun _ _ z => z
   show rwLt (rwAt h' p.1) (rwAt h' q.1) = rwLt (rwAt s.heap p.1) (rwAt s.heap q.1)
   rw [(kp q1).at_, (kp q2).at_, q1.at_, q2.at_]
end
def rSortR (K : PySem.W.Frag) : List V → Hp → VK → Prop := fun vs H Q => ∃ (a : Addr) (ys : List V) (k : V → List Ky) (b : Bool) (sh : List Bool), vs = [V.ref a] ∧ SqL K H a ys ∧ (∀ y ∈ ys, ∃ t, y = V.ref t ∧ H t = some (.tup ((k y).map kV)) ∧ shp (k y) = b :: sh) ∧
 ∀ (zs : List V) (p : Addr), zs.Perm ys → zs.Pairwise (fun x y => rwLt (k y) (k x) = false) → H p = none → Q (.ref p) (upd H p (.lst zs))
section
variable {X : Cx}
theorem rw_of {P : Program} {w : World} {H : Hp} {h : Heap} {q : Addr} {r : List Ky} (ok : HOk P w H h) (e : H q = some (.tup (r.map kV))) : IsRw h (.ref q) r := by
 obtain ⟨_, its, rv, o, ho, hc, n, hd⟩ := (show ObjOk P w H h q (.tup (r.map kV)) from ok q _ e)
 exact ⟨q, o, its.toArray, n, rfl, ho, hc, hd, by simpa using keys_of rv⟩
theorem vals_back : ∀ {us : List Value}, (∀ u ∈ us, ∃ a, u = Value.ref a) → Vals (us.map backV) us
 | [], _ => .nil
 | u :: us, h => by
   obtain ⟨a, rfl⟩ := h u List.mem_cons_self
   exact .cons rfl (vals_back fun x hx => h x (List.mem_cons_of_mem _ hx))
theorem call_sortR : CallR X (.builtin "sorted") (rSortR X.K) := by
 intro pins s σ H vs us Q I r h
 obtain ⟨a, ys, k, b, sh, rfl, hs, hy, q⟩ := h
 obtain ⟨its, rv, hl, hz⟩ := I.list hs
 rw [Vals.ref1 r]
 obtain ⟨e1, e2⟩ := refs_back rv fun x m => by
   obtain ⟨t, e, _⟩ := hy x m
   exact ⟨t, e⟩
 have hp : ∀ v ∈ its, IsRw s.heap v (k (backV v)) ∧ shp (k (backV v)) = b :: sh := fun v hv => by
   have hm : backV v ∈ ys := by rw [e1]; exact List.mem_map.mpr ⟨v, hv, rfl⟩
   obtain ⟨t, e, ht, es⟩ := hy _ hm
   obtain ⟨t', rfl⟩ := e2 v hv
   have : backV (Value.ref t') = V.ref t' := rfl
   rw [this] at e ht es ⊢
   cases e
   exact ⟨rw_of I.hok ht, es⟩
 have O : SrtO.Swo fun v u : Value => rwLt (k (backV v)) (k (backV u)) := ⟨fun x y h => rwLt_asym _ _ h, fun x y z h1 h2 => rwLt_tr _ _ _ h1 h2⟩
 refine SrtO.sorted_ord O hl.isList (by rw [← rv.length]; exact hz) (fun h2 h₁ a' hob kp => ?_) fun out h1 h2 => ?_
 · have hp1 : ∀ v ∈ its, IsRw h₁ v (k (backV v)) := fun v hv => (hp v hv).1.keeps fun b o e _ => (kp b o e).2
   have S := rws_sortable (prog := X.prog) (w := X.w) (A := X.A.in1.in1) (s := { s with heap := h₁ }) (a := a') (vs := its) (b := b) (sh := sh) (by omega) (fun v hv => ⟨_, hp1 v hv, (hp v hv).2⟩) fun o e => by
     have e' : some o = some (seqObj "list" its.toArray 0) := e.symm.trans hob
     cases e'
     intro c
     exact absurd (Value.type.inj c) (by decide)
   intro h' keep
   obtain ⟨kd, g1, g2⟩ := S h' keep
   refine ⟨kd, g1, fun p q' hm hm' => wpAny_mono (g2 p q' hm hm') (fun b s' hb => ⟨hb.1, hb.2.trans ?_⟩) fun _ _ z => z⟩
   show rwLt (rwAt h₁ p.1) (rwAt h₁ q'.1) = rwLt (k (backV p.1)) (k (backV q'.1))
   rw [(hp1 _ hm).at_, (hp1 _ hm').at_]
 · have h3 : ∀ u ∈ out, ∃ a, u = Value.ref a := fun u hu => e2 u (h2.perm.mem_iff.mp hu)
   obtain ⟨ep, he'⟩ := PyProof.Rows.sortedAll_at s.heap its out.toArray
   have pm : (out.map backV).Perm ys := by
     rw [e1]
     exact h2.perm.map _
   have hlen : (out.map backV).length ≤ sizeLine := by rw [pm.length_eq]; exact hz
   exact ⟨.ref _, upd H (s.heap.objs.size + 1) (.lst (out.map backV)), I.laid (t' := s.toks) (fun _ _ => PyProof.Rows.sortedAll_old) (Nat.le_succ _) ⟨hlen, out, ep, vals_back h3, he'⟩, rfl, q _ _ pm (List.pairwise_map.mpr h1) (I.hok.fresh (Nat.le_succ _))⟩
theorem call_lenDR : CallR X (.builtin "len") (fun xs H Q => ∃ a kvs, xs = [V.ref a] ∧ Rd H a (.dK kvs) ∧ Q (.int kvs.length) H) := by
 intro pins s σ H xs us Q I r h
 obtain ⟨a, kvs, rfl, ha, q⟩ := h
 obtain ⟨u, rfl, ru⟩ := vals1 r
 cases ru
 exact d_len I ha fun t s' I' => ⟨.int kvs.length, H, I', ⟨t, rfl⟩, q⟩
theorem call_lenTR : CallR X (.builtin "len") (fun xs H Q => ∃ (p : Addr) (kvs : List (List L2.Key × V)), xs = [.ref p] ∧ Rd H p (.dT kvs) ∧ Q (.int ((kvs.length : Nat) : Int)) H) := by
 intro pins s σ H xs us Q I r h
 obtain ⟨p, kvs, rfl, hp, q⟩ := h
 obtain ⟨u, rfl, rx⟩ := vals1 r
 obtain rfl : u = .ref p := rx
 obtain ⟨z, hd, ys, rel, dd⟩ := dt_rd I.hok hp
 have hl : kvs.length = ys.length := Paired.length rel
 refine call_len_dictH hd dd (by rw [← hl]; rw [sizeLine_eq] at z; omega) ?_
 rw [← hl]
 exact ⟨.int ((kvs.length : Nat) : Int), H, I.tok _, ⟨_, rfl⟩, q⟩
def rDClr : V → List V → Hp → VK → Prop := fun x vs H Q => ∃ (l : Addr) (kvs : List (L2.Key × V)), x = .ref l ∧ vs = [] ∧ H l = some (.dK kvs) ∧ Q .non (upd H l (.dK []))
theorem mt_dclr : MtR X "dict.clear" rDClr := by
 intro pins s σ H x vs v us Q I rx rv h
 obtain ⟨l, kvs, rfl, rfl, hH, q⟩ := h
 cases rx
 have hus := rv.zero
 subst hus
 exact d_clear I hH fun s' I' => ⟨.non, _, I', rfl, q⟩
def rEqDR : R2 := fun x y H Q => ∃ a b ks ls, x = .ref a ∧ y = .ref b ∧ Rd H a (.dK ks) ∧ Rd H b (.dK ls) ∧ ks.length = ls.length ∧ (∀ p ∈ ks, valV ls p.1 = some p.2 ∧ flatB p.2 = true) ∧ Q (.bl true) H
theorem op_eq_dictR (hu : X.A.units < cLine) : OpR X (compareOp .Eq) rEqDR := by
 intro pins s σ H x y v u Q I rx ry h
 obtain ⟨a, b, ks, ls, rfl, rfl, ea, eb, hlen, hp, q⟩ := h
 obtain rfl : v = Value.ref a := rx
 obtain rfl : u = Value.ref b := ry
 obtain ⟨_, ya, va, ra, da⟩ := dk_rd I.hok ea
 obtain ⟨_, yb, vb, rb, db⟩ := dk_rd I.hok eb
 have hl : va.length = vb.length := by rw [← ra.length, ← rb.length]; exact hlen
 exact PySem.W.keq_eq (knd := mixKind X.prog X.w) (r := true) ya yb da db hu (fun _ => hits_all rb ra hp) (fin_bl I q (by simp [hl]))
end
end QS
namespace Q
open PySem L2 PySem.Spec
abbrev Frag := PySem.W.Frag

structure Kc where
 K : Frag
 cl : Nat → Addr
 gl : Nat → V
 ex : Option (Nat × Addr × Option Addr)
structure Row where
 ar : Nat
 dfl : List V
 sp : Kc → Sp
structure Tb where
 f : Nat → Row
 mt : Nat → Str → Nat
 ini : Nat → Nat
 sub : Nat → Nat → Bool

inductive Blt where
 | len | abs | sum | sorted | list | int | str | max | min | any | all | dict | tuple | listH
 deriving DecidableEq
inductive Bm where
 | lApp | lExt | lIns | lPop | lPopAt | lClr | lIdx | lCnt | sSplit | sFind | sCnt | dClr
 deriving DecidableEq
inductive E where
 | var (i : Nat) | int (n : Int) | str (s : Str) | bl (b : Bool) | non | glo (n : Nat)
 | bin (o : Operator) (a b : E) | neg (a : E)
 | cmp (o : CmpOp) (a b : E) | chn (o p : CmpOp) (a b c : E)
 | nt (a : E) | and (es : E) | or (es : E)
 | ife (c a b : E)
 | tup (es : E) | lst (es : E) | nil | cons (e es : E)
 | ix (a i : E) | sl (a lo hi : E)
 | call (i : Nat) (es : E) | callH (i : Nat) (es : E)
 | blt (f : Blt) (es : E)
 | isi (a : E) (t : String)
 | isC (a : E) (n m : Nat) (b : Bool)
 | dd0 (a : E) (ks : List Int) (z : Int)
 | att (a : E) (f : Str)
 | mth (cs : List Nat) (a : E) (m : Str) (es : E) | mthH (cs : List Nat) (a : E) (m : Str) (es : E)
 | mk (c : Nat) (es : E) | binit (i : Nat) (es : E)
 | bm (m : Bm) (a : E) (es : E)
 | join (s : Str) (e : E)
 | dct | dtt
 | dget (d k z : E) | dsetd (d k z : E) | dpop (d k : E) | ditm (d : E) | dvl (d : E)
 | lrev (e : E) | sset (e : E)
 | lc (js : List Nat) (it : E) (c : E) (e : E)
 | iL (e : E) | iT (e : E) | iR1 (a : E) | iR2 (a b : E) | iR3 (a b c : E) | iEn (e : E) | iZp (a b : E) | iIt (e : E) | iDv (e : E) | iDk (e : E) | iSt (e : E) | iRv (e : E)
 | isx (i : Nat) (c : Nat) | isxs (i : Nat) (cs : List Nat) | isv (i : Nat) | exf (i : Nat) (f : Str)

def divOk (j : Int) : Bool := decide (j ≠ 0) && decide (j.natAbs.log2 < 9000)
abbrev rOr (r r' : R2) : R2 := fun x y H Q => r x y H Q ∨ r' x y H Q
theorem OpR.or {X : Cx} {f : Value → Value → Sem Value} {r r' : R2} (h : OpR X f r) (h' : OpR X f r') : OpR X f (rOr r r') := fun pins s σ H x y v u Q I rx ry q => q.elim (h pins s σ H x y v u Q I rx ry) (h' pins s σ H x y v u Q I rx ry)
def rCatL (K : Frag) : R2 := fun x y H Q => ∃ a b xs ys, x = .ref a ∧ y = .ref b ∧ SqL K H a xs ∧ SqL K H b ys ∧ xs.length + ys.length ≤ sizeLine ∧ ∀ p, H p = none → Q (.ref p) (upd H p (.lst (xs ++ ys)))
theorem op_catL {X : Cx} : OpR X (binaryOp .Add) (rCatL X.K) := by
 intro pins s σ H x y v u Q I rx ry h
 obtain ⟨a, b, xs, ys, rfl, rfl, ha, hb, hz, q⟩ := h
 cases rx
 cases ry
 obtain ⟨its, r, p, _⟩ := I.list ha
 obtain ⟨its2, r2, p2, _⟩ := I.list hb
 have e1 := r.length
 have e2 := r2.length
 obtain ⟨⟨cls, dd, data, sl⟩, ho, hc, n, hd⟩ := p.isList
 obtain ⟨⟨cls2, dd2, data2, sl2⟩, ho2, hc2, n2, hd2⟩ := p2.isList
 simp only at hc hd hc2 hd2
 subst hc hd hc2 hd2
 refine PySem.concat_meets ⟨_, ho, rfl⟩ ⟨_, ho2, rfl⟩ PySem.noFill_list_add PySem.seq_list_add PySem.F.slot_list_add PySem.F.entry_list_add (PySem.F.args_list_add_2 _ _) (PyProof.Rows.list_addW a b its.toArray its2.toArray n n2 dd dd2 sl sl2 (by rw [List.size_toArray, List.size_toArray]; omega)) ⟨ho, ho2, ?_⟩
 have ea : its.toArray ++ its2.toArray = (its ++ its2).toArray := by simp
 rw [ea]
 exact ⟨.ref _, _, I.lnew (t' := s.toks) (r.append r2) (by rw [List.length_append]; omega), rfl, q _ I.fresh⟩
def rBin (K : Frag) : Operator → R2
 | .Add => rOr (rI0 fun i j => .int (i + j)) (rOr (fun x y H Q => ∃ i j, x = .str i ∧ y = .str j ∧ i.length + j.length ≤ sizeLine ∧ Q (.str (i ++ j)) H) (rOr rCat (rOr (rCatA K) (rCatL K))))
 | .Sub => rI0 fun i j => .int (i - j)
 | .Mult => rOr (rI CMulX fun i j => .int (i * j)) rRep
 | .FloorDiv => rI (fun _ j => divOk j = true) fun i j => .int (i.fdiv j)
 | .Mod => rI (fun _ j => j ≠ 0) fun i j => .int (i.fmod j)
 | .Pow => rI CPow fun i j => .int (i ^ j.toNat)
 | _ => fun _ _ _ _ => False
def rDIn (neg : Bool) : R2 := fun x y H Q => ∃ a o, y = .ref a ∧ DGet H a x o ∧ Q (.bl (if neg then !o.isSome else o.isSome)) H
def rCmp (K : Frag) : CmpOp → R2
 | .Eq => rOr (rEqD K) QS.rEqDR
 | .NotEq => rOr (rNeD K) rNeDA
 | .Lt => rI0 fun i j => .bl (decide (i < j))
 | .LtE => rI0 fun i j => .bl (decide (i ≤ j))
 | .Gt => rI0 fun i j => .bl (decide (j < i))
 | .GtE => rI0 fun i j => .bl (decide (j ≤ i))
 | .Is => fun x y H Q => y = .non ∧ Q (.bl (decide (x = .non))) H
 | .IsNot => fun x y H Q => y = .non ∧ Q (.bl (!decide (x = .non))) H
 | .In => rOr (rIn K false) (rOr (rInD K) (rOr (rDIn false) fun x y H Q => ∃ (c : Nat) (z : Str), x = .str ⟨#[c]⟩ ∧ y = .str z ∧ Q (.bl (decide (c ∈ z.cps.toList))) H))
 | .NotIn => rOr (rIn K true) (rOr (rNotInD K) (rOr (rDIn true) fun x y H Q => ∃ (c : Nat) (z : Str), x = .str ⟨#[c]⟩ ∧ y = .str z ∧ Q (.bl (!decide (c ∈ z.cps.toList))) H))
abbrev RCall := List V → Hp → VK → Prop
abbrev cOr (r r' : RCall) : RCall := fun xs H Q => r xs H Q ∨ r' xs H Q
theorem CallR.cor {X : Cx} {f : Value} {r r' : RCall} (h : CallR X f r) (h' : CallR X f r') : CallR X f (cOr r r') := fun pins s σ H vs us Q I r q => q.elim (h pins s σ H vs us Q I r) (h' pins s σ H vs us Q I r)
def rBlt (K : Frag) : Blt → RCall
 | .len => cOr (fun xs H Q => ∃ x n, xs = [x] ∧ LenV K x H n ∧ Q (.int n) H) (cOr (fun xs H Q => ∃ a kvs, xs = [V.ref a] ∧ Rd H a (.dK kvs) ∧ Q (.int kvs.length) H) (fun xs H Q => ∃ (p : Addr) (kvs : List (List L2.Key × V)), xs = [.ref p] ∧ Rd H p (.dT kvs) ∧ Q (.int ((kvs.length : Nat) : Int)) H))
 | .abs => fun xs H Q => ∃ i, xs = [.int i] ∧ Q (.int (if i < 0 then -i else i)) H
 | .sum => rSum K
 | .sorted => cOr (cOr (rSortedI K) (rSortedS K)) (cOr
     (fun xs H Q => ∃ (a : Addr) (kvs : List (Key × V)) (ks : List Str), xs = [.ref a] ∧ Rd H a (.dK kvs) ∧ kvs.map (·.1) = ks.map Sum.inr ∧ ks.length < 64 ∧ ∀ ys p, ys.Perm ks → PyProof.Rows.sortedS ys = true → H p = none → Q (.ref p) (upd H p (.lst (ys.map V.str))))
     (cOr (fun xs H Q => ∃ (a : Addr) (kvs : List (Key × V)) (ks : List Int), xs = [.ref a] ∧ Rd H a (.dK kvs) ∧ kvs.map (·.1) = ks.map Sum.inl ∧ ks.length < 64 ∧ ∀ (ys : List Int) (p : Addr), ys.Perm ks → ys.Pairwise (· ≤ ·) → H p = none → Q (.ref p) (upd H p (.lst (ys.map V.int)))) (cOr QR.rSortT (QS.rSortR K))))
 | .list => cOr (fun xs H Q => ∃ p ys, xs = [.ref p] ∧ (SqL K H p ys ∨ SqT K H p ys) ∧ ∀ l, H l = none → Q (.ref l) (upd H l (.lst ys)))
     (fun xs H Q => ∃ (a : Addr) (kvs : List (Key × V)), xs = [.ref a] ∧ Rd H a (.dK kvs) ∧ ∀ p, H p = none → Q (.ref p) (upd H p (.lst (kvs.map fun kv => kV kv.1))))
 | .int => cOr (fun xs H Q => (∃ i, xs = [.int i] ∧ Q (.int i) H) ∨ ∃ k, xs = [.bl k] ∧ Q (.int (if k then 1 else 0)) H) (fun xs H Q => ∃ a n, xs = [.str a] ∧ PySem.intText? a = some n ∧ a.length ≤ 640 ∧ Q (.int n) H)
 | .str => cOr (fun xs H Q => ∃ i, xs = [.int i] ∧ i.natAbs.log2 < 1920 ∧ Q (.str (toString i)) H) (fun xs H Q => ∃ a, xs = [.str a] ∧ Q (.str a) H)
 | .max => cOr (fun xs H Q => ∃ i j, xs = [.int i, .int j] ∧ Q (.int (if j > i then j else i)) H) (rMax K)
 | .min => cOr (fun xs H Q => ∃ i j, xs = [.int i, .int j] ∧ Q (.int (if j < i then j else i)) H) (rMin K)
 | .any => rAny K
 | .all => rAll K
 | .dict => cOr (fun xs H Q => ∃ (a : Addr) (kvs : List (Key × V)), xs = [.ref a] ∧ Rd H a (.dK kvs) ∧ ∀ p, H p = none → Q (.ref p) (upd H p (.dK kvs)))
     (fun xs H Q => ∃ (a : Addr) (ps : List Addr) (kvs : List (Key × V)), xs = [.ref a] ∧ SqL K H a (ps.map V.ref) ∧ Paired (fun p kv => SqT K H p [kV kv.1, kv.2]) ps kvs ∧ ∀ p, H p = none → Q (.ref p) (upd H p (.dK (mergeK [] kvs))))
 | .listH => fun xs H Q => ∃ p ys, xs = [.ref p] ∧ (SqL K H p ys ∨ SqT K H p ys) ∧ ∀ l, H l = none → Q (.ref l) (upd H l (.lst ys))
 | .tuple => fun xs H Q => ∃ p ys, xs = [.ref p] ∧ ((SqL K H p ys ∧ ∀ l, H l = none → Q (.ref l) (upd H l (.tup ys))) ∨ (SqT K H p ys ∧ Q (.ref p) H))
def bltV : Blt → Value
 | .len => .builtin "len" | .abs => .builtin "abs" | .sum => .builtin "sum" | .sorted => .builtin "sorted" | .list => .type "list" | .int => .type "int" | .str => .type "str" | .max => .builtin "max" | .min => .builtin "min"
 | .any => .builtin "any" | .all => .builtin "all" | .dict => .type "dict" | .tuple => .type "tuple" | .listH => .type "list"
def bltS : Blt → Str
 | .len => "len" | .abs => "abs" | .sum => "sum" | .sorted => "sorted" | .list => "list" | .int => "int" | .str => "str" | .max => "max" | .min => "min" | .any => "any" | .all => "all" | .dict => "dict" | .tuple => "tuple" | .listH => "list"
def bltHot : Blt → Bool
 | .len => true | .abs => true | .int => true | .str => true | .tuple => true | .listH => true
 | _ => false
theorem call_blt {X : Cx} (hc : X.calm = true) (f : Blt) : CallR X (bltV f) (rBlt X.K f) := by
 cases f with
 | len => exact CallR.cor call_len (CallR.cor QS.call_lenDR QS.call_lenTR)
 | abs => exact call_abs
 | sum => exact cr_sum hc
 | sorted => exact CallR.cor (CallR.cor cr_sortedI cr_sortedS) (CallR.cor (call_sortedD hc) (CallR.cor (call_sortedDI hc) (CallR.cor (QR.call_sortT hc) QS.call_sortR)))
 | list => exact CallR.cor call_list_of (call_listD hc)
 | int => exact CallR.cor call_int1 call_int_str
 | str => exact CallR.cor call_str_int SkE.call_str_str
 | max => exact CallR.cor (call_max2 hc) (cr_max hc)
 | min => exact CallR.cor (call_min2 hc) (cr_min hc)
 | any => exact cr_any hc
 | all => exact cr_all hc
 | dict => exact CallR.cor call_dictD (call_dictP hc)
 | tuple => exact call_tuple_of
 | listH => exact call_list_of
theorem call_bltH {X : Cx} {f : Blt} (h : bltHot f = true) : CallR X (bltV f) (rBlt X.K f) := by
 cases f <;> first | (cases h; done) | skip
 · exact CallR.cor call_len (CallR.cor QS.call_lenDR QS.call_lenTR)
 · exact call_abs
 · exact CallR.cor call_int1 call_int_str
 · exact CallR.cor call_str_int SkE.call_str_str
 · exact call_tuple_of
 · exact call_list_of
theorem op_fdivW2 {X : Cx} : OpR X (binaryOp .FloorDiv) (rI (fun _ j => divOk j = true) fun i j => .int (i.fdiv j)) := opI fun i j _ _ _ _ _ hc q => by
 unfold divOk at hc
 simp only [Bool.and_eq_true, decide_eq_true_eq] at hc
 exact PyProof.Rows.floordiv_int hc.1 q (.inl (PyProof.noPylong_of_log2 hc.2))
theorem op_bin {X : Cx} {o : Operator} (ho : o = .Add ∨ o = .Sub ∨ o = .Mult ∨ o = .FloorDiv ∨ o = .Mod ∨ o = .Pow) : OpR X (binaryOp o) (rBin X.K o) := by
 rcases ho with rfl | rfl | rfl | rfl | rfl | rfl
 · exact OpR.or op_add (OpR.or op_add_str (OpR.or op_cat (OpR.or op_catA op_catL)))
 · exact op_sub
 · exact OpR.or op_mulX op_rep
 · exact op_fdivW2
 · exact op_modN
 · exact op_pow
theorem op_din {X : Cx} (hu : X.A.units + 1 < cLine) : OpR X (compareOp .In) (rDIn false) := by
 intro pins s σ H x y v u Q I rx ry h
 obtain ⟨a, o, e, g, q⟩ := h
 subst e
 obtain rfl : u = Value.ref a := ry
 exact d_in hu I g rx fun s' I' => ⟨.bl o.isSome, H, I', rfl, q⟩
theorem op_dnotin {X : Cx} (hu : X.A.units + 1 < cLine) : OpR X (compareOp .NotIn) (rDIn true) := by
 intro pins s σ H x y v u Q I rx ry h
 obtain ⟨a, o, e, g, q⟩ := h
 subst e
 obtain rfl : u = Value.ref a := ry
 exact d_notIn hu I g rx fun s' I' => ⟨.bl (!o.isSome), H, I', rfl, q⟩
theorem op_cmp {X : Cx} (hu : X.A.units + 65 < cLine) (o : CmpOp) : OpR X (compareOp o) (rCmp X.K o) := by
 have h64 : X.A.units + 64 < cLine := by omega
 have h1 : X.A.units + 1 < cLine := by omega
 have h0 : X.A.units < cLine := by omega
 cases o with
 | Eq => exact OpR.or (op_eqD h64) (QS.op_eq_dictR h0)
 | NotEq => exact OpR.or (op_neD h64) (op_ne_dictA h0)
 | Lt => exact op_lt
 | LtE => exact op_le
 | Gt => exact op_gt
 | GtE => exact op_ge
 | Is => exact op_isN
 | IsNot => exact op_notN
 | In => exact OpR.or op_in_seq (OpR.or (op_inD hu) (OpR.or (op_din h1) op_in_sign))
 | NotIn => exact OpR.or op_notIn_seq (OpR.or (op_notInD hu) (OpR.or (op_dnotin h1) op_notIn_sign))
end Q
namespace Q
open PySem PySem.Spec PyProof.Rows L2
section
variable {prog : Program} {w : World} {A : Around} {E : Value → Shared → Prop} {s : Shared}
theorem initRev {R : Result → Shared → Prop} {it l S : Addr} {items : Array Value} (hh : A.handled = none) (hit : s.heap.IsRevIter it l ((items.size : Int) - 1)) (hl : s.heap.IsList l items) (hne : l ≠ it) (hn : items.size ≤ sizeLine)
   (hS : s.heap.get? S = some { cls := .type "list", data := .seq #[] }) (hSi : S ≠ it) (hSl : S ≠ l)
   (hR : ∀ (h' : Heap) (tk : Nat) (acc : Array Value) (c : Nat), (∀ b o, b ≠ S → b ≠ it → s.heap.get? b = some o → h'.get? b = some o) → h'.get? S = some { cls := .type "list", dict := none, data := .seq acc c, slots := #[] } →
     ItemsOf (fun i v => items[items.size - 1 - i]? = some v) acc items.size → R (.ok (.ret .none)) { s with heap := h', toks := tk }) :
   wpAny (model prog w) A.in1 (Builtin.«list.__init__» ⟨[.ref S, .ref it], []⟩)
     (fun fin s' => match fin with | .done f => R (.ok f) s' | .again c' => c'.quiet = true ∧ codeAny (model prog w) A c' R s') (fun e s' => R (.error e) s') s := by
 have W := (Walks.listRev (prog := prog) (w := w) (A := A.in1) hh it l hne items).toS
 have hSf : S ∉ [it, l] := fun z => by
   rcases List.mem_cons.mp z with z | z
   · exact hSi z
   · exact hSl (List.mem_singleton.mp z)
 have oth : ∀ b o, b ≠ S → s.heap.get? b = some o → (s.heap.update S (Obj.mapSeq (fun _ => (#[] : Array Value)))).get? b = some o := fun b o hb e => by
   rw [Heap.get?_update_other _ _ (Ne.symm hb)]; exact e
 have hS2 := Heap.get?_update_self (Obj.mapSeq (fun _ => (#[] : Array Value))) hS rfl
 have hit1 : (s.heap.update S (Obj.mapSeq (fun _ => (#[] : Array Value)))).IsRevIter it l ((items.size : Int) - 1) := hit.at fun o e => oth it o (Ne.symm hSi) e
 have hl1 : (s.heap.update S (Obj.mapSeq (fun _ => (#[] : Array Value)))).IsList l items := by
   obtain ⟨o, ho, r⟩ := hl; exact ⟨o, oth l o (Ne.symm hSl) ho, r⟩
 have hT : ({ s with heap := s.heap.update S (Obj.mapSeq (fun _ => (#[] : Array Value))) } : Shared).TypeIs (.ref it) "list_reverseiterator" := Heap.IsRevIter.typeIs (s := { s with heap := s.heap.update S (Obj.mapSeq (fun _ => (#[] : Array Value))) }) hit1
 have h1 : Builtin.List.listSameRef (.ref S) (.ref it) = false := by unfold Builtin.List.listSameRef; simp [hSi]
 show wpAny _ _ (do let old ← Builtin.List.listItems (.ref S); Builtin.List.listUpdate (.ref S) (fun _ => #[]); letGo old.toList.reverse; Builtin.List.listExtendWith (.ref S) (.ref it) .none) _ _ s
 refine wpAny_bind ?_; unfold Builtin.List.listItems; refine wpAny_bind (wpAny_seqItems hS rfl (wpAny_pure ?_))
 show wpAny _ _ (updateSeq S (fun _ => #[]) >>= fun _ => letGo (#[] : Array Value).toList.reverse >>= fun _ => Builtin.List.listExtendWith (.ref S) (.ref it) .none) _ _ s
 refine wpAny_bind (wpAny_updateSeq hS rfl ?_); refine wpAny_bind (wpAny_letGo ?_)
 unfold Builtin.List.listExtendWith; refine wpAny_bind (wpAny_typeOf hT ?_); rw [if_neg (by rw [h1]; decide)]
 refine wpAny_bind (wpAny_pyIter_revIter (s := { s with heap := s.heap.update S (Obj.mapSeq (fun _ => (#[] : Array Value))) }) hit1 ?_); refine wpAny_bind (wpAny_holding ?_)
 unfold Builtin.List.listLengthHint; refine wpAny_bind (wpAny_specialOf hT RT.nolen_lri ?_)
 show wpAny _ A.in1 (specialOf (Value.ref it) (Str.ofString "__length_hint__") >>= _) _ _ _; refine wpAny_bind (wpAny_specialOf hT RT.hint_lri ?_)
 generalize hid : ("list_reverseiterator.__length_hint__" : String) = id0; wp_delta; rw [show splitId id0 = some ("list_reverseiterator", "__length_hint__") from by subst hid; decide +kernel]; subst hid
 refine wpAny_bind (wpAny_isInstance (b := true) hT (by rw [isSubtype_type]; kernel_rfl) ?_); refine wpAny_pure ?_; rw [if_neg (by decide)]
 have e0 : ((items.size : Nat) : Int) - 1 - ((0 : Nat) : Int) = (items.size : Int) - 1 := by simp
 refine wpAny_pure ⟨plainId_quiet F.plain_extend_loop _, codeAny_extend_loopS W hn S hSf .none items.size 0 _ #[] _ rfl (Nat.zero_le _) ⟨Nat.zero_le _, by rw [e0]; exact hit1, hl1⟩ hS2 (ItemsOf.nil _) fun s' acc' c' hm hS' hacc => ?_⟩
 rw [Moved.eq_with hm]
 refine hR s'.heap s'.toks acc' c' (fun b o hb hb2 e => hm.heap b o (fun hmem => ?_) (oth b o hb e)) hS' hacc
 rcases List.mem_cons.mp hmem with z | z
 · exact hb z
 · exact hb2 (List.mem_singleton.mp z)
theorem callListRev {it l : Addr} {items : Array Value} {Q : Value → Shared → Prop} (hh : A.handled = none) (hit : s.heap.IsRevIter it l ((items.size : Int) - 1)) (hl : s.heap.IsList l items) (hne : l ≠ it) (hn : items.size ≤ sizeLine)
   (hQ : ∀ (h' : Heap) (tk : Nat) (acc : Array Value) (c : Nat), (∀ b o, b ≠ it → s.heap.get? b = some o → h'.get? b = some o) → h'.get? s.heap.objs.size = some { cls := .type "list", dict := none, data := .seq acc c, slots := #[] } →
     ItemsOf (fun i v => items[items.size - 1 - i]? = some v) acc items.size → Q (.ref s.heap.objs.size) { s with heap := h', toks := tk }) :
   wpAny (model prog w) A (call (.type "list") [.ref it]) Q E s := by
 obtain ⟨oi, hoi, _⟩ := id hit
 obtain ⟨ol, hol, _⟩ := id hl
 refine callType_codes (Q₁ := fun obj s₁ => obj = .ref s.heap.objs.size ∧ s₁ = { s with heap := s.heap.push { cls := .type "list", data := .seq #[] } }) F.called_list (F.typeCall_list_1 _) F.entry_list_init (code_list_new _ ⟨rfl, rfl⟩) fun obj s₁ h₁ => ?_
 obtain ⟨rfl, rfl⟩ := h₁
 have hS : (s.heap.push { cls := .type "list", data := .seq #[] }).get? s.heap.objs.size = some { cls := .type "list", data := .seq #[] } := Heap.get?_push_size _ rfl
 refine ⟨⟨_, hS, rfl⟩, F.args_list_init_2 _ _, initRev (s := { s with heap := s.heap.push { cls := .type "list", data := .seq #[] } }) hh (hit.at fun o e => Heap.get?_push_of_some _ e) (hl.push _) hne hn hS (Nat.ne_of_gt (Heap.lt_size hoi)) (Nat.ne_of_gt (Heap.lt_size hol)) fun h' tk acc c hk hS' hacc => ⟨rfl, hQ h' tk acc c (fun b o hb e => ?_) hS' hacc⟩⟩
 exact hk b o (Nat.ne_of_lt (Heap.lt_size e)) hb (Heap.get?_push_of_some _ e)
end
def tLstRev (K : PySem.W.Frag) (te : TE) : TE := fun σ H Q => te σ H fun v H1 => ∃ (a : Addr) (xs : List V), v = .ref a ∧ SqL K H1 a xs ∧ ∀ q, H1 q = none → Q (.ref q) (upd H1 q (.lst xs.reverse))
theorem pe_lstRev {X : Cx} {e : Expr} {te : TE} {p p2 pos pos2 : Pos} (hc : X.calm = true) (hg : Gl X "list") (hm : X.mg "list" = none) (hg2 : Gl X "reversed") (hm2 : X.mg "reversed" = none) (he : PE X e te) (hb : bootBuiltins "list" = some (.type "list"))
   (hs : starEach [e] X.env = (false, eval e X.env) :: starEach [] X.env) : PE X (.Call (.Name "list" p) [.Call (.Name "reversed" p2) [e] [] pos2] [] pos) (tLstRev X.K te) := by
 have hs2 : starEach [.Call (.Name "reversed" p2) [e] [] pos2] X.env = (false, eval (.Call (.Name "reversed" p2) [e] [] pos2) X.env) :: starEach [] X.env := rfl
 refine ⟨fun pins s σ H Q I h => Call_ (ld_blt I hg hm hb (PyProof.Rows.callWith_type1 (args_cons (Call_ (ld_blt I hg2 hm2 PyProof.Rows.boot_reversed (PyProof.Rows.callWith_type1 (args_cons (thn (he.run pins s σ H _ I h) fun u s1 ⟨v, H1, I1, r1, q1⟩ => args_nil ?_) hs) hs rfl))) hs2) hs2 rfl))⟩
 obtain ⟨a, xs, rfl, hq, q⟩ := q1
 cases r1
 obtain ⟨its, rv, p', hz⟩ := I1.list hq
 refine call_reversed_list p'.isList (args_nil ?_)
 have hlist := p'.isList
 obtain ⟨ol, hol, _⟩ := id hlist
 have hn : its.toArray.size ≤ sizeLine := by rw [List.size_toArray]; rw [← rv.length]; exact hz
 refine callListRev (s := { s1 with heap := s1.heap.push (revObj a ((its.toArray.size : Int) - 1)) }) (I1.ok.hd hc) ⟨_, Heap.get?_push_size _ rfl, rfl, rfl⟩ (hlist.push _) (Nat.ne_of_lt (Heap.lt_size hol)) hn fun h' tk acc c hk hS hi => ?_
 have hsz : s1.heap.objs.size ≤ (s1.heap.push (revObj a ((its.toArray.size : Int) - 1))).objs.size := by unfold Heap.push; simp
 have k : ∀ b u, s1.heap.get? b = some u → h'.get? b = some u := fun b u e => hk b u (Nat.ne_of_lt (Heap.lt_size e)) (Heap.get?_push_of_some _ e)
 refine ⟨.ref (s1.heap.push (revObj a ((its.toArray.size : Int) - 1))).objs.size, upd H1 _ (.lst xs.reverse), I1.laid (t' := tk) k hsz ⟨by rw [List.length_reverse]; exact hz, acc.toList, c, RT.vals_rev rv hi, ?_⟩, rfl, q _ (I1.hok.fresh hsz)⟩
 rw [Array.toArray_toList]; exact hS
end Q
namespace Q
open PySem PySem.Spec PyProof.Rows L2 L2H HotX
section
variable {prog : Program} {w : World} {A : Around} {E : Value → Shared → Prop} {s : Shared}
theorem stop_hot {α : Type} {x1 : Addr} {Q : α → Shared → Prop} (hot : HotAt A x1 s.heap) (hE : ∀ a h', (∀ b o, s.heap.get? b = some o → h'.get? b = some o) → (∃ ob, h'.get? a = some ob ∧ ob.cls = .type "StopIteration") → E (.ref a) { s with heap := h' }) :
   wpAny (model prog w) A (newExc (.type "StopIteration") [] >>= fun e => (raiseNew e : Sem α)) Q E s := by
 obtain ⟨hh, o1, vs1, k1, d1, c1⟩ := hot
 refine wpAny_bind ?_
 simp only [newExc, newTuple]
 refine wpAny_bind (wpAny_newObj_type ?_ (by size_fits)); refine wpAny_bind (m := firstArgMember _ _) (wpAny_of_eq (a := Value.none) (by first | rfl | (simp only [firstArgMember]; rfl)) ?_)
 refine wpAny_newObj_type ?_ (by size_fits)
 refine raiseNew_hot ⟨hh, o1, vs1, Heap.get?_push_of_some _ (Heap.get?_push_of_some _ k1), d1, c1⟩ (Nat.ne_of_lt (Heap.lt_size (Heap.get?_push_of_some _ k1))) (Heap.get?_push_size _ rfl) rfl (by first | (simp; done) | (simp; omega) | (simp only [Array.size_append]; simp; omega)) ?_
 refine hE _ _ (fun b o e => ?_) ⟨_, Heap.get?_update_self _ (Heap.get?_push_size _ rfl) rfl, rfl⟩
 rw [Heap.get?_update_other _ _ (Nat.ne_of_gt (Heap.lt_size (Heap.get?_push_of_some _ e)))]; exact Heap.get?_push_of_some _ (Heap.get?_push_of_some _ e)
theorem iter_ne {it x1 : Addr} {ty : String} {x : Str} {t : Tok} {i : Nat} (hot : HotAt A x1 s.heap) (hit : s.heap.IsStrIter it ty x t i) : it ≠ x1 := fun e => by
 obtain ⟨_, o1, vs1, k1, d1, c1⟩ := hot
 obtain ⟨o, ho, hc, hd⟩ := hit
 rw [e, k1] at ho
 cases ho
 rw [d1] at hd
 cases hd
 cases c1
theorem next_end_hotA {it x1 : Addr} {x : Str} {t : Tok} {i : Nat} {Q : Option Value → Shared → Prop} (hot : HotAt A x1 s.heap) (hit : s.heap.IsStrIter it "str_ascii_iterator" x t i) (hx : x.cps[i]? = none)
   (hQ : ∀ h', (∀ b o, b ≠ it → s.heap.get? b = some o → h'.get? b = some o) → Q none { s with heap := h' }) : wpAny (model prog w) A (pyNext (.ref it)) Q E s := by
 have hne := iter_ne hot hit
 obtain ⟨ob, hob, hcl, hda⟩ := id hit
 unfold pyNext
 refine wpAny_bind (wpAny_attempt (wpAny_callSpecial?_slot (name := Str.ofString "__next__") hit.typeIs F.slot_str_ascii_iterator_next (wpAny_call_entry F.slot_str_ascii_iterator_next hit.typeIs F.entry_str_ascii_iterator_next ?_ (F.args_str_ascii_iterator_next_1 _))))
 show wpAny _ _ (field (.ref it) 0 >>= _) _ _ s; refine wpAny_bind (wpAny_field hob hda (x := .str x t) rfl ?_)
 show wpAny _ _ (field (.ref it) 1 >>= _) _ _ s; refine wpAny_bind (wpAny_field hob hda (x := .int i 0) rfl ?_)
 simp only [Int.toNat_natCast, hx]
 refine wpAny_bind (wpAny_rule (wpAny_bind (wpAny_setField hob hda (by simp) (wpAny_bind (wpAny_letGo ?_)))))
 obtain ⟨hh, o1, vs1, k1, d1, c1⟩ := hot
 refine stop_hot (x1 := x1) ⟨hh, o1, vs1, by rw [Heap.get?_update_other _ _ hne]; exact k1, d1, c1⟩ fun a h' k ⟨ob', e', c'⟩ => ?_
 refine wpAny_bind (wpAny_isInstance (T := "StopIteration") (b := true) ⟨_, e', c'⟩ isSubtype_stop (wpAny_pure (hQ _ fun b o hb e => k b o ?_)))
 rw [Heap.get?_update_other _ _ (Ne.symm hb)]; exact e
theorem next_end_hotW {it x1 : Addr} {x : Str} {t : Tok} {i : Nat} {Q : Option Value → Shared → Prop} (hot : HotAt A x1 s.heap) (hit : s.heap.IsStrIter it "str_iterator" x t i) (hx : x.cps[i]? = none)
   (hQ : ∀ h', (∀ b o, b ≠ it → s.heap.get? b = some o → h'.get? b = some o) → Q none { s with heap := h' }) : wpAny (model prog w) A (pyNext (.ref it)) Q E s := by
 have hne := iter_ne hot hit
 obtain ⟨ob, hob, hcl, hda⟩ := id hit
 unfold pyNext
 refine wpAny_bind (wpAny_attempt (wpAny_callSpecial?_slot (name := Str.ofString "__next__") hit.typeIs F.slot_str_iterator_next (wpAny_call_entry F.slot_str_iterator_next hit.typeIs F.entry_str_iterator_next ?_ (F.args_str_iterator_next_1 _))))
 show wpAny _ _ (field (.ref it) 0 >>= _) _ _ s; refine wpAny_bind (wpAny_field hob hda (x := .str x t) rfl ?_)
 show wpAny _ _ (field (.ref it) 1 >>= _) _ _ s; refine wpAny_bind (wpAny_field hob hda (x := .int i 0) rfl ?_)
 simp only [Int.toNat_natCast, hx]
 refine wpAny_bind (wpAny_rule (wpAny_bind (wpAny_setField hob hda (by simp) (wpAny_bind (wpAny_letGo ?_)))))
 obtain ⟨hh, o1, vs1, k1, d1, c1⟩ := hot
 refine stop_hot (x1 := x1) ⟨hh, o1, vs1, by rw [Heap.get?_update_other _ _ hne]; exact k1, d1, c1⟩ fun a h' k ⟨ob', e', c'⟩ => ?_
 refine wpAny_bind (wpAny_isInstance (T := "StopIteration") (b := true) ⟨_, e', c'⟩ isSubtype_stop (wpAny_pure (hQ _ fun b o hb e => k b o ?_)))
 rw [Heap.get?_update_other _ _ (Ne.symm hb)]; exact e
end
theorem turn_strH {P : Program} {w : World} {K : PySem.W.Frag} {tg : Expr} (it : Addr) (x : Str) (t : Tok) (ty : String) (hty : ty = "str_ascii_iterator" ∨ ty = "str_iterator") : L2H.TurnH P w K tg (Its x) [it] it (fun i h => h.IsStrIter it ty x t i) where
 mem := by simp
 obj := fun i h st b hb => by
   obtain rfl : b = it := by simpa using hb
   obtain ⟨o, e, c, d⟩ := st
   exact ⟨o, e, fun v z => by rw [d] at z; cases z⟩
 keep := fun i h h' st k => let ⟨o, ho, r⟩ := st; ⟨o, k it (by simp) o ho, r⟩
 item := by
   intro X hP hw hK hc i pins s σ H E I hf st hg
   subst hP hw hK
   obtain ⟨f0, f1, f2, f3, f4, f5⟩ := hf it (by simp)
   obtain ⟨c, hcx⟩ : ∃ c, x.cps[i]? = some c := ⟨_, Array.getElem?_eq_getElem hg⟩
   have hno : ["enumerate", "zip", "dict_itemiterator", "dict_reverseitemiterator", "odict_iterator", "itertools.zip_longest", "itertools.pairwise"].contains ty = false := by rcases hty with e | e <;> (rw [e]; decide)
   have fin : ∀ h' : Heap, h'.IsStrIter it ty x t (i + 1) → Heap.SameBut it s.heap h' → ∃ u, some (Value.str ⟨#[c]⟩ s.toks) = some u ∧ wpAny (model X.prog X.w) X.A (letOwnedTupleGo tg (.ref it) u) (fun _ s2 => ∃ y H', Inv X pins σ H' s2 ∧ RelV y u ∧ (Its x).yld i H y H' ∧ s2.heap.IsStrIter it ty x t (i + 1) ∧ ∀ b ∈ [it], H' b = none) E { s with heap := h', toks := s.toks + 1 } := fun h' st' sb => by
     have I1 : Inv X pins σ H { s with heap := h', toks := s.toks + 1 } := I.turned (fun b o hb e => (sb.2 b hb).trans e) f0 f1 f3 f4 f5
     obtain ⟨oi, e, cc, dd⟩ := id st'
     exact ⟨_, rfl, go_of (s := { s with heap := h', toks := s.toks + 1 }) e cc dd hno ⟨.str ⟨#[c]⟩, H, I1, ⟨_, rfl⟩, ⟨rfl, c, hcx, rfl⟩, st', fun b hb => (hf b hb).1⟩⟩
   rcases hty with e | e
   · subst e; exact wpAny_pyNext_ascii_item st hcx fin
   · subst e; exact wpAny_pyNext_wide_item st hcx fin
 done := by
   intro X hP hw hK hc i pins s σ H E I hf st hg
   subst hP hw hK
   obtain ⟨f0, f1, f2, f3, f4, f5⟩ := hf it (by simp)
   have hx : x.cps[i]? = none := Array.getElem?_eq_none hg
   obtain ⟨x1, hot⟩ := hc.at I
   rcases hty with e | e
   · subst e; exact next_end_hotA hot st hx fun h' eb => ⟨rfl, I.turned (t' := s.toks) (fun b o hb e => eb b o hb e) f0 f1 f3 f4 f5⟩
   · subst e; exact next_end_hotW hot st hx fun h' eb => ⟨rfl, I.turned (t' := s.toks) (fun b o hb e => eb b o hb e) f0 f1 f3 f4 f5⟩
 self := fun A i s Q E st h => by
   rcases hty with e | e
   · subst e; exact wpAny_pyIter_striter_ascii st h
   · subst e; exact wpAny_pyIter_striter_wide st h
theorem pi_strH {X : Cx} {tg e : Expr} {te : TE} (he : PE X e te) : L2H.PIH X tg e (iStr te) := by
 refine ⟨fun pins s σ H R I h => thn (he.run pins s σ H _ I h) fun v s1 ⟨y, H1, I1, r1, x, ex, q⟩ => ?_⟩
 subst ex
 obtain ⟨t, rfl⟩ := r1
 have fin : ∀ (tk : Tok) (ty : String), (ty = "str_ascii_iterator" ∨ ty = "str_iterator") → L2H.PIEH X pins σ tg R (.ref s1.heap.objs.size) { s1 with heap := s1.heap.push { cls := .type ty, data := .fields #[.str x t, .int 0 0] } } := fun tk ty hty => by
   have I2 : Inv X pins σ H1 { s1 with heap := s1.heap.push { cls := .type ty, data := .fields #[.str x t, .int 0 0] } } := I1.kept (t' := s1.toks) fun b o e => Heap.get?_push_of_some _ e
   refine ⟨s1.heap.objs.size, [s1.heap.objs.size], _, _, H1, rfl, I2, turn_strH _ x t ty hty, ⟨_, Heap.get?_push_size _ rfl, rfl, rfl⟩, fun b hb => ?_, q⟩
   obtain rfl : b = s1.heap.objs.size := by simpa using hb
   exact I1.fpOk (Nat.le_refl _) (I1.hok.fresh (Nat.le_refl _))
 cases ha : x.cps.all (· < 128)
 · exact wpAny_pyIter_wide ha (fin 0 _ (.inr rfl))
 · exact wpAny_pyIter_ascii ha (fin 0 _ (.inl rfl))
end Q
namespace Q
open PySem PySem.Spec PyProof.Rows L2
def keyT (e : Int × Value) : Str := match e.2 with | .str k _ => k | _ => ""
def GoodT (w : World) (e : Int × Value) : Prop := ∃ k u, e.2 = Value.str k u ∧ e.1 = hashStr w k
def SetT (w : World) (h : Heap) (a : Addr) (S : Str → Bool) (n : Nat) : Prop :=
 ∃ o es ep t, h.get? a = some o ∧ o.ExactSet ∧ o.data = .set es ep t ∧ (∀ e ∈ es.toList, GoodT w e) ∧ (es.toList.map keyT).Nodup ∧ (∀ k, S k = true ↔ k ∈ es.toList.map keyT) ∧
   es.size < scanBound ∧ t.fits es.size = true ∧ es.size = n ∧ Ris t.place.toList ∧ (w.params.followText "set-order" = true ∨ t.led = true)
section
variable {P : Program} {w : World} {h h' : Heap} {a : Addr} {S : Str → Bool} {n : Nat}
theorem isT_str (k : Str) (u : Tok) : (PySem.strKind P w).is k (.str k u) = true := by
 show Value.isStrOf k (.str k u) = true
 simp [Value.isStrOf]
theorem SetT.at (R : SetT w h a S n) (k : ∀ o, h.get? a = some o → h'.get? a = some o) : SetT w h' a S n := by
 obtain ⟨o, es, ep, t, ho, r⟩ := R
 exact ⟨o, es, ep, t, k o ho, r⟩
theorem SetT.congr {S' : Str → Bool} (R : SetT w h a S n) (e : ∀ k, S' k = S k) : SetT w h a S' n := by
 have q : S' = S := funext e
 rw [q]; exact R
theorem goodT_elems {l : List (Int × Value)} (g : ∀ e ∈ l, GoodT w e) : ElemsOf (PySem.strKind P w) l := fun e he => by
 obtain ⟨k, u, h1, h2⟩ := g e he
 exact ⟨⟨k, by rw [h1]; exact isT_str k u, h2⟩, by rw [h1] <;> rfl⟩
theorem goodT_is {e : Int × Value} (g : GoodT w e) (k : Str) : (PySem.strKind P w).is k e.2 = true ↔ keyT e = k := by
 obtain ⟨k0, u, h1, _⟩ := g
 unfold keyT
 rw [h1]
 constructor
 · intro z
   exact (PySem.strKind P w).inj (.str k0 u) k0 k (isT_str k0 u) z
 · intro z
   subst z
   exact isT_str _ u
theorem goodT_mem {l : List (Int × Value)} (g : ∀ e ∈ l, GoodT w e) (k : Str) : k ∈ l.map keyT ↔ ∃ e ∈ l, (PySem.strKind P w).is k e.2 = true := by
 rw [List.mem_map]
 constructor
 · rintro ⟨e, he, q⟩
   exact ⟨e, he, (goodT_is (g e he) k).2 q⟩
 · rintro ⟨e, he, q⟩
   exact ⟨e, he, (goodT_is (g e he) k).1 q⟩
end
section
variable {P : Program} {w : World} {A : Around} {E : Value → Shared → Prop} {s : Shared} {a : Addr} {S : Str → Bool} {n : Nat}
theorem storeT_at {h : Heap} {a : Addr} {o : Obj} {es es' : Array (Int × Value)} {ep : Nat} {t t' : SetTable} (ho : h.get? a = some o) (hd : o.data = .set es ep t) :
   (h.update a (Obj.putSet es' t')).get? a = some { o with data := .set es' (ep + 1) t' } := by
 have q := Heap.get?_update_self (Obj.putSet es' t') ho (by rw [putSet_of es' t' hd]; rfl)
 rw [putSet_of es' t' hd] at q
 exact q
theorem setT_add_tail {g : Bool → Sem Unit} (hg : ∀ (b : Bool) (s₁ : Shared) (Q' : Unit → Shared → Prop), Q' () s₁ → wpAny (model P w) A (g b) Q' E s₁)
   {o : Obj} {es : Array (Int × Value)} {ep : Nat} {t : SetTable} (ho : s.heap.get? a = some o) (hex : o.ExactSet) (hd : o.data = .set es ep t)
   {es1 : Array (Int × Value)} {t2 : SetTable} {S' : Str → Bool} (g1 : ∀ e ∈ es1.toList, GoodT w e) (nd1 : (es1.toList.map keyT).Nodup) (m1 : ∀ k, S' k = true ↔ k ∈ es1.toList.map keyT)
   (hb1 : es1.size < scanBound) (hf2 : t2.fits es1.size = true) (hr : Ris t2.place.toList) (hl : w.params.followText "set-order" = true ∨ t2.led = true) {wasDummy : Bool} {R : Option Bool → Shared → Prop}
   (hR : ∀ h', Heap.SameBut a s.heap h' → SetT w h' a S' es1.size → R (some true) { s with heap := h' }) :
   wpAny (model P w) A (do
       storeSet a es1 t2
       if (!wasDummy && t2.tooFull) = true then do
           g (relayAll t2 es1 (SetTable.grown es1.size)).2.2
           storeSet a (relayAll t2 es1 (SetTable.grown es1.size)).1 (relayAll t2 es1 (SetTable.grown es1.size)).2.1
           pure (some true)
         else pure (some true)) R E s := by
 refine wpAny_bind (wpAny_storeSet_of ho hd ?_ (fits_of_scanBound hb1))
 have ho1 := storeT_at (es' := es1) (t' := t2) ho hd
 have sb1 := Heap.SameBut.update s.heap a (Obj.putSet es1 t2)
 split
 · have pm := relayAll_perm t2 es1 (SetTable.grown es1.size)
   have hf3 := relayAll_fits t2 es1 (SetTable.grown es1.size)
   have hr3 := relayAll_ris t2 es1 (SetTable.grown es1.size)
   have hl3 := relayAll_led t2 es1 (SetTable.grown es1.size)
   generalize relayAll t2 es1 (SetTable.grown es1.size) = Z at pm hf3 hr3 hl3 ⊢
   obtain ⟨es2, t3, gave⟩ := Z
   dsimp only at pm hf3 hr3 hl3 ⊢
   have hsz : es2.size = es1.size := by rw [← Array.length_toList, pm.length_eq, Array.length_toList]
   have hb2 : es2.size < scanBound := by rw [hsz]; exact hb1
   refine wpAny_bind (hg _ _ _ ?_)
   refine wpAny_bind (wpAny_storeSet_of ho1 rfl ?_ (fits_of_scanBound hb2))
   have ho2 := storeT_at (es' := es2) (t' := t3) ho1 rfl
   refine wpAny_pure (hR _ (sb1.trans (Heap.SameBut.update _ a _)) ?_)
   exact ⟨_, es2, _, t3, ho2, hex, rfl, fun e he => g1 e (pm.mem_iff.mp he), (pm.map keyT).nodup_iff.mpr nd1, fun k => (m1 k).trans (pm.map keyT).mem_iff.symm, hb2, hf3, hsz, hr3,
     hl.imp id fun z => by rw [hl3]; exact z⟩
 · exact wpAny_pure (hR _ sb1 ⟨_, es1, _, t2, ho1, hex, rfl, g1, nd1, m1, hb1, hf2, rfl, hr, hl⟩)
theorem setT_add_hashed {k : Str} {u : Tok} {Q : Bool → Shared → Prop} (R : SetT w s.heap a S n) (room : n + 1 < scanBound)
   (hQ : ∀ h', Heap.SameBut a s.heap h' → SetT w h' a (fun j => S j || decide (j = k)) (if S k = true then n else n + 1) → Q (!S k) { s with heap := h' }) :
   wpAny (model P w) A (setAddHashed a (.str k u) ((PySem.strKind P w).hash k)) Q E s := by
 obtain ⟨o, es, ep, t, ho, hex, hd, g, nd, hm, hb, hf, hn, hr, hl⟩ := R
 have hkey : (PySem.strKind P w).is k (.str k u) = true := isT_str k u
 have hsc : (Value.str k u).scannable = true := rfl
 have hel : ElemsOf (PySem.strKind P w) es.toList := goodT_elems g
 unfold setAddHashed setAddHashedIn
 refine wpAny_holding (wpAny_bind (wpAny_setState_of ho hd hf ?_))
 dsimp only
 rw [byScan_of hsc hb hel]
 simp only [↓reduceIte]
 unfold setAddByScan
 refine wpAny_bind ?_
 refine wpAny_bind (wpAny_rule ?_)
 refine wpAny_bind (wpAny_setScan_of hkey ho hd hf hel ?_)
 cases hfi : List.findIdx? (fun e => (PySem.strKind P w).is k e.2) es.toList with
 | some j =>
   dsimp only
   obtain ⟨hj, pj, _⟩ := List.findIdx?_eq_some_iff_getElem.mp hfi
   have hSk : S k = true := (hm k).2 ((goodT_mem (P := P) (w := w) g k).2 ⟨es.toList[j], List.getElem_mem hj, pj⟩)
   refine wpAny_pure (wpAny_pure ?_)
   have q := hQ s.heap (Heap.SameBut.refl a s.heap) ⟨o, es, ep, t, ho, hex, hd, g, nd, fun i => by
     rw [Bool.or_eq_true, decide_eq_true_eq, ← hm i]
     exact ⟨fun z => z.elim id (fun e => e ▸ hSk), .inl⟩, hb, hf, by rw [if_pos hSk]; exact hn, hr, hl⟩
   rw [hSk] at q
   exact q
 | none =>
   dsimp only
   have hnk : k ∉ es.toList.map keyT := fun z => by
     obtain ⟨e, he, q⟩ := (goodT_mem (P := P) (w := w) g k).1 z
     have c := List.findIdx?_eq_none_iff.mp hfi e he
     rw [q] at c
     cases c
   have hSk : S k = false := by
     cases q : S k with
     | false => rfl
     | true => exact absurd ((hm k).1 q) hnk
   have hgw : ∀ (b : Bool) {s₁ : Shared} {Q' : Unit → Shared → Prop}, Q' () s₁ → wpAny (model P w) A (match b with | true => rule "set.scan.the-table-gave-way" | false => pure ()) Q' E s₁ :=
     fun b s₁ Q' q => by cases b <;> first | exact wpAny_pure q | exact wpAny_rule q
   have pm := layNew_perm t es ((PySem.strKind P w).hash k) (.str k u)
   have hf1 := layNew_fits t es ((PySem.strKind P w).hash k) (.str k u)
   have hr1 := layNew_ris t es ((PySem.strKind P w).hash k) (.str k u) hr
   have hl1 := layNew_led t es ((PySem.strKind P w).hash k) (.str k u)
   generalize layNew t es ((PySem.strKind P w).hash k) (.str k u) = Z at pm hf1 hr1 hl1 ⊢
   obtain ⟨es1, t1, wasDummy, gave⟩ := Z
   dsimp only at pm hf1 hr1 hl1 ⊢
   rw [Array.toList_push] at pm
   have pc : es1.toList.Perm (((PySem.strKind P w).hash k, Value.str k u) :: es.toList) := pm.trans (List.perm_append_singleton _ _)
   have pk : (es1.toList.map keyT).Perm (k :: es.toList.map keyT) := pc.map keyT
   have g1 : ∀ e ∈ es1.toList, GoodT w e := fun e he => by
     rcases List.mem_cons.mp (pc.mem_iff.mp he) with z | z
     · rw [z]; exact ⟨k, u, rfl, rfl⟩
     · exact g e z
   have nd1 : (es1.toList.map keyT).Nodup := pk.nodup_iff.mpr (List.nodup_cons.mpr ⟨hnk, nd⟩)
   have m1 : ∀ i, (S i || decide (i = k)) = true ↔ i ∈ es1.toList.map keyT := fun i => by
     rw [Bool.or_eq_true, decide_eq_true_eq, hm i, pk.mem_iff, List.mem_cons]
     exact Or.comm
   have hsz : es1.size = n + 1 := by rw [← Array.length_toList, pc.length_eq, List.length_cons, Array.length_toList, hn]
   have hb1 : es1.size < scanBound := by rw [hsz]; exact room
   have hled : w.params.followText "set-order" = true ∨ t1.led = true := hl.imp id fun z => by rw [hl1]; exact z
   have fin : ∀ h', Heap.SameBut a s.heap h' → SetT w h' a (fun j => S j || decide (j = k)) es1.size → Q true { s with heap := h' } := fun h' sb r => by
     have q := hQ h' sb
     rw [hSk] at q
     rw [hsz] at r
     exact q r
   refine wpAny_bind (hgw _ ?_)
   split
   · refine wpAny_bind ?_
     rw [hashByValue_scannable 8 hsc]
     refine wpAny_pure ?_
     refine setT_add_tail ?_ ho hex hd g1 nd1 m1 hb1 ?_ ?_ ?_ ?_
     · intro b s₁ Q' q; cases b <;> first | exact wpAny_pure q | exact wpAny_rule q
     · first | (split <;> first | exact hf1 | exact SetTable.fits_plain_off hf1) | exact hf1
     · first | (split <;> exact hr1) | exact hr1
     · first | (split <;> exact hled) | exact hled
     · intro h' sb r; dsimp only; exact wpAny_pure (fin h' sb r)
   · refine wpAny_bind (wpAny_pure ?_)
     simp only [↓reduceIte]
     refine setT_add_tail ?_ ho hex hd g1 nd1 m1 hb1 hf1 hr1 hled ?_
     · intro b s₁ Q' q; cases b <;> first | exact wpAny_pure q | exact wpAny_rule q
     · intro h' sb r; dsimp only; exact wpAny_pure (fin h' sb r)
theorem setT_new_at {w : World} {h : Heap} {a : Addr} {ns : List Str} (ho : h.get? a = some { cls := .type "set", dict := none, data := .set #[] 0 (.fresh 0 0 (!w.params.followText "set-order")) }) : SetT w h a (fun j => decide (j ∈ ns.take 0)) 0 :=
 ⟨_, #[], 0, _, ho, ⟨rfl, rfl, rfl⟩, rfl, (fun e he => by simp at he), (by simp), (fun k => by simp), (by decide), (by rfl), rfl, List.Pairwise.nil, by
   show _ ∨ (!w.params.followText "set-order") = true
   cases w.params.followText "set-order"
   · exact .inr rfl
   · exact .inl rfl⟩
theorem set_update_strs {I : Addr} {fp wr : List Addr} {G : Array GenState → Array GenState → Prop} {n : Nat} {Pv : Nat → Value → Prop} {St : Nat → Shared → Prop} {R : Result → Shared → Prop}
   (W : WalksS P w A.in1 I fp wr G n Pv St) (S : Addr) (hSf : S ∉ fp) (ns : List Str) (hn : n = ns.length) (hb : ns.length + 1 < scanBound) (hval : ∀ i v, Pv i v → ∃ k t, ns[i]? = some k ∧ v = .str k t) :
   ∀ (k i : Nat) (s : Shared), n - i = k → i ≤ n → St i s → (∃ c, c ≤ i ∧ SetT w s.heap S (fun j => decide (j ∈ ns.take i)) c) →
     (∀ s' c, Moved (S :: wr) G s s' → c ≤ n → SetT w s'.heap S (fun j => decide (j ∈ ns)) c → R (.ok (.ret .none)) s') →
     codeAny (model P w) A (.builtin "set.update.loop" ⟨[.ref S, .ref I], []⟩) R s := by
 have hSw : S ∉ wr := fun h => hSf (W.sub _ h)
 have hsub : ∀ b ∈ wr, b ∈ S :: wr := fun b hb => List.mem_cons_of_mem _ hb
 intro k
 induction k with
 | zero =>
   intro i s hk' hi hst ⟨c, hc, hS⟩ hR
   have hin : i = n := by omega
   subst hin
   refine codeAny_builtin F.entry_set_update_loop ?_
   rw [Around.under_plainId F.plain_set_update_loop _]
   show wpAny _ A.in1 (pyNext (.ref I) >>= _) _ _ s
   refine wpAny_bind (W.done s _ _ hst fun s' hm => ?_)
   show wpAny _ A.in1 (ret Value.none) _ _ s'
   have e : ns.take i = ns := List.take_of_length_le (by omega)
   rw [e] at hS
   exact wpAny_pure (hR s' c (hm.mono hsub) hc (hS.at fun o e => hm.heap S o hSw e))
 | succ k ih =>
   intro i s hk' hi hst ⟨c, hc, hS⟩ hR
   have hlt : i < n := by omega
   refine codeAny_builtin F.entry_set_update_loop ?_
   rw [Around.under_plainId F.plain_set_update_loop _]
   show wpAny _ A.in1 (pyNext (.ref I) >>= _) _ _ s
   refine wpAny_bind (W.item i s _ _ hlt hst fun v s' hP hst' hm => ?_)
   obtain ⟨z, t, hz, rfl⟩ := hval i v hP
   have hS' : SetT w s'.heap S (fun j => decide (j ∈ ns.take i)) c := hS.at fun o e => hm.heap S o hSw e
   show wpAny _ A.in1 (holding [Value.str z t] (setAdd S (.str z t)) >>= _) _ _ s'
   refine wpAny_bind (wpAny_holding ?_)
   unfold setAdd
   refine wpAny_holding ?_
   refine wpAny_bind ((PySem.strKind P w).pyHash (k := z) (isT_str _ _) ?_)
   refine setT_add_hashed (s := { s' with toks := s'.toks + 1 }) hS' (by omega) fun h' hsb hS2 => ?_
   have hS3 : SetT w h' S (fun j => decide (j ∈ ns.take (i + 1))) (if decide (z ∈ ns.take i) = true then c else c + 1) := hS2.congr fun j => by
     rw [List.take_add_one, hz]
     simp [List.mem_append]
   have hc3 : (if decide (z ∈ ns.take i) = true then c else c + 1) ≤ i + 1 := by
     split <;> omega
   refine wpAny_pure ⟨plainId_quiet F.plain_set_update_loop _, ih (i + 1) _ (by omega) hlt (W.frame _ s' _ _ hst' (Nat.le_succ _) fun b hb o e => ?_) ⟨_, hc3, hS3⟩ fun s'' c2 hm'' hc'' hS'' => ?_⟩
   · rw [hsb.2 b (fun h : b = S => hSf (by rw [← h]; exact hb))]; exact e
   · refine hR s'' c2 (Moved.trans W.gtrans ((hm.mono hsub).then_heap (Nat.le_succ _) fun b o hb e => ?_) hm'') hc'' hS''
     rw [hsb.2 b (fun h : b = S => hb (by rw [h]; exact List.mem_cons_self))]; exact e
theorem code_set_led2 (a : Value) {Q₁ : Value → Shared → Prop}
   (h : Q₁ (.ref s.heap.objs.size) { s with heap := s.heap.push { cls := .type "set", dict := none, data := .set #[] 0 (.fresh 0 0 (!w.params.followText "set-order")) } }) :
   codeAny (model P w) A (.call (.builtin "set.__new__") ⟨[.type "set", a], []⟩) (wants Q₁ E) s := by
 refine codeAny_of_tree ?_
 show wpAny _ A.in1 (do checkBuiltinCall "set.__new__" ⟨[.type "set", a], []⟩; again (.builtin "set.__new__" ⟨[.type "set", a], []⟩)) _ _ s
 refine wpAny_bind (wpAny_of_eq (F.newCall_set_1 a) (wpAny_pure ⟨plainId_quiet F.plain_set_new _, codeAny_builtin F.entry_set_new ?_⟩))
 rw [Around.under_plainId F.plain_set_new _]
 unfold Builtin.«set.__new__» Builtin.Frozenset.newClass
 have hsub := sub_set_self
 obtain ⟨hp, g, d, tk, os⟩ := s
 dsimp only
 wp_walk
 refine wpAny_askSetting (wpAny_pure ?_)
 dsimp only
 simp only [newObj]
 refine wpAny_bind (wpAny_alloc (wpAny_pure ?_))
 exact wpAny_pure h
set_option maxRecDepth 100000 in
set_option maxHeartbeats 3200000 in
theorem call_set_lstS {l : Addr} {items : Array Value} (ns : List Str) {Q : Value → Shared → Prop} (hh : A.handled = none) (hl : s.heap.IsList l items) (hit : StrsAre items.toList ns) (hb : ns.length + 1 < scanBound)
   (h : ∀ (h' : Heap) (tk c : Nat), SetT w h' s.heap.objs.size (fun j => decide (j ∈ ns)) c → c ≤ ns.length → (∀ b o, s.heap.get? b = some o → h'.get? b = some o) → Q (.ref s.heap.objs.size) { s with heap := h', toks := tk }) :
   wpAny (model P w) A (call (.type "set") [.ref l]) Q E s := by
 have hisz : items.size = ns.length := by
   have q := StrsAre.length hit
   rw [Array.length_toList] at q
   exact q
 obtain ⟨c, tl, hmro⟩ := F.called_set.mro
 have hmade := F.called_set.made
 have hsub := F.called_set.sub
 refine wpAny_call (codeAny_of_tree ?_)
 show wpAny _ _ (callAny (.type "set") _) _ _ _
 refine wpAny_pure ⟨Code.quiet_builtin _ (by decide +kernel), codeAny_builtin F.entry_type_call ?_⟩
 rw [Around.under_plain (weight_type_call_type "set" [.ref l] []) rfl]
 have h1 := F.called_set.notType
 have h2 := F.called_set.canCreate
 have hct := F.typeCall_set_1 (.ref l)
 repeat (any_goals (first | assumption | wp_step))
 refine codeAny_mono (code_set_led2 (.ref l) (E := E) (Q₁ := fun obj s₁ => obj = .ref s.heap.objs.size ∧ s₁ = { s with heap := s.heap.push { cls := .type "set", dict := none, data := .set #[] 0 (.fresh 0 0 (!w.params.followText "set-order")) } }) ⟨rfl, rfl⟩) fun r s₁ hr => ?_
 cases r with
 | error e => exact hr
 | ok fl =>
   cases fl with
   | ret obj =>
     obtain ⟨rfl, rfl⟩ := hr
     have hS : (s.heap.push { cls := .type "set", dict := none, data := .set #[] 0 (.fresh 0 0 (!w.params.followText "set-order")) }).get? s.heap.objs.size = some { cls := .type "set", dict := none, data := .set #[] 0 (.fresh 0 0 (!w.params.followText "set-order")) } := Heap.get?_push_size _ rfl
     have hT : Shared.TypeIs { s with heap := s.heap.push { cls := .type "set", dict := none, data := .set #[] 0 (.fresh 0 0 (!w.params.followText "set-order")) } } (.ref s.heap.objs.size) "set" := ⟨_, hS, rfl⟩
     have hli := F.called_set.init.lookup
     have hbi := F.called_set.init.bind (.ref s.heap.objs.size)
     repeat (any_goals (first | assumption | wp_step))
     refine codeAny_mono (codeAny_call_builtin (R := wants (fun r s₂ => r = .none ∧ ∃ h' tk c, s₂ = { s with heap := h', toks := tk } ∧ SetT w h' s.heap.objs.size (fun j => decide (j ∈ ns)) c ∧ c ≤ ns.length ∧
         (∀ b o, s.heap.get? b = some o → h'.get? b = some o)) E) F.called_set.init.plain F.entry_set_init (check_set_init_1 hT ?_)) fun r₂ s₂ hr₂ => ?_
     · obtain ⟨ol, hol, hcl, nl, hdl⟩ := hl
       obtain ⟨ocls, odict, odata, oslots⟩ := ol
       simp only at hcl hdl
       subst hcl; subst hdl
       have hol' : (s.heap.push { cls := .type "set", dict := none, data := .set #[] 0 (.fresh 0 0 (!w.params.followText "set-order")) }).get? l = some { cls := .type "list", dict := odict, data := .seq items nl, slots := oslots } := Heap.get?_push_of_some _ hol
       have hsls := F.sub_list_set
       have hslf := F.sub_list_frozenset
       have hne : (Value.type "list" == Value.type "dict") = false := by decide
       have hl1 : (s.heap.push { cls := .type "set", dict := none, data := .set #[] 0 (.fresh 0 0 (!w.params.followText "set-order")) }).IsList l items := ⟨_, hol', rfl, nl, rfl⟩
       unfold Builtin.«set.__init__» noKeywords Builtin.Frozenset.updateFrom
       generalize hPI : pyIter = PI
       wp_walk
       subst hPI
       refine wpAny_pyIter_list hl1 ?_
       refine wpAny_bind (wpAny_runValue ?_)
       have hlS : l < s.heap.objs.size := Heap.lt_size hol
       have hh3 : A.in1.in1.in1.handled = none := by simp [hh]
       have hz1 : (s.heap.push { cls := .type "set", dict := none, data := .set #[] 0 (.fresh 0 0 (!w.params.followText "set-order")) }).objs.size = s.heap.objs.size + 1 := Heap.size_push ..
       have hneI : l ≠ (s.heap.push { cls := .type "set", dict := none, data := .set #[] 0 (.fresh 0 0 (!w.params.followText "set-order")) }).objs.size := by
         rw [Heap.size_push]; exact Nat.ne_of_lt (Nat.lt_succ_of_lt hlS)
       have hSf : s.heap.objs.size ∉ [(s.heap.push { cls := .type "set", dict := none, data := .set #[] 0 (.fresh 0 0 (!w.params.followText "set-order")) }).objs.size, l] := by
         rw [Heap.size_push]; simp only [List.mem_cons, List.mem_singleton, List.not_mem_nil, or_false, not_or]
         exact ⟨Nat.ne_of_lt (Nat.lt_succ_self _), Nat.ne_of_gt hlS⟩
       have hval : ∀ (i : Nat) (v : Value), items[i]? = some v → ∃ k t, ns[i]? = some k ∧ v = .str k t := fun i v hv => (fun ⟨y, t, e1, e2⟩ => ⟨y, t, e2, e1⟩) (StrsAre.item hit i v (by rw [Array.getElem?_toList]; exact hv))
       refine set_update_strs ((Walks.list hh3 _ l hneI items).toS) s.heap.objs.size
         hSf ns hisz hb hval (items.size - 0) 0 _ (by omega) (Nat.zero_le _)
         ⟨⟨_, Heap.get?_push_size _ rfl, rfl, rfl⟩, (hl1.push _)⟩ ?hS0 ?hR
       case hS0 =>
         have hget : ((s.heap.push { cls := .type "set", dict := none, data := .set #[] 0 (.fresh 0 0 (!w.params.followText "set-order")) }).push { cls := .type "list_iterator", data := .fields #[.ref l, .int 0 0] }).get? s.heap.objs.size
             = some { cls := .type "set", dict := none, data := .set #[] 0 (.fresh 0 0 (!w.params.followText "set-order")) } := Heap.get?_push_of_some _ hS
         exact ⟨0, Nat.le_refl 0, setT_new_at hget⟩
       case hR =>
         intro s' c' hm hc' hS'
         obtain ⟨h', g2, d', tk', os'⟩ := s'
         have eg : g2 = s.gens := hm.gens
         have ed : d' = s.drawn := hm.drawn
         have eo : os' = s.os := hm.os
         subst eg; subst ed; subst eo
         show wpAny _ _ _ _ _ _
         refine wpAny_pure ?_
         show wpAny _ _ (ret Value.none) _ _ _
         rw [hisz] at hc'
         refine wpAny_pure ⟨rfl, h', tk', c', rfl, hS', hc', fun b o e => ?_⟩
         have hb0 : b < s.heap.objs.size := Heap.lt_size e
         have hb1 : b ≠ s.heap.objs.size := Nat.ne_of_lt hb0
         have hb2 : b ≠ (s.heap.push { cls := .type "set", dict := none, data := .set #[] 0 (.fresh 0 0 (!w.params.followText "set-order")) }).objs.size := by
           rw [Heap.size_push]; exact Nat.ne_of_lt (Nat.lt_succ_of_lt hb0)
         exact hm.heap b o (by simp only [List.mem_cons, List.mem_singleton, List.not_mem_nil, or_false, not_or]; exact ⟨hb1, hb2⟩) (Heap.get?_push_of_some _ (Heap.get?_push_of_some _ e))
     · cases r₂ with
       | error e => exact hr₂
       | ok fl₂ =>
         cases fl₂ with
         | ret r =>
           obtain ⟨rfl, h', tk, c', rfl, hS', hc', hk'⟩ := hr₂
           repeat (any_goals (first | assumption | wp_step))
           exact h _ _ _ hS' hc' hk'
         | _ => exact hr₂.elim
   | _ => exact hr.elim
end
section
variable {P : Program} {w : World} {A : Around} {E : Value → Shared → Prop} {s : Shared} {a : Addr} {S : Str → Bool} {n : Nat}
theorem strs_of : ∀ (l : List Value), (∀ v ∈ l, ∃ k tk, v = Value.str k tk) → StrsAre l (l.map strOf)
 | [], _ => .nil
 | v :: l, h => by
   obtain ⟨k, tk, rfl⟩ := h v List.mem_cons_self
   exact .cons k tk (strs_of l fun u hu => h u (List.mem_cons_of_mem _ hu))
theorem sorted_setT {Q : Value → Shared → Prop} (R : SetT w s.heap a S n) (hh : A.handled = none) (h64 : n < 64)
   (hQ : ∀ s' p (out : Array Value) (c : Nat) (ns : List Str), (∀ b o, s.heap.get? b = some o → s'.heap.get? b = some o) → s'.gens = s.gens → s'.os = s.os → s.heap.objs.size ≤ p →
     s'.heap.get? p = some (seqObj "list" out c) → StrsAre out.toList ns → sortedS ns = true → ns.Nodup → (∀ k, k ∈ ns ↔ S k = true) → ns.length = n → Q (.ref p) s') :
   wpAny (model P w) A (call (.builtin "sorted") [.ref a]) Q E s := by
 obtain ⟨o, es, ep, t, ho, hex, hd, g, nd, hm, hb, hf, hn, hr, hl⟩ := R
 refine Calls.call_function_entry kind_sorted plain_sorted entry_sorted (args_sorted1 _) ?_
 unfold Builtin.«sorted»
 refine wpAny_bind (m := checkCount "sorted" 1 1 _) (wpAny_pure ?_)
 refine wpAny_bind (collect_set (A := A.in1) hh ⟨o, ho, hex.1, hd⟩ hf hb hr hl fun s1 vs k1 hz g1 o1 pm => ?_)
 have hvl : vs.length = n := by rw [pm.length_eq, List.length_map, Array.length_toList]; exact hn
 have hS : StrsAre vs (vs.map strOf) := strs_of vs fun v hv => by
   obtain ⟨e, he, q⟩ := List.mem_map.mp (pm.mem_iff.mp hv)
   obtain ⟨k, tk, h1, _⟩ := g e he
   exact ⟨k, tk, by rw [← q]; exact h1⟩
 have pk : (vs.map strOf).Perm (es.toList.map keyT) := by
   have q := pm.map strOf
   rw [List.map_map] at q
   refine q.trans (.of_eq (List.map_congr_left fun e he => ?_))
   obtain ⟨k, tk, h1, _⟩ := g e he
   show strOf e.2 = keyT e
   unfold keyT
   rw [h1] <;> rfl
 refine wpAny_bind (wpAny_newList ?_ (by rw [hvl, sizeLine_eq]; omega))
 have hoL : (s1.heap.push (seqObj "list" vs.toArray 0)).get? s1.heap.objs.size = some (seqObj "list" vs.toArray 0) := Heap.get?_push_size _ rfl
 refine wpAny_bind (wpAny_holding (wpAny_call_entry slot_list_sort ⟨_, hoL, rfl⟩ entry_list_sort
   (list_sort_treeK strKind_oneLt hoL hS.keysOf (fun v₁ v₂ rest e => keyKind_strs (by rw [← e]; exact hS)) (by rw [hvl]; exact h64) fun st' hp hs => ⟨_, rfl, ?_⟩) (args_list_sort _)))
 obtain ⟨ys, q1, q2, q3⟩ := sorted_out_str hS hp hs
 obtain ⟨c, hc⟩ := sortedHeap_at (vs := vs) (out := (arrOf st').map (·.2)) hoL
 have pn : ys.Perm (es.toList.map keyT) := q2.trans pk
 refine wpAny_pure ⟨_, rfl, hQ _ s1.heap.objs.size _ c ys (fun b u e => ?_) g1 o1 hz hc q1 q3 (pn.nodup_iff.mpr nd) (fun k => by rw [pn.mem_iff, ← hm k]) ?_⟩
 · have q := k1 b u e
   have hlt := Heap.lt_size q
   rw [sortedHeap_old (Nat.ne_of_lt hlt) (by rw [size_push']; exact Nat.lt_succ_of_lt hlt)]
   exact Heap.get?_push_of_some _ q
 · rw [pn.length_eq, List.length_map, Array.length_toList]; exact hn
end
def tSSet (K : PySem.W.Frag) (te : TE) : TE := fun σ H Q => te σ H fun v H1 => ∃ (a : Addr) (xs : List Str), v = .ref a ∧ SqL K H1 a (xs.map V.str) ∧ xs.length < 64 ∧
 ∀ (ys : List Str) (p : Addr), ys.Nodup → (∀ k, k ∈ ys ↔ k ∈ xs) → sortedS ys = true → H1 p = none → Q (.ref p) (upd H1 p (.lst (ys.map V.str)))
theorem pe_sset {X : Cx} {e : Expr} {te : TE} {p p2 pos pos2 : Pos} (hc : X.calm = true) (hg : Gl X "sorted") (hm : X.mg "sorted" = none) (hg2 : Gl X "set") (hm2 : X.mg "set" = none) (he : PE X e te)
   (hb : bootBuiltins "sorted" = some (.builtin "sorted")) (hb2 : bootBuiltins "set" = some (.type "set"))
   (hs : starEach [e] X.env = (false, eval e X.env) :: starEach [] X.env) : PE X (.Call (.Name "sorted" p) [.Call (.Name "set" p2) [e] [] pos2] [] pos) (tSSet X.K te) := by
 have hs2 : starEach [.Call (.Name "set" p2) [e] [] pos2] X.env = (false, eval (.Call (.Name "set" p2) [e] [] pos2) X.env) :: starEach [] X.env := rfl
 refine ⟨fun pins s σ H Q I h => wpAny_Call_Name_kw (ld_blt I hg hm hb (PyProof.Rows.callWith_builtin1 (args_cons (wpAny_Call_Name_kw (ld_blt I hg2 hm2 hb2 (PyProof.Rows.callWith_type1 (args_cons (thn (he.run pins s σ H _ I h) fun u s1 ⟨v, H1, I1, r1, q1⟩ => args_nil ?_) hs) hs rfl))) hs2) hs2 rfl))⟩
 obtain ⟨a, xs, rfl, hq, h64, q⟩ := q1
 cases r1
 obtain ⟨its, rv, p', hz⟩ := I1.list hq
 have hS := rv.strs
 have hlen : its.length = xs.length := by have z := rv.length; rw [List.length_map] at z; exact z.symm
 refine call_set_lstS xs (I1.ok.hd hc) p'.isList hS (by unfold scanBound; omega) fun h' tk c R hc' k => args_nil ?_
 refine sorted_setT (s := { s1 with heap := h', toks := tk }) R (I1.ok.hd hc) (by omega) fun s' pp out cc ns kk g o hp hg hi hsr hnd hmem hln => ?_
 have hlen2 : (ns.map V.str).length ≤ sizeLine := by rw [List.length_map, hln, sizeLine_eq]; omega
 have hpp : s1.heap.objs.size ≤ pp := by
   refine Nat.le_trans ?_ hp
   obtain ⟨oo, _, _, _, e1, _⟩ := R
   exact Nat.le_of_lt (Heap.lt_size e1)
 have hn : H1 pp = none := I1.hok.fresh hpp
 have k2 : ∀ b u, s1.heap.get? b = some u → s'.heap.get? b = some u := fun b u e => kk b u (k b u e)
 have J : Inv X pins σ (upd H1 pp (.lst (ns.map V.str))) { s1 with heap := s'.heap, gens := s'.gens, drawn := s'.drawn, toks := s'.toks } :=
   I1.call (ch := []) (Un.laid k2 hpp hn) (I1.hok.laid k2 hpp ⟨hlen2, out.toList, cc, vals_of_strs hi, hg⟩) (by rw [g]; exact I1.bare) (fun _ z => nomatch z)
 have e : s' = { s1 with heap := s'.heap, gens := s'.gens, drawn := s'.drawn, toks := s'.toks } := by
   cases s'
   cases s1
   cases o
   rfl
 rw [e]
 exact ⟨.ref pp, _, J, rfl, q ns pp hnd (fun k => by rw [hmem k, decide_eq_true_eq]) hsr hn⟩
end Q
namespace Q
open PySem L2 PySem.Spec PyProof.Rows
def XB (X : Cx) (W : WX) (L : Addr) (u : Value) (s' : Shared) : Prop :=
 ∃ (a : Addr) (B : Heap) (sI : Shared) (pins : List (Addr × Obj)) (σ : L2.St) (H : Hp) (cls : Value) (d : Option Addr),
   u = .ref a ∧ Inv X.nox pins σ H sI ∧ (∀ b o, sI.heap.get? b = some o → b ∉ frs X.stack → B.get? b = some o) ∧ sI.heap.UpToSlots s'.heap ∧
     (Sky B X.stack a (L2N.Zn cls d) X.env.locals s'.heap ∨ HandSPX.HeldZ B X.stack a (L2N.Zn cls d) L s'.heap) ∧ H a = none ∧ s'.os = sI.os ∧ AllBare s'.gens ∧ W cls d σ H
def Fl (X : Cx) (W : WX) : Prop := ∃ L e0 o0, X.stack = e0 :: o0 ∧ e0.frame = some L ∧ X.env.frame = some L ∧ ∀ u s', XB X W L u s' → X.xe u s'
theorem Fl.takes {X : Cx} {W : WX} (f : Fl X W) : L2N.Takes X W := by
 obtain ⟨L, e0, o0, _, _, _, h⟩ := f
 rintro u s' ⟨a, B, sI, pins, σ, H, cls, d, e, I, nb, up, sky, na, os, ag, w⟩
 exact h u s' ⟨a, B, sI, pins, σ, H, cls, d, e, I.wish _, nb, up, .inl sky, na, os, ag, w⟩
theorem Fl.of {X : Cx} {W : WX} (hs : X.stack = X.env :: X.outer) (hf : X.env.frame = some X.env.locals) (t : L2N.Takes X W) : Fl X W := by
 refine ⟨_, _, _, hs, hf, hf, fun u s' ⟨a, B, sI, pins, σ, H, cls, d, e, I, nb, up, sky, na, os, ag, w⟩ => t u s' ⟨a, B, sI, pins, σ, H, cls, d, e, I.unwish, nb, up, ?_, na, os, ag, w⟩⟩
 rcases sky with z | z
 · exact z
 · exact .inr (.inr z)
theorem Fl.none {X X' : Cx} {W : WX} (f : Fl X W) (h1 : X'.stack = X.stack) (h2 : X'.env.frame = X.env.frame) : Fl X' fun _ _ _ _ => False := by
 obtain ⟨L, e0, o0, a, b, c, _⟩ := f
 exact ⟨L, e0, o0, h1.trans a, b, h2.trans c, fun u s' ⟨_, _, _, _, _, _, _, _, _, _, _, _, _, _, _, _, z⟩ => z.elim⟩
section
variable {M : Model} {A : Around} {E : Value → Shared → Prop} {env : Env} {outer : List Env} {base : Heap} {e L C : Addr} {Z : Obj → Prop} {s : Shared}
theorem looks_any {Q : Unit → Shared → Prop} (hZ : PXN.Steady1 Z) (hfr : A.frames = some (env :: outer)) (hf : env.frame = some L) (hne : C ≠ L) (hfl : HandSPX.HeldZ base (env :: outer) e Z C s.heap)
   (hQ : ∀ h', HandSPX.HeldZ base (env :: outer) e Z L h' → s.heap.UpToSlots h' → Q () { s with heap := h' }) : wpAny M A (noteFrame (.ref e) env) Q E s := by
 obtain ⟨hkb, hen, hl, oe, vs, T, oT, ts, he, hz, hd, h1, hnT, hTe, hT, hdT, h3⟩ := hfl
 unfold noteFrame
 simp only [hf]
 refine wpAny_bind (wpAny_field he hd h1 ?_)
 rw [if_pos (show (Value.ref T != Value.none) = true from by simp)]
 refine wpAny_bind (wpAny_field hT hdT h3 ?_)
 rw [if_neg (show ¬ ((rawInt C == rawInt L) = true) from by simp only [rawInt, beq_iff_eq, Value.int.injEq]; exact fun z => hne (Int.ofNat.inj z.1))]
 refine wpAny_bind (wpAny_setField hT hdT (Array.getElem?_eq_some_iff.mp h3).1 ?_)
 have other : ∀ b, b ≠ T → (s.heap.update T (Obj.mapFields (·.setIfInBounds 3 Value.none))).get? b = s.heap.get? b := fun b hb => Heap.get?_update_other _ _ (Ne.symm hb)
 have noRecord : ∀ b o, s.heap.get? b = some o → (∀ vs, o.data ≠ .fields vs) → b ≠ T := fun b o hb hnf q => by
   rw [q, hT] at hb; injection hb with hb; subst hb; exact hnf ts hdT
 refine PXN.wpAny_entryZ hZ hfr (hl.of_keeps fun b o hb hnf => ⟨o, (other b (noRecord b o hb hnf)).trans hb, rfl⟩) hf ((other e (Ne.symm hTe)).trans he)
   (fun b o hbo => (other b fun q => by rw [q, hnT] at hbo; cases hbo).trans (hkb b o hbo)) hen hd (Array.getElem?_eq_some_iff.mp h1).1 hz fun h' hN => ?_
 obtain ⟨x1, x2, x3, x4⟩ := hN
 exact hQ h' ⟨x1, hen, x2, x3⟩ fun b o hb hnf => x4 b o ((other b (noRecord b o hb hnf)).trans hb) hnf
theorem funFrames_less {h b1 b2 : Heap} (k : ∀ a, b1.get? a = none → b2.get? a = none) : ∀ {l : List Env}, h.FunFrames b1 l → h.FunFrames b2 l
 | [], _ => trivial
 | _ :: _, ⟨x1, ⟨L, o, x2, x3, x4⟩, x5⟩ => ⟨x1, ⟨L, o, x2, k _ x3, x4⟩, funFrames_less k x5⟩
theorem tracedZ_less {h b1 b2 : Heap} {v : Value} (k : ∀ a, b1.get? a = none → b2.get? a = none) (t : HandSPX.TracedZ h b1 e Z v) : HandSPX.TracedZ h b2 e Z v := by
 obtain ⟨oe, vs, T, oT, ts, h1, h2, h3, h4, h5, r⟩ := t
 exact ⟨oe, vs, T, oT, ts, h1, h2, h3, h4, k _ h5, r⟩
theorem tracedZ_same {h h2 b1 : Heap} {v : Value} {m m2 : Str → Option Value} (hn : h.Ns C m) (hs : Heap.SameBut C h h2) (t : HandSPX.TracedZ h b1 e Z v) : HandSPX.TracedZ h2 b1 e Z v := by
 obtain ⟨oe, vs, T, oT, ts, g1, g2, g3, g4, g5, g6, g7, g8, g9⟩ := t
 obtain ⟨oL, es, ep, hoL, hdL, _⟩ := hn
 have ne : ∀ {b o ws}, h.get? b = some o → o.data = .fields ws → b ≠ C := fun {b o ws} x y z => by
   rw [z, hoL] at x; injection x with x; subst x
   rw [hdL] at y; cases y
 exact ⟨oe, vs, T, oT, ts, (hs.2 _ (ne g1 g3)).trans g1, g2, g3, g4, g5, g6, (hs.2 _ (ne g7 g8)).trans g7, g8, g9⟩
end
section
variable {X : Cx} {pins : List (Addr × Obj)} {σ : L2.St} {s3 : Shared} {H3 : Hp} {W : WX} {scope : Scope} {ce : Env} {fp : List Addr} {acc : Value} {use : Option (Value → Sem Unit)} {Qf : Value → Shared → Prop} {L : Addr}
theorem XB.out (f : Fl X W) (hL : X.env.frame = some L) (hce : ce.frame = X.env.frame) (cL : ce.locals = s3.heap.objs.size) (I3 : Inv X pins σ H3 s3) (f3 : ∀ b ∈ fp, FpOk X pins H3 b ∧ b < s3.heap.objs.size) {u : Value} {s' : Shared}
   (x : XB (X.blk s3 H3 scope ce fp) (fun cls d _ H' => W cls d σ H') L u s') :
   notedBy (model X.prog X.w) X.A ce (fun e s' => compEnds (model X.prog X.w) X.A X.xe use Qf acc ce (.error e) s') u s' := by
 obtain ⟨L', e0, o0, hs, h0, h0', fl⟩ := f
 obtain rfl : L' = L := Option.some.inj (h0'.symm.trans hL)
 obtain ⟨a, B, sI, pins', σ', H', cls, d, rfl, I6, nb, up, sky, na, os, ag, w⟩ := x
 have hfr : X.A.frames = some (e0 :: o0) := by rw [← hs]; exact I3.ok.frames
 have nC : H' ce.locals = none := I6.free
 have hltL : L' < s3.heap.objs.size := by
   have z : L' ∈ frs X.stack := by rw [hs]; show L' ∈ List.filterMap _ _; rw [List.filterMap_cons, h0]; exact List.mem_cons_self
   rcases List.mem_cons.mp (I3.stkSub _ z) with z | z
   · rw [z]; exact I3.lt
   · obtain ⟨_, o, e, _⟩ := I3.ok.funs.mem z
     exact Nat.lt_of_lt_of_le (Heap.lt_size e) I3.sz
 have hCL : ce.locals ≠ L' := by rw [cL]; exact Nat.ne_of_gt hltL
 have hCs : ce.locals ∉ frs X.stack := fun z => by
   rcases List.mem_cons.mp (I3.stkSub _ z) with z | z
   · have := I3.lt
     rw [← z, cL] at this
     exact absurd this (Nat.lt_irrefl _)
   · obtain ⟨_, o, e, _⟩ := I3.ok.funs.mem z
     have := Nat.lt_of_lt_of_le (Heap.lt_size e) I3.sz
     rw [cL] at this
     exact absurd this (Nat.lt_irrefl _)
 obtain ⟨m, hm, _⟩ := I6.loc
 have hm : sI.heap.Ns ce.locals m := hm
 have I7 : Inv X pins σ H' sI := I3.call' (ch := fp) I6.os I6.base I6.hok I6.bare fun b hb => ⟨(f3 b hb).1.2.2.2.1, (f3 b hb).1.2.1, (f3 b hb).1.2.2.2.2.1, (f3 b hb).1.2.2.2.2.2⟩
 have fin : ∀ h1, HandSPX.HeldZ B (e0 :: o0) a (L2N.Zn cls d) L' h1 → s'.heap.UpToSlots h1 → compEnds (model X.prog X.w) X.A X.xe use Qf acc ce (.error (.ref a)) { s' with heap := h1 } := fun h1 hh up1 => by
   have up2 := up.trans up1
   have key : CompFails (model X.prog X.w) X.A X.xe ce (.ref a) { s' with heap := h1 } := by
     refine ⟨m, hm.upToSlots fun b o e nf => up2 b o e nf, fun h2 m2 hn2 hs2 => ?_⟩
     have hs2 : Heap.SameBut ce.locals h1 h2 := hs2
     obtain ⟨b1, b0, f1, t1⟩ := hh
     obtain ⟨B2, g1, g2⟩ := restrict B fun b => decide (b ≠ ce.locals)
     obtain ⟨G2, q1, q2⟩ := restrict sI.heap fun b => decide (b ≠ ce.locals)
     have less : ∀ b, B.get? b = none → B2.get? b = none := fun b e => by
       by_cases hb : b = ce.locals
       · exact g2 b (by simp [hb])
       · rw [g1 b (by simp [hb]), e]
     have t2 : HandSPX.TracedZ h2 B2 a (L2N.Zn cls d) (rawInt L') := tracedZ_less less (tracedZ_same (m2 := m2) (hm.upToSlots fun b o e nf => up2 b o e nf) hs2 t1)
     have st2 : B2.StaysIn h2 := fun b o e => by
       by_cases hb : b = ce.locals
       · rw [g2 b (by simp [hb])] at e; cases e
       · rw [g1 b (by simp [hb])] at e
         exact (hs2.2 b hb).trans (b1 b o e)
     have f2 : h2.FunFrames B2 (e0 :: o0) := funFrames_less less (Heap.FunFrames.sameBut hs2 hn2 f1)
     obtain ⟨oe, vs, T, oT, ts, x1, x2, x3, x4, x5⟩ := id t2
     unfold PySem.passOn
     refine wpAny_bind (wpAny_field x1 x3 x4 ?_)
     rw [if_neg (show ¬ ((Value.ref T == Value.none) = true) from by simp)]
     rw [hce, hL]
     refine wpAny_bind (HandSPX.setFlight_anyZ st2 f2 t2 fun h3 k1 k2 k3 k4 => ?_)
     refine wpAny_throw ?_
     refine fl _ _ ⟨a, B2, { sI with heap := G2 }, pins, σ, H', cls, d, rfl, ?_, fun b o e hb => ?_, fun b o e nf => ?_, .inr ?_, na, os, ag, w⟩
     · refine Inv.wish ?_ _
       obtain ⟨y0, y1, y2, y3, y4, y5⟩ := I3.fpOk (H' := H') (b := ce.locals) (by rw [cL]; exact Nat.le_refl _) nC
       exact I7.turned (it := ce.locals) (t' := sI.toks) (fun b o hb e => by rw [q1 b (by simp [hb])]; exact e) y0 y1 y3 y4 y5
     · by_cases hc : b = ce.locals
       · have e : G2.get? b = some o := e
         rw [q2 b (by simp [hc])] at e; cases e
       · have e : G2.get? b = some o := e
         rw [q1 b (by simp [hc])] at e
         rw [g1 b (by simp [hc])]
         exact nb b o e hb
     · have e : G2.get? b = some o := e
       by_cases hc : b = ce.locals
       · rw [q2 b (by simp [hc])] at e; cases e
       · rw [q1 b (by simp [hc])] at e
         obtain ⟨sl, e1⟩ := up2 b o e nf
         obtain ⟨sl2, e2⟩ := k4 b _ ((hs2.2 b hc).trans e1) nf
         exact ⟨sl2, e2⟩
     · rw [hs]
       exact ⟨k1, less _ b0, k2, k3⟩
   cases use <;> exact key
 show wpAny _ _ (noteFrame (.ref a) ce) _ _ s'
 rw [noteFrame_env (env := e0) _ (by rw [hce, hL, h0])]
 have sky : Sky B (e0 :: o0) a (L2N.Zn cls d) ce.locals s'.heap ∨ HandSPX.HeldZ B (e0 :: o0) a (L2N.Zn cls d) L' s'.heap := by rw [← hs]; exact sky
 rcases sky with (⟨hB, hn, hl, oe, vs, he, hz, hd, h1⟩ | fl2 | hh) | hh
 · exact PXN.look_newZ L2N.Zn.steady hfr hl h0 he hB hn hd h1 hz fin
 · exact PXN.looks_onZ L2N.Zn.steady hfr h0 fl2 fin
 · exact looks_any L2N.Zn.steady hfr h0 hCL hh fin
 · exact HandSPX.againZ h0 hh.2.2.2 (fin s'.heap hh (Heap.UpToSlots.refl _))
end
abbrev blkX (X : Cx) (s : Shared) (H : Hp) (scope : Scope) (ce : Env) (fp : List Addr) (W : WX) (L : Addr) : Cx := (X.blk s H scope ce fp).wish (XB (X.blk s H scope ce fp) W L)
theorem Fl.blk {X : Cx} {W W' : WX} {L : Addr} (f : Fl X W) (hL : X.env.frame = some L) {s : Shared} {H : Hp} {scope : Scope} {C : Addr} {cl : List (Str × Addr)} {fp : List Addr} : Fl (blkX X s H scope (compEnvC scope cl C X.env) fp W' L) W' := by
 obtain ⟨L', e0, o0, hs, h0, h0', _⟩ := f
 obtain rfl : L' = L := Option.some.inj (h0'.symm.trans hL)
 exact ⟨L', e0, o0, hs, h0, h0', fun u s' x => x⟩
section
variable {X : Cx}
theorem lc_coreX {pins : List (Addr × Obj)} {s : Shared} {σ : L2.St} {H : Hp} {Q : VK} {elt tg iter : Expr} {ifs : List Expr} {scope : Scope} {own : List (Str × Nat)} {pos pos' : Pos} {wi : TI} {g : TG} {tt : TT} {te : L2.St → TE} {use : Option (Value → Sem Unit)} {Qf : Value → Shared → Prop}
   {W : WX} {L : Addr} (fx : Fl X W) (hL : X.env.frame = some L)
   (hc : X.calm = true) (hN : X.N.Nodup) (I : Inv X pins σ H s) (hi : PI X tg iter wi) (ok : BlkOk X.N X.env.scope scope own)
   (hg : ∀ (s : Shared) (H : Hp) (C : Addr) (cl : List (Str × Addr)) (fp : List Addr), PG (X.blk s H scope (compEnvC scope cl C X.env) fp) tg g) (ht : ∀ (s : Shared) (H : Hp) (C : Addr) (cl : List (Str × Addr)) (fp : List Addr), PTs (X.blk s H scope (compEnvC scope cl C X.env) fp) ifs tt)
   (he : ∀ (σ0 : L2.St) (s : Shared) (H : Hp) (C : Addr) (cl : List (Str × Addr)) (fp : List Addr), PE (blkX X s H scope (compEnvC scope cl C X.env) fp (fun cls d _ H' => W cls d σ0 H') L) elt (te σ0)) (hs : ∀ x, foldedSetIterable iter X.env x = pure x)
   (h : tLc wi g tt (te σ) (own.map (·.2)) σ H Q)
   (hRR : ∀ D C s' m H' cl, Inv X pins σ H' s' → Q (.ref D) H' → s'.heap.Ns C m → FpOk X pins H' C → compEnds (model X.prog X.w) X.A X.xe use Qf (.ref D) (compEnvC scope cl C X.env) (.ok .next) s') :
   wpAny (model X.prog X.w) X.A (comprehension (.ListComp elt [⟨tg, iter, ifs, 0⟩] scope pos) scope X.env pos' (newList []) false (eval iter X.env) use) Qf X.xe s := by
 have hfree : ∀ y ∈ scope.names, y.2 = .free → ∃ c, X.env.cells.lookup y.1 = some c := fun y hy e => by
   rcases ok.free y hy e with k | k
   · exact I.ok.has _ (.inl k)
   · exact I.ok.has _ (.inr k)
 refine comprehension_at (use := use) rfl hs (closure_ok hfree) ok.kind (fun y hy e => by rw [ok.uniq y hy, e])
   (thn (hi.run pins s σ H _ I h) fun xv s1 hx => thn hx fun itv s2 h2 => ?_)
 obtain ⟨it, fp, tn, J, H2, e, I2, T, st2, f2, q⟩ := h2
 subst e
 refine wpAny_newObj_type (newEnv_comp ?_) (by show 0 ≤ sizeLine; decide)
 generalize hD : s2.heap.objs.size = D
 have hDn : H2 D = none := I2.hok.fresh (Nat.le_of_eq hD)
 obtain ⟨Wt, ⟨m0, w0⟩, turn⟩ := q D hDn
 generalize hs3 : ({ s2 with heap := s2.heap.push { cls := .type "list", data := .seq ([] : List Value).toArray } } : Shared) = s3
 have I3 : Inv X pins σ (upd H2 D (.lst [])) s3 := by
   rw [← hs3]
   refine I2.laid (t' := s2.toks) (fun b o e => Heap.get?_push_of_some _ e) (Nat.le_of_eq hD) ⟨Nat.zero_le _, [], 0, .nil, ?_⟩
   rw [← hD]
   exact Heap.get?_push_size _ rfl
 have h3 : s3.heap = s2.heap.push { cls := .type "list", data := .seq ([] : List Value).toArray } := by rw [← hs3]
 have sz : ∀ b ∈ fp, b < s2.heap.objs.size := fun b hb => by
   obtain ⟨o, e, _⟩ := T.obj _ _ st2 b hb
   exact Heap.lt_size e
 have f3 : ∀ b ∈ fp, FpOk X pins (upd H2 D (.lst [])) b ∧ b < s3.heap.objs.size := fun b hb => by
   have hlt := sz b hb
   refine ⟨⟨?_, (f2 b hb).2⟩, by rw [h3, Heap.size_push]; exact Nat.lt_succ_of_lt hlt⟩
   rw [upd_ne (by rw [← hD]; exact Nat.ne_of_lt hlt)]
   exact (f2 b hb).1
 have st3 : tn 0 s3.heap := T.keep _ _ _ st2 fun b _ o e => by rw [h3]; exact Heap.get?_push_of_some _ e
 have I4 := block_start I3 ok hN f3
 have pg := hg s3 (upd H2 D (.lst [])) s3.heap.objs.size (cellsFrom (s3.heap.objs.size + 1) scope.names (cloFrom X.env.cells scope.names [])) fp
 have pt := ht s3 (upd H2 D (.lst [])) s3.heap.objs.size (cellsFrom (s3.heap.objs.size + 1) scope.names (cloFrom X.env.cells scope.names [])) fp
 have pe := he σ s3 (upd H2 D (.lst [])) s3.heap.objs.size (cellsFrom (s3.heap.objs.size + 1) scope.names (cloFrom X.env.cells scope.names [])) fp
 have hRR' := fun D s' m H' => hRR D s3.heap.objs.size s' m H' (cellsFrom (s3.heap.objs.size + 1) scope.names (cloFrom X.env.cells scope.names []))
 show codeAny _ _ (.compStart (.ListComp elt [⟨tg, iter, ifs, 0⟩] scope pos) 0 (.ref it) (.ref D) (compEnvC scope (cellsFrom (s3.heap.objs.size + 1) scope.names (cloFrom X.env.cells scope.names [])) s3.heap.objs.size X.env)) (compEnds (model X.prog X.w) X.A X.xe use Qf (.ref D) (compEnvC scope (cellsFrom (s3.heap.objs.size + 1) scope.names (cloFrom X.env.cells scope.names [])) s3.heap.objs.size X.env)) { s3 with heap := pushCells (s3.heap.push { cls := .type "dict", data := .dict #[] }) scope.names }
 have nfp : ∀ b ∈ fp, (upd H2 D (.lst [])) b = none := fun b hb => (f3 b hb).1.1
 have cF : (compEnvC scope (cellsFrom (s3.heap.objs.size + 1) scope.names (cloFrom X.env.cells scope.names [])) s3.heap.objs.size X.env).frame = X.env.frame := rfl
 generalize hce : compEnvC scope (cellsFrom (s3.heap.objs.size + 1) scope.names (cloFrom X.env.cells scope.names [])) s3.heap.objs.size X.env = ce at I4 pg pt pe cF hRR' ⊢
 have cL : ce.locals = s3.heap.objs.size := by subst hce; rfl
 generalize hH3 : upd H2 D (.lst []) = H3 at I3 I4 pg pt pe w0 nfp f3
 generalize hs4 : ({ s3 with heap := pushCells (s3.heap.push { cls := .type "dict", data := .dict #[] }) scope.names } : Shared) = s4 at I4 ⊢
 have st4 : tn 0 s4.heap := T.keep _ _ _ st3 fun b _ o e => by rw [← hs4]; exact pushCells_keeps _ _ _ _ (Heap.get?_push_of_some _ e)
 have stat : ∀ {σ' : L2.St} {H' : Hp} {s' : Shared}, Inv (X.blk s3 H3 scope ce fp) [] σ' H' s' → (∀ b ∈ fp, H' b = none) → ∀ b ∈ fp, FpOk (X.blk s3 H3 scope ce fp) [] H' b := fun {σ' H' s'} I' hn b hb =>
   ⟨hn b hb, (I'.ok.exf b hb).1, I'.ok.exfs b hb, .inl hb, fun x c e => (I'.ok.exf b hb).2 x c e, fun p hp => absurd (show p ∈ ([] : List (Addr × Obj)) ++ [] from hp) (by simp)⟩
 have loop : codeAny (model X.prog X.w) X.A (.compLoop (.ListComp elt [⟨tg, iter, ifs, 0⟩] scope pos) 0 (.ref it) (.ref D) ce) (compEnds (model X.prog X.w) X.A X.xe use Qf (.ref D) ce) s4 := by
   refine compLoop_any (fun n s' => ∃ i H', Inv (X.blk s3 H3 scope ce fp) [] (wipe σ (own.map (·.2))) H' s' ∧ tn i s'.heap ∧ (∀ b ∈ fp, H' b = none) ∧ Wt i n H') ?_ m0 ⟨0, H3, I4, st4, nfp, w0⟩
   rintro n s5 ⟨i, H5, I5, st5, n5, w5⟩
   rcases turn i n H5 w5 with ⟨stop, qq⟩ | ⟨go, Nx, hNx, step⟩
   · have td := T.done (X.blk s3 H3 scope ce fp) rfl rfl rfl hc i [] s5 _ H5 (fun _ _ => False) I5 (stat I5 n5) st5 stop
     refine thnF td fun r s6 ⟨hr, I6⟩ => ?_
     subst hr
     have I7 : Inv X pins σ H5 s6 := I3.call' (ch := fp) I6.os I6.base I6.hok I6.bare fun b hb => ⟨(f3 b hb).1.2.2.2.1, (f3 b hb).1.2.1, (f3 b hb).1.2.2.2.2.1, (f3 b hb).1.2.2.2.2.2⟩
     have nC : H5 s3.heap.objs.size = none := by
       have z : H5 ce.locals = none := I6.free
       rw [cL] at z
       exact z
     obtain ⟨m, hn, _⟩ := I6.loc
     have hn : s6.heap.Ns ce.locals m := hn
     rw [cL] at hn
     exact hRR' D s6 m H5 I7 qq hn (I3.fpOk (Nat.le_refl _) nC)
   · have ti := T.item (X.blk s3 H3 scope ce fp) rfl rfl rfl hc i [] s5 _ H5 (fun _ _ => False) I5 (stat I5 n5) st5 go
     refine thnF ti fun r s6 ⟨u, hr, h6⟩ => ?_
     subst hr
     refine thnF h6 fun _ s7 ⟨x, H7, I7, r7, y7, st7, n7⟩ => ?_
     have I7' := I7.pinned (stat I7 n7) (T.obj _ _ st7)
     refine thnF (pg.run _ s7 _ H7 x u _ I7' r7 (step x H7 y7)) fun _ s8 ⟨σ8, H8, I8, hw8, q8⟩ => ?_
     refine thnF (pt.run _ s8 σ8 H8 _ I8 q8) fun b s9 ⟨H9, I9, q9⟩ => ?_
     have fin : ∀ {s' : Shared} {H' : Hp}, Inv (X.blk s3 H3 scope ce fp) ([] ++ pinsAt fp s7.heap) σ8 H' s' → Nx H' → ∃ m, m < n ∧ ∃ i H', Inv (X.blk s3 H3 scope ce fp) [] (wipe σ (own.map (·.2))) H' s' ∧ tn i s'.heap ∧ (∀ b ∈ fp, H' b = none) ∧ Wt i m H' := fun {s' H'} I' nx => by
       obtain ⟨m', hm, w'⟩ := hNx H' nx
       have pin' : ∀ b ∈ fp, ∀ o, s7.heap.get? b = some o → s'.heap.get? b = some o ∧ H' b = none := fun b hb o e =>
         let z := I'.pin (b, o) (List.mem_append_right _ (List.mem_append_right _ (mem_pinsAt hb e)))
         ⟨z.1, z.2.1⟩
       have hl : (wipe σ (own.map (·.2))).length = σ8.length := by rw [← hw8, wipe_length]
       refine ⟨m', hm, i + 1, H', (I'.unpinned (pins := [])).weak hl (fun j v e => ?_), T.keep _ _ _ st7 fun b hb o e => (pin' b hb o e).1, fun b hb => ?_, w'⟩
       · rw [← hw8] at e
         exact (wipe_some e).1
       · obtain ⟨o, e, _⟩ := T.obj _ _ st7 b hb
         exact (pin' b hb o e).2
     cases b with
     | false =>
       simp only [Bool.false_eq_true, if_false] at q9 ⊢
       exact fin I9 q9
     | true =>
       simp only [if_true] at q9 ⊢
       refine wpAny_mono (pe.run _ s9 σ8 H9 _ (I9.wish _) q9) (fun z s10 ⟨yv, H10, I10, r10, acc, hD10, hz10, nx⟩ => ?_) fun u s' x => XB.out fx hL cF cL I3 f3 x
       exact app_ok (X := X.blk s3 H3 scope ce fp) I10.unwish hD10 hz10 r10 fun s11 I11 => fin I11 nx
 exact codeAny_compStart_list loop (T.self X.A 0 _ _ _ st4 loop)
theorem pe_lcX {elt tg iter : Expr} {ifs : List Expr} {scope : Scope} {own : List (Str × Nat)} {pos : Pos} {wi : TI} {g : TG} {tt : TT} {te : L2.St → TE} {W : WX} {L : Addr} (fx : Fl X W) (hL : X.env.frame = some L) (hc : X.calm = true) (hN : X.N.Nodup) (hi : PI X tg iter wi) (ok : BlkOk X.N X.env.scope scope own)
   (hg : ∀ (s : Shared) (H : Hp) (C : Addr) (cl : List (Str × Addr)) (fp : List Addr), PG (X.blk s H scope (compEnvC scope cl C X.env) fp) tg g) (ht : ∀ (s : Shared) (H : Hp) (C : Addr) (cl : List (Str × Addr)) (fp : List Addr), PTs (X.blk s H scope (compEnvC scope cl C X.env) fp) ifs tt)
   (he : ∀ (σ0 : L2.St) (s : Shared) (H : Hp) (C : Addr) (cl : List (Str × Addr)) (fp : List Addr), PE (blkX X s H scope (compEnvC scope cl C X.env) fp (fun cls d _ H' => W cls d σ0 H') L) elt (te σ0)) (hs : ∀ x, foldedSetIterable iter X.env x = pure x) :
   PE X (.ListComp elt [⟨tg, iter, ifs, 0⟩] scope pos) (fun σ => tLc wi g tt (te σ) (own.map (·.2)) σ) := by
 refine ⟨fun pins s σ H Q I h => ?_⟩
 rw [eval_ListComp]
 refine lc_coreX fx hL hc hN I hi ok hg ht he hs h fun D C s' m H' cl I' q hn f => ⟨m, hn, fun h'' sb => ?_⟩
 obtain ⟨f0, f1, f2, f3, f4, f5⟩ := f
 exact ⟨.ref D, H', I'.turned (t' := s'.toks) (fun b o hb e => (sb.2 b hb).trans e) f0 f1 f3 f4 f5, rfl, q⟩
theorem ps_setLcX {i : Nat} {y : Str} {py : Pos} {elt tg iter : Expr} {ifs : List Expr} {scope : Scope} {own : List (Str × Nat)} {pos spos : Pos} {wi : TI} {g : TG} {tt : TT} {te : L2.St → TE} {W : WX} {L : Addr} (fx : Fl X W) (hL : X.env.frame = some L) (hc : X.calm = true) (hN : X.N.Nodup) (hy : X.N[i]? = some y) (hyl : X.env.scope.names.lookup y = some .local)
   (hsw : swapsWith (.ListComp elt [⟨tg, iter, ifs, 0⟩] scope pos) (some (.Name y py)) spos.line X.env = pure true) (hi : PI X tg iter wi) (ok : BlkOk X.N X.env.scope scope own)
   (hg : ∀ (s : Shared) (H : Hp) (C : Addr) (cl : List (Str × Addr)) (fp : List Addr), PG (X.blk s H scope (compEnvC scope cl C X.env) fp) tg g) (ht : ∀ (s : Shared) (H : Hp) (C : Addr) (cl : List (Str × Addr)) (fp : List Addr), PTs (X.blk s H scope (compEnvC scope cl C X.env) fp) ifs tt)
   (he : ∀ (σ0 : L2.St) (s : Shared) (H : Hp) (C : Addr) (cl : List (Str × Addr)) (fp : List Addr), PE (blkX X s H scope (compEnvC scope cl C X.env) fp (fun cls d _ H' => W cls d σ0 H') L) elt (te σ0)) (hs : ∀ x, foldedSetIterable iter X.env x = pure x) :
   PS X (.Assign [.Name y py] (.ListComp elt [⟨tg, iter, ifs, 0⟩] scope pos) spos) (tAsg (fun σ => tLc wi g tt (te σ) (own.map (·.2)) σ) (gName i)) := by
 refine ⟨fun pins s σ H D I h => ?_⟩
 rw [exec_Assign_Name_used _ _ _ _ hsw]
 refine wpAny_bind (wpAny_standAt (wpAny_bind ?_))
 show wpAny _ X.A (do let _ ← comprehension (.ListComp elt [⟨tg, iter, ifs, 0⟩] scope pos) scope X.env (firstIterPos [⟨tg, iter, ifs, 0⟩] pos) (newList []) false (eval iter X.env) (some (assign (.Name y py) X.env))) _ _ s
 have h : tLc wi g tt (te σ) (own.map (·.2)) σ H (fun x H1 => gName i x σ H1 D.nx) := h
 refine wpAny_bind (thn (lc_coreX (Qf := fun _ s' => SP X pins D .next s') fx hL hc hN I hi ok hg ht he hs h fun L C s' m H' cl I' q hn f => ?_) fun _ s' hq => wpAny_pure (wpAny_pure hq))
 show wpAny _ _ (assign (.Name y py) X.env (.ref L)) _ _ _
 refine wpAny_assign_Name (store_ok2 (v := V.ref L) I' hN hy (.inl hyl) rfl (fun s2 I2 ⟨a, sb, ha⟩ => ?_) (.inr hyl))
 obtain ⟨f0, f1, f2, f3, f4, f5⟩ := f
 have haC : C ≠ a := by
   rcases ha with z | z
   · rw [z]; exact f1
   · exact fun e => f4 y a z e.symm
 refine ⟨m, hn.sameBut sb haC, fun h3 sb3 => ?_⟩
 exact ⟨_, H', I2.turned (t' := s2.toks) (fun b o hb e => (sb3.2 b hb).trans e) f0 f1 f3 f4 f5, q⟩
end
end Q
namespace PySem.AutoSeq1
theorem list_extend_any (l : Addr) (items : Array Value) (n : Nat) (b : Addr) (items2 : Array Value) (n2 : Nat) (sl : Array (Option Value)) (hc0 : ¬(!items.isEmpty && Builtin.List.listTooLong (items.size + items2.size)) = true) (hc1 : items.size ≤ sizeLine) (hs2 : items.size + items2.size ≤ sizeLine + 1) :
   Meets (Builtin.«list.extend» ⟨[.ref l, .ref b], []⟩) (fun _ R s => s.heap.get? l = some { cls := .type "list", dict := none, data := .seq items n, slots := #[] } ∧ s.heap.get? b = some { cls := .type "list", dict := none, data := .seq items2 n2, slots := sl } ∧ R (.ok (.ret Value.none)) { s with heap := s.heap.update l (Obj.mapSeq fun x => x ++ items2), toks := s.toks }) :=
 .of_wp fun prog w A R s h => by
   obtain ⟨hp, g, d, tk, os⟩ := s; obtain ⟨hl, hb, h⟩ := h; have f1 := idx_int; have f2 := sub_tuple_tuple; have f3 := sub_list_list; have f4 := sub_tuple_list; have f5 := sub_list_tuple;
   have hz' : (items ++ items2).size ≤ sizeLine + 1 := by rw [Array.size_append]; exact hs2
   wp_walk using (wpAny_updateSeq hl rfl (hz := hc1) (_hz' := hz')), wpAny_loadPart' hl, wpAny_loadPart' hb; exact ⟨_, rfl, h⟩
end PySem.AutoSeq1
namespace Q
open PySem L2 PySem.Spec PyProof.Rows
def rExtendS (K : PySem.W.Frag) : V → List V → Hp → VK → Prop := fun x vs H Q => ∃ l b xs zs, x = .ref l ∧ vs = [.ref b] ∧ H l = some (.lst xs) ∧ SqL K H b zs ∧ xs.length + zs.length ≤ sizeLine ∧ Q .non (upd H l (.lst (xs ++ zs)))
theorem mt_extendS {X : Cx} : MtM X "list.extend" (rExtendS X.K) := by
 intro pins s σ H x vs v us Q I rx rv h
 obtain ⟨l, b, xs, zs, rfl, rfl, hH, hB, hz, q⟩ := h
 cases rx
 obtain ⟨u, rfl, ru⟩ := rv.one
 cases ru
 obtain ⟨z, its, n, r, hl, e⟩ := I.lstM hH
 obtain ⟨its2, r2, ⟨⟨c2, d2, dt2, sl2⟩, n2, e2, rfl, rfl, rfl⟩, hl2⟩ := I.list hB
 have len2 := r2.length
 have hsz : its.toArray.size + its2.toArray.size ≤ sizeLine := by rw [List.size_toArray, List.size_toArray]; omega
 have hlong : ¬ (!its.toArray.isEmpty && Builtin.List.listTooLong (its.toArray.size + its2.toArray.size)) = true := by
   rw [notLongL hsz, Bool.and_false]
   exact Bool.false_ne_true
 refine call_meets F.slot_list_extend ⟨_, e, rfl⟩ F.entry_list_extend (F.args_list_extend_2 _ _)
   (AutoSeq1.list_extend_any l its.toArray n b its2.toArray n2 sl2 hlong (by rw [List.size_toArray]; omega) (Nat.le_succ_of_le hsz)) ⟨e, e2, ?_⟩
 refine ⟨.non, _, I.lset (its' := its ++ its2) hH e (by simp) (r.append r2) ?_, rfl, q⟩
 rw [List.length_append]
 omega
end Q
namespace Q
open PySem L2 PySem.Spec PyProof.Rows
structure Caught (X : Cx) (pins : List (Addr × Obj)) (a : Addr) (cls : Value) (d : Option Addr) (t : L2.St) (G : Hp) (s : Shared) : Prop where
 mk ::
 pre : ∃ (B : Heap) (z : Shared), Inv X pins t G z ∧ (∀ b o, z.heap.get? b = some o → b ∉ frs X.stack → B.get? b = some o) ∧ z.heap.UpToSlots s.heap ∧
   HandSPX.FlyingZ B X.stack a (L2N.Zn cls d) s.heap ∧ G a = none ∧ s.os = z.os ∧ AllBare s.gens
def HdR (X : Cx) (hs : List ExceptHandler) (w : Ends → WX) : Prop :=
 ∀ (pins : List (Addr × Obj)) (a : Addr) (cls : Value) (d : Option Addr) (t : L2.St) (G : Hp) (s : Shared) (D : Ends), Caught X pins a cls d t G s → w D cls d t G →
   wpAny (model X.prog X.w) X.A (handleBy (.ref a) X.env hs) (SP X pins D) X.xe s
section
variable {X : Cx} {pins : List (Addr × Obj)} {a : Addr} {cls : Value} {d : Option Addr} {t : L2.St} {G : Hp} {s : Shared}
theorem Caught.inv (c : Caught X pins a cls d t G s) : Inv X pins t G s := by
 obtain ⟨_, z, J, nb, u, f, _, o, g⟩ := c.pre
 exact J.landed nb f.1 u o g
theorem Caught.fresh (c : Caught X pins a cls d t G s) : G a = none := by
 obtain ⟨_, _, _, _, _, _, n, _⟩ := c.pre; exact n
theorem Caught.seen (c : Caught X pins a cls d t G s) (hs : X.stack = X.env :: X.outer) (hf : X.env.frame = some X.env.locals) :
   ∃ o, (∃ us, o.data = .fields us) ∧ s.heap.get? a = some o ∧ L2N.Zn cls d o ∧ Inv (X.suite a ((a, o) :: (X.pn ++ pins))) [] t G s := by
 have J := c.inv
 have n := c.fresh
 obtain ⟨B, _, _, _, _, f, _⟩ := c.pre
 obtain ⟨o, us, e, z, q⟩ := f.there
 have out : ∀ E ∈ X.env :: X.outer, E.frame ≠ some a := fun E hE q' => by
   have hm : a ∈ frs X.stack := by rw [hs]; exact List.mem_filterMap.mpr ⟨E, hE, q'⟩
   obtain ⟨_, o', e', hn⟩ := f.2.2.1.mem hm
   cases e.symm.trans e'
   exact hn _ q
 refine ⟨o, ⟨us, q⟩, e, z, J.suite e q n (fun y => out _ List.mem_cons_self (y ▸ hf)) fun y => ?_⟩
 obtain ⟨E, hE, q'⟩ := List.mem_filterMap.mp y
 exact out E (List.mem_cons_of_mem _ hE) q'
end
section
variable {X : Cx} {hs : List ExceptHandler} {w : Ends → WX} {Wout : WX} {x n : Str} {v : Value} {i : Nat} {np p2 pos : Pos} {y₀ : Stmt} {ys body : List Stmt} {ts : Addr → Value → Option Addr → TS}
theorem hd_out (hst : X.stack = X.env :: X.outer) (hf : X.env.frame = some X.env.locals) (tk : L2N.Takes X Wout) : HdR X [] (fun _ => Wout) := by
 intro pins a cls d t G s D c h
 obtain ⟨B, z, J, nb, u, f, na, o, g⟩ := c.pre
 have up := @HandSPX.setFlight_upZ
 have go : wpAny (model X.prog X.w) X.A (do setFlight (.ref a) X.env.frame; (throw (.ref a) : Sem Flow)) (SP X pins D) X.xe s := by
   refine wpAny_bind ?_
   rw [hf]
   exact up f fun h' q k => wpAny_throw (tk _ _ ⟨a, B, z, pins, t, G, cls, d, rfl, J, nb, u.trans k, .inr (.inr q), na, o, g, h⟩)
 obtain ⟨_, _, _, e, us, T, _, _, q1, _, q2, q3, _⟩ := f
 refine wpAny_handleBy_nil ?_
 unfold PySem.passOn
 refine wpAny_bind (wpAny_field q1 q2 q3 ?_)
 have nn : ((Value.ref T == Value.none) = true) = False := by simp
 simp only [nn, if_false]
 first | exact go | exact wpAny_bind (wpAny_pure go)
def cutE (i : Nat) (D : Ends) : Ends := ⟨fun t => D.nx (t.set i none), D.rt, fun t => D.bk (t.set i none), fun t => D.ct (t.set i none)⟩
theorem cut_end {pins : List (Addr × Obj)} {z : Addr × Obj} {a : Addr} {D : Ends} {f : Flow} {s : Shared} (ok : X.Ok) (hN : X.N.Nodup) (hi : X.N[i]? = some n) (hl : X.env.kindOf n = some .local) (h : SP (X.suite a (z :: (X.pn ++ pins))) [] (cutE i D) f s) :
   wpAny (model X.prog X.w) X.A (do bindName X.env n .none; unbindBehindTheSuite X.env n p2) (fun _ s1 => SP X pins D f s1) X.xe s :=
 match f, h with
 | .next, ⟨_, _, J, q⟩ => gone_ok (J.unsuite ok) hN hi hl fun _ J1 => ⟨_, _, J1, q⟩
 | .brk, ⟨_, _, J, q⟩ => gone_ok (J.unsuite ok) hN hi hl fun _ J1 => ⟨_, _, J1, q⟩
 | .cont, ⟨_, _, J, q⟩ => gone_ok (J.unsuite ok) hN hi hl fun _ J1 => ⟨_, _, J1, q⟩
 | .ret _, ⟨_, _, _, J, r, q⟩ => gone_ok (J.unsuite ok) hN hi hl fun _ J1 => ⟨_, _, _, J1, r, q⟩
theorem nm_load {Y : Cx} {pins : List (Addr × Obj)} {t : L2.St} {G : Hp} {s : Shared} {Q E : Value → Shared → Prop} (hc : Names Y x v) (J : Inv Y pins t G s) (q : Q v s) : wpAny (model Y.prog Y.w) Y.A (eval (.Name x np) Y.env) Q E s := by
 rcases hc with ⟨g, nd, m | ⟨m, b, nn⟩⟩
 · exact ld_glob J g m q nd
 · exact ld_blt J g m b q nn nd
theorem hd_as (hst : X.stack = X.env :: X.outer) (hf : X.env.frame = some X.env.locals) (hN : X.N.Nodup) (hi : X.N[i]? = some n) (hl : X.env.kindOf n = some .local) (hc : Names X x v)
   (su : ∀ (a : Addr) (o : Obj) (cls : Value) (d : Option Addr) (pn : List (Addr × Obj)), L2N.Zn cls d o → (∃ us, o.data = .fields us) → PSs (X.suite a ((a, o) :: pn)) (y₀ :: ys) (ts a cls d)) (r : HdR X hs w) :
   HdR X (.ExceptHandler (some (.Name x np)) (some n) (y₀ :: ys) p2 :: hs) (fun D cls d t G => ∃ b, PySem.W.exmOne X.K cls v = some b ∧ (b = true → ∀ a, G a = none → ts a cls d (cutE i D) (t.set i (some (.ref a))) G) ∧ (b = false → w D cls d t G)) := by
 rintro pins a cls d t G s D c ⟨b, e, yes, no⟩
 obtain ⟨o, _, ho, hz, J⟩ := c.seen hst hf
 have tyo : PySem.W.Looks (model X.prog X.w) s.heap (typeOf (.ref a)) cls := fun _ _ _ _ k q => wpAny_typeOf_ref (k _ _ ho) (hz.1 ▸ q)
 have ask := PySem.W.exm_one (M := model X.prog X.w) c.inv.kIn tyo e
 refine wpAny_handleBy_cons (codeAny_handlers_test (nm_load (Y := X.suite a ((a, o) :: (X.pn ++ pins))) hc J (ask.here ?_))) (fun q => nomatch q)
 cases b
 · exact r pins a cls d t G s D c (no rfl)
 · obtain ⟨B, z, I, nb, u, f, na, o1, g1⟩ := id c.pre
   have again := @HandSPX.lands_againZ
   refine codeAny_handlers_suite_as (again f fun h' f' k => ?_)
   have c' : Caught X pins a cls d t G { s with heap := h' } := ⟨B, z, I, nb, u.trans k, f', na, o1, g1⟩
   obtain ⟨o', hu', _, hz', J'⟩ := c'.seen hst hf
   refine store_ok (X := X.suite a ((a, o') :: (X.pn ++ pins))) (v := .ref a) J' hN hi (show Loc X.env.scope n from .inl hl) rfl (fun s1 J1 => ?_) (.inr hl)
   exact wpAny_mono ((su a o' cls d _ hz' hu').run [] s1 _ G (cutE i D) J1 (yes rfl a na)) (fun f s2 hp => cut_end c.inv.ok hN hi hl hp) fun _ _ q => q.elim
theorem ps_clauses {h₀ : ExceptHandler} {tb : WX → TS} (hst : X.stack = X.env :: X.outer) (hf : X.env.frame = some X.env.locals)
   (hb : ∀ (W : WX) (pn : List (Addr × Obj)) (xe : Value → Shared → Prop), L2N.Takes (X.tr pn xe) W → PassesOwn (model X.prog X.w) X.A X.env xe → PSs (X.tr pn xe) body (tb W)) (hh : HdR X (h₀ :: hs) w) :
   PS X (.Try body (h₀ :: hs) [] [] pos) (fun D => tb (w D) D) := by
 constructor
 intro pins s t G D J h
 have ok := J.ok
 have frA : X.A.frames = some (X.env :: X.outer) := ok.frames.trans (congrArg some hst)
 refine wpAny_Try_except (wpAny_mono ((hb (w D) (X.pn ++ pins) _ (fun u s' q => ?_) PassesOwn.looking).run [] s t G D (J.toTry _) h) (fun f s' q => ?_) fun _ _ q => q)
 · obtain ⟨a, B, z, _, t1, G1, cls, d, rfl, J1, nb, u1, sk, na, o1, g1, w1⟩ := q
   have sk' : Sky B (X.env :: X.outer) a (L2N.Zn cls d) X.env.locals s'.heap := hst ▸ sk
   exact L2N.Sky.land L2N.Zn.steady frA hf sk' fun h' f k => hh pins a cls d t1 G1 _ D ⟨B, z, J1.ofTry ok, nb, u1.trans k, hst ▸ f, na, o1, g1⟩ w1
 · match f, q with
   | .next, ⟨_, _, J1, q⟩ => exact wpAny_execs_nil ⟨_, _, J1.ofTry ok, q⟩
   | .brk, ⟨_, _, J1, q⟩ => exact ⟨_, _, J1.ofTry ok, q⟩
   | .cont, ⟨_, _, J1, q⟩ => exact ⟨_, _, J1.ofTry ok, q⟩
   | .ret _, ⟨_, _, _, J1, r1, q⟩ => exact ⟨_, _, _, J1.ofTry ok, r1, q⟩
end
end Q
namespace Q
open PySem L2 PySem.Spec PyProof.Rows
def rValsL : V → Hp → VK → Prop := fun x H Q => ∃ (d : Addr) (kvs : List (Key × V)), x = .ref d ∧ L2.Rd H d (.dK kvs) ∧ ∀ (H' : Hp) (p : Addr), (∀ b o, H b = some o → H' b = some o) → H p = none → H' p = some (.lst (kvs.map (·.2))) → Q (.ref p) H'
section
variable {X : Cx}
theorem paired_at {α β : Type} {F : α → β → Prop} : ∀ {xs : List α} {ys : List β}, Paired F xs ys → ∀ (i : Nat) (y : β), ys[i]? = some y → ∃ x, xs[i]? = some x ∧ F x y
 | _, _, .nil, _, _, e => nomatch e
 | _, _, .cons r _, 0, _, e => ⟨_, rfl, by cases e; exact r⟩
 | _, _, .cons _ t, i + 1, y, e => paired_at t i y e
theorem vals_by : ∀ (xs : List V) (ys : List Value), xs.length = ys.length → (∀ (i : Nat) x y, xs[i]? = some x → ys[i]? = some y → RelV x y) → Vals xs ys
 | [], [], _, _ => .nil
 | [], _ :: _, z, _ => nomatch z
 | _ :: _, [], z, _ => nomatch z
 | x :: xs, y :: ys, h, k => .cons (k 0 x y rfl rfl) (vals_by xs ys (Nat.succ.inj h) fun i a b e1 e2 => k (i + 1) a b e1 e2)
variable {e : Expr} {te : TE} {p ap cp pos : Pos}
def tValsL (te : TE) : TE := fun σ H Q => te σ H fun x H1 => rValsL x H1 Q
theorem pe_listVals (calm : X.calm = true) (he : PE X e te) (hg : Gl X "list") (hm : X.mg "list" = none) (hv : bootBuiltins "list" = some (.type "list")) (hb : attributeBase e "values" X.env (eval e X.env) = eval e X.env) (hl : (ap.endLine == cp.line) = true) :
   PE X (.Call (.Name "list" p) [.Call (.Attribute e "values" ap) [] [] cp] [] pos) (tValsL te) := by
 constructor
 intro pins s σ H Q I h
 have st : starEach [.Call (.Attribute e "values" ap) [] [] cp] X.env = [(false, eval (.Call (.Attribute e "values" ap) [] [] cp) X.env)] := rfl
 refine wpAny_Call_Name_kw (ld_blt I hg hm hv (PyProof.Rows.callWith_type1 ?_ st rfl))
 rw [st]
 refine Calls.spliced_cons (wpAny_Call_method (T := "dict") (id := "dict.values") hb rfl hl F.plainAttrs_dict F.slot_dict_values F.type_dict_values (thn (he.run pins s σ H _ I h) fun u s1 ⟨x, G, J, r, d, kvs, ex, hd, q⟩ => ?_))
 subst ex
 cases (show u = Value.ref d from r)
 obtain ⟨z, ns, us, kv, o⟩ := L2.Rd.ok hd J.hok
 obtain ⟨ep, at'⟩ := o.dictAt
 have len : kvs.length = us.length := Paired.length kv
 have J2 : Inv X pins σ G { s1 with heap := s1.heap.push { cls := .type "dict_values", data := .fields #[.ref d] } } := J.kept (t' := s1.toks) fun _ _ w => Heap.get?_push_of_some _ w
 refine ⟨o.typeIs, o.mapOf.noDict, show wpAny _ _ (callWith cp (.builtin "dict.values") [.ref d] [] []) _ X.xe s1 from ?_⟩
 refine method_meetsIn F.slot_dict_values F.entry_dict_values rfl (PySem.evalArgs_none ⟨rfl, o.typeIs, F.args_dict_values_1 _, _, meets_dict_values (mixKind X.prog X.w) d ns, ⟨us, o⟩, Calls.spliced_nil ?_⟩)
 refine PySem.W.kdl_call (PySem.W.kdl_values (knd := mixKind X.prog X.w) (kvs := us) (ep := ep)) (J.ok.hd calm) ⟨⟨_, Heap.get?_push_size _ rfl, rfl, rfl⟩, at'.push _⟩ (by omega) fun h' tk acc c keep hL its => ?_
 refine ⟨.ref _, _, J2.laid (t' := tk) (o := .lst (kvs.map (·.2))) keep (Nat.le_refl _) ⟨by rw [List.length_map]; exact z, acc.toList, c, ?_, by rw [Array.toArray_toList]; exact hL⟩, rfl, q _ _ (fun b w e => ?_) (J2.hok.fresh (Nat.le_refl _)) upd_same⟩
 · refine vals_by _ _ (by have := its.1; have e := Array.length_toList (xs := acc); rw [List.length_map]; omega) fun i a b e1 e2 => ?_
   obtain ⟨k, hk⟩ := its.2 i b (by rw [← Array.getElem?_toList]; exact e2)
   obtain ⟨y, h1, h2⟩ := paired_at kv i _ hk
   rw [List.getElem?_map, h1] at e1
   cases e1
   exact h2.2
 · rw [upd_ne fun w => by rw [w] at e; rw [J2.hok.fresh (Nat.le_refl _)] at e; cases e]
   exact e
end
end Q
namespace Q
open PySem L2 PySem.Spec PyProof.Rows
set_option maxRecDepth 100000
section
variable {prog : Program} {w : World} {A : Around} {E : Value → Shared → Prop} {s : Shared}
theorem nextOf_key_item {it d : Addr} {i n ep : Nat} {od : Obj} {es : Array DictEntry} {en : DictEntry} {Q : Value → Shared → Prop} (hit : s.heap.IsKeyIter it d i n ep) (hod : s.heap.get? d = some od) (hdd : od.data = .dict es ep)
   (hsz : es.size = n) (hx : es[i]? = some en) (hQ : ∀ h', h'.IsKeyIter it d (i + 1) n ep → Heap.SameBut it s.heap h' → Q en.key { s with heap := h' }) : wpAny (model prog w) A (Builtin.SmallTypes.nextOf (.ref it)) Q E s := by
 obtain ⟨o, ho, hc, hd⟩ := id hit
 unfold Builtin.SmallTypes.nextOf
 refine wpAny_bind (wpAny_callSpecial?_slot (name := Str.ofString "__next__") hit.typeIs F.slot_dict_keyiterator_next
   (wpAny_call_entry F.slot_dict_keyiterator_next hit.typeIs F.entry_dict_keyiterator_next ?_ (F.args_dict_keyiterator_next_1 _)))
 refine wpAny_bind (wpAny_pure ?_)
 refine wpAny_bind ?_
 refine wpAny_bind ?_
 first | refine wpAny_bind (wpAny_typeNameOfWhole_keyiter hit.typeIs (wpAny_pure ?_)) | refine wpAny_bind (wpAny_typeNameOf_keyiter hit.typeIs (wpAny_pure ?_))
 refine wpAny_bind (wpAny_fieldsOf ho hd ?_)
 have hown : Builtin.Dict_items.ownsTuple "dict_keyiterator" = false := by decide
 simp only [hown, Bool.false_eq_true, if_false]
 show wpAny _ _ (if (Value.ref d == Value.none) = true then _ else _) _ _ s
 rw [if_neg (show ¬ ((Value.ref d == Value.none) = true) from Bool.false_ne_true)]
 refine wpAny_bind (wpAny_pure ?_)
 refine wpAny_bind (wpAny_dictEntries hod hdd ?_)
 rw [if_neg (by rw [hsz]; simp)]
 refine wpAny_bind (wpAny_pure ?_)
 refine wpAny_bind (wpAny_dictEpoch hod hdd ?_)
 rw [if_neg (by simp)]
 refine wpAny_pure ?_
 obtain ⟨hlt', hen⟩ := Array.getElem?_eq_some_iff.mp hx
 simp only [show ¬ ((i : Int) < 0) from by omega, if_false, Int.toNat_natCast, Array.getElem?_eq_getElem hlt']
 refine wpAny_bind ?_
 first | refine wpAny_bind (wpAny_typeNameOfWhole_keyiter hit.typeIs (wpAny_pure ?_)) | refine wpAny_bind (wpAny_typeNameOf_keyiter hit.typeIs (wpAny_pure ?_))
 refine wpAny_bind (wpAny_isOneOf_keyiter hit.typeIs ?_)
 show wpAny _ _ (setField (.ref it) 1 (rawInt ((i : Int) + 1)) >>= _) _ _ s
 refine wpAny_bind (wpAny_setField ho hd (by simp) ?_)
 have hit' : (s.heap.update it (Obj.mapFields (·.setIfInBounds 1 (rawInt ((i : Int) + 1))))).IsKeyIter it d (i + 1) n ep :=
   ⟨_, Heap.get?_update_self _ ho (Obj.isFreed_of_fields (Obj.data_mapFields hd _)), (Obj.cls_mapFields ..).trans hc, by rw [Obj.data_mapFields hd]; simp [rawInt]⟩
 refine wpAny_bind (wpAny_holding ?_)
 refine wpAny_bind (wpAny_isOneOf_keyiter (s := { s with heap := s.heap.update it (Obj.mapFields (·.setIfInBounds 1 (rawInt ((i : Int) + 1)))) }) hit'.typeIs ?_)
 show wpAny _ _ (pure es[i].key) _ _ _
 rw [hen]
 exact wpAny_pure (wpAny_pure ⟨_, rfl, wpAny_pure (hQ _ hit' (Heap.SameBut.update ..))⟩)
theorem nextOf_key_end {it d : Addr} {i n ep : Nat} {od : Obj} {es : Array DictEntry} {Q : Value → Shared → Prop} (hh : A.handled = none) (hit : s.heap.IsKeyIter it d i n ep) (hod : s.heap.get? d = some od) (hdd : od.data = .dict es ep)
   (hsz : es.size = n) (hge : n ≤ i) (hE : ∀ h' e, Heap.ExtBut it s.heap h' → (∃ o, h'.get? e = some o ∧ o.cls = .type "StopIteration") → E (.ref e) { s with heap := h' }) : wpAny (model prog w) A (Builtin.SmallTypes.nextOf (.ref it)) Q E s := by
 obtain ⟨o, ho, hc, hd⟩ := id hit
 unfold Builtin.SmallTypes.nextOf
 refine wpAny_bind (wpAny_callSpecial?_slot (name := Str.ofString "__next__") hit.typeIs F.slot_dict_keyiterator_next
   (wpAny_call_entry F.slot_dict_keyiterator_next hit.typeIs F.entry_dict_keyiterator_next ?_ (F.args_dict_keyiterator_next_1 _)))
 refine wpAny_bind (wpAny_pure ?_)
 refine wpAny_bind ?_
 refine wpAny_bind ?_
 first | refine wpAny_bind (wpAny_typeNameOfWhole_keyiter hit.typeIs (wpAny_pure ?_)) | refine wpAny_bind (wpAny_typeNameOf_keyiter hit.typeIs (wpAny_pure ?_))
 refine wpAny_bind (wpAny_fieldsOf ho hd ?_)
 have hown : Builtin.Dict_items.ownsTuple "dict_keyiterator" = false := by decide
 simp only [hown, Bool.false_eq_true, if_false]
 show wpAny _ _ (if (Value.ref d == Value.none) = true then _ else _) _ _ s
 rw [if_neg (show ¬ ((Value.ref d == Value.none) = true) from Bool.false_ne_true)]
 refine wpAny_bind (wpAny_pure ?_)
 refine wpAny_bind (wpAny_dictEntries hod hdd ?_)
 rw [if_neg (by rw [hsz]; simp)]
 refine wpAny_bind (wpAny_pure ?_)
 refine wpAny_bind (wpAny_dictEpoch hod hdd ?_)
 rw [if_neg (by simp)]
 refine wpAny_pure ?_
 have hge' : es.size ≤ i := by rw [hsz]; exact hge
 simp only [show ¬ ((i : Int) < 0) from by omega, if_false, Int.toNat_natCast, Array.getElem?_eq_none hge']
 refine wpAny_bind ?_
 first | refine wpAny_bind (wpAny_typeNameOfWhole_keyiter hit.typeIs (wpAny_pure ?_)) | refine wpAny_bind (wpAny_typeNameOf_keyiter hit.typeIs (wpAny_pure ?_))
 show wpAny _ _ (setField (.ref it) 0 .none >>= _) _ _ s
 refine wpAny_bind (wpAny_setField ho hd (by simp) ?_)
 show wpAny _ _ (newExc (.type "StopIteration") [] >>= _) _ _ _
 refine wpAny_bind ?_
 simp only [newExc, newTuple]
 refine wpAny_bind (wpAny_newObj_type ?_ (by size_fits))
 refine wpAny_bind (m := firstArgMember _ _) (wpAny_of_eq (a := Value.none) (by first | rfl | (simp only [firstArgMember]; rfl)) ?_)
 refine wpAny_newObj_type ?_ (by size_fits)
 simp only [raiseNew]
 refine wpAny_bind (wpAny_handled ?_)
 first | rw [show A.in1.handled = none from hh] | rw [hh]
 refine wpAny_bind (wpAny_pure (wpAny_throw ?_))
 exact hE _ _ (((Heap.SameBut.update ..).extBut.push _).push _) ⟨_, Heap.get?_push_size _ rfl, rfl⟩
end
theorem draws_keys {prog : Program} {w : World} {A : Around} (hh : A.handled = none) (it d : Addr) (hne : d ≠ it) (od : Obj) (es : Array DictEntry) (ep : Nat) (hdd : od.data = .dict es ep) :
   Draws prog w A it [it, d] es.size (fun i v => ∃ en, es[i]? = some en ∧ v = en.key) (fun i h => h.IsKeyIter it d i es.size ep ∧ h.get? d = some od) where
 live := fun _ _ st => let ⟨o, ho, _⟩ := st.1; ⟨o, ho⟩
 frame := fun _ _ _ st hk => ⟨st.1.at fun o e => hk it (by simp) o e, hk d (by simp) _ st.2⟩
 item := fun i s Q E hi st hQ => by
   refine nextOf_key_item st.1 st.2 hdd rfl (en := es[i]) (by simp [hi]) fun h' hit' hs' => ?_
   exact hQ _ h' s.toks ⟨_, by simp [hi], rfl⟩ ⟨hit', (hs'.2 d hne).trans st.2⟩ hs'
 done := fun s Q E st hE => nextOf_key_end hh st.1 st.2 hdd rfl (Nat.le_refl _) hE
theorem meets_enumerate_newK (l : Addr) (es : Array DictEntry) (ep : Nat) (dct : Option Addr) (sl : Array (Option Value)) (hs : (l == sysModules) = false) (hx : Obj.ExactDict { cls := .type "dict", dict := dct, data := .dict es ep, slots := sl }) :
   Meets (Builtin.«enumerate.__new__» ⟨[.type "enumerate", .ref l], []⟩) (fun _ R s => s.heap.get? l = some { cls := .type "dict", dict := dct, data := .dict es ep, slots := sl } ∧
     R (.ok (.ret (.ref (s.heap.push { cls := .type "dict_keyiterator", data := .fields #[.ref l, .int 0 0, .int es.size 0, .int ep 0] }).objs.size)))
       { s with heap := (s.heap.push { cls := .type "dict_keyiterator", data := .fields #[.ref l, .int 0 0, .int es.size 0, .int ep 0] }).push { cls := .type "enumerate", data := .fields #[.none, .bool false, .ref s.heap.objs.size, rawInt 0, .none, .none] } }) :=
 .of_wp fun prog w A R s h => by
   obtain ⟨hp, g, d, tk, os⟩ := s; obtain ⟨hl, h⟩ := h
   have hsub := sub_enumerate
   wp_walk using AutoSeq1.wpAny_loadPart' hl
   refine wpAny_stack_any fun st => wpAny_pure ?_
   split
   · rename_i c _ _ _ _ _
     cases (c == Value.type "enumerate")
     · wp_walk using AutoSeq1.wpAny_loadPart' hl, L2.iter_keys hs hl hx rfl
       exact ⟨_, rfl, h⟩
     · wp_walk using AutoSeq1.wpAny_loadPart' hl, L2.iter_keys hs hl hx rfl
       exact ⟨_, rfl, h⟩
   · wp_walk using AutoSeq1.wpAny_loadPart' hl, L2.iter_keys hs hl hx rfl
     exact ⟨_, rfl, h⟩
theorem call_enumerate_keys {prog : Program} {w : World} {A : Around} {E : Value → Shared → Prop} {s : Shared} {l : Addr} {od : Obj} {es : Array DictEntry} {ep : Nat} {Q : Value → Shared → Prop} (hs : (l == sysModules) = false) (hl : s.heap.get? l = some od) (hx : od.ExactDict) (hdat : od.data = .dict es ep)
   (h : ∀ h', IsEnum h' (s.heap.objs.size + 1) s.heap.objs.size 0 .none → h'.IsKeyIter s.heap.objs.size l 0 es.size ep → h'.objs.size = s.heap.objs.size + 2 →
     (∀ b o, s.heap.get? b = some o → h'.get? b = some o) → Q (.ref (s.heap.objs.size + 1)) { s with heap := h' }) :
   wpAny (model prog w) A (call (.type "enumerate") [.ref l]) Q E s := by
 obtain ⟨c, dct, dt, sl⟩ := od
 have hc : c = .type "dict" := hx.1
 have hd : dt = .dict es ep := hdat
 subst hc hd
 refine callType_new F.called_enumerate (by decide) (F.typeCall_enumerate_1 _) (F.newCall_enumerate_1 _) (fun obj => F.args_object_init_2 obj _) F.entry_enumerate_new
   (meets_enumerate_newK l es ep dct sl hs hx) ⟨hl, ?_⟩
 have hz : (s.heap.push { cls := .type "dict_keyiterator", data := .fields #[.ref l, .int 0 0, .int es.size 0, .int ep 0] }).objs.size = s.heap.objs.size + 1 := Heap.size_push ..
 show _ ∧ _
 rw [hz]
 have he : IsEnum ((s.heap.push { cls := .type "dict_keyiterator", data := .fields #[.ref l, .int 0 0, .int es.size 0, .int ep 0] }).push
     { cls := .type "enumerate", data := .fields #[.none, .bool false, .ref s.heap.objs.size, rawInt 0, .none, .none] }) (s.heap.objs.size + 1) s.heap.objs.size 0 .none := by
   have := Heap.get?_push_size (s.heap.push { cls := .type "dict_keyiterator", data := .fields #[.ref l, .int 0 0, .int es.size 0, .int ep 0] })
     (o := { cls := .type "enumerate", data := .fields #[.none, .bool false, .ref s.heap.objs.size, rawInt 0, .none, .none] }) rfl
   rw [hz] at this; exact this
 refine ⟨⟨_, he, rfl⟩, h _ he ⟨_, Heap.get?_push_of_some _ (Heap.get?_push_size _ rfl), rfl, rfl⟩ (by rw [Heap.size_push, hz]) fun b o x => Heap.get?_push_of_some _ (Heap.get?_push_of_some _ x)⟩
theorem enum_key_end {prog : Program} {w : World} {A : Around} {E : Value → Shared → Prop} {s : Shared} {e it d : Addr} {i n ep : Nat} {j : Int} {old : Value} {od : Obj} {es : Array DictEntry} {Q : Option Value → Shared → Prop} (hh : A.handled = none) (he : IsEnum s.heap e it j old) (hit : s.heap.IsKeyIter it d i n ep) (hod : s.heap.get? d = some od) (hdd : od.data = .dict es ep)
   (hsz : es.size = n) (hge : n ≤ i) (hQ : ∀ h', Heap.ExtBut it s.heap h' → Q none { s with heap := h' }) : wpAny (model prog w) A (pyNext (.ref e)) Q E s := by
 have hT : s.TypeIs (.ref e) "enumerate" := ⟨_, he, rfl⟩
 unfold pyNext
 refine wpAny_bind (wpAny_attempt (wpAny_callSpecial?_slot (name := Str.ofString "__next__") hT F.slot_enumerate_next
   (wpAny_call_entry F.slot_enumerate_next hT F.entry_enumerate_next ?_ (F.args_enumerate_next_1 _))))
 show wpAny _ _ (field (.ref e) 2 >>= _) _ _ _
 refine wpAny_bind (wpAny_field he rfl (x := .ref it) rfl ?_)
 refine wpAny_bind (nextOf_key_end (show A.in1.handled = none from hh) hit hod hdd hsz hge fun h' x he' hx' => ?_)
 obtain ⟨o, ho, hc⟩ := hx'
 refine wpAny_bind (wpAny_isInstance (T := "StopIteration") (b := true) ⟨o, ho, hc⟩ isSubtype_stop ?_)
 exact wpAny_pure (hQ _ he')
def Itet (d : Addr) (o : Obj) (kvs : List (List Key × V)) : It :=
 ⟨fun i H => H d = some (.frz o (.dT kvs)) ∧ i < kvs.length, fun i H v H' => ∃ (T : Addr) (k : List Key) (w : V) (q : Addr), kvs[i]? = some (k, w) ∧ v = .ref T ∧ H T = none ∧ H' = upd H T (.tup [.int (i : Nat), .ref q]) ∧ H q = some (.tup (k.map kV)), fun i H => H d = some (.frz o (.dT kvs)) ∧ kvs.length ≤ i⟩
theorem turn_enumK {P : Program} {w : World} {K : PySem.W.Frag} {elts : List Expr} {kk : Nat} {tpos : Pos} {o : Obj} {es : Array DictEntry} {ep : Nat} {kvs : List (List Key × V)} (d e it : Addr) (hod : o.data = .dict es ep) :
   Turn P w K (.Tuple elts kk tpos) (Itet d o kvs) [e, it] e (fun i h => (∃ old, IsEnum h e it ((i : Nat) : Int) old) ∧ h.IsKeyIter it d i kvs.length ep ∧ e ≠ it ∧ d ≠ it ∧ d ≠ e) where
 mem := by simp
 obj := fun i h st b hb => by
   obtain ⟨⟨old, he⟩, ⟨o, ho, hc, hd⟩, _⟩ := st
   have e' : b = e ∨ b = it := by simpa using hb
   rcases e' with z | z
   · rw [z]; exact ⟨_, he, fun v q => nomatch q⟩
   · rw [z]; exact ⟨o, ho, fun v q => by rw [hd] at q; cases q⟩
 keep := fun i h h' st k => let ⟨⟨old, he⟩, hi, hne⟩ := st; ⟨⟨old, k e (by simp) _ he⟩, hi.at fun o q => k it (by simp) o q, hne⟩
 item := by
   intro X hP hw hK hc i pins s σ H E I hf st hg
   subst hP hw hK
   obtain ⟨⟨old, he⟩, hit, hne, hdi, hde⟩ := st
   obtain ⟨hd, hi⟩ := hg
   obtain ⟨hs, hgd, hx, es', ep', hdt, hsz, ent⟩ := I.frzT hd
   obtain ⟨rfl, rfl⟩ := dict_ep hod hdt
   obtain ⟨⟨k, w⟩, hkv⟩ : ∃ p, kvs[i]? = some p := ⟨kvs[i], List.getElem?_eq_getElem hi⟩
   obtain ⟨en, q, hen, hkey, hq⟩ := ent i k w hkv
   have hel : e < s.heap.objs.size := Heap.lt_size he
   have hil : it < s.heap.objs.size := by obtain ⟨_, q, _⟩ := hit; exact Heap.lt_size q
   have hit0 := hit
   rw [← hsz] at hit0
   refine wpAny_pyNext_enum_itemD (draws_keys (A := X.A.in1) (show X.A.in1.handled = none from I.ok.hd hc) it d hdi o _ _ hdt) he ⟨hit0, hgd⟩ (by omega) hne (by simp [hne, Ne.symm hde]) fun x h' tk ⟨en2, he2, hx2⟩ ho hst hT hsz2 hk => ?_
   rw [hen] at he2
   cases he2
   rw [hkey] at hx2
   subst hx2
   refine ⟨_, rfl, wpAny_letOwnedTupleGo_enum (s := { s with heap := h', toks := tk + 1 }) ho fun h'' he' sb => ?_⟩
   have hT2 : h''.get? s.heap.objs.size = some { cls := .type "tuple", data := .seq #[.int i tk, .ref q] } := (sb.2 _ (Nat.ne_of_gt hel)).trans hT
   have new : ObjOk X.prog X.w (upd H s.heap.objs.size (.tup [.int (i : Nat), .ref q])) h'' s.heap.objs.size (.tup [.int (i : Nat), .ref q]) :=
     ⟨by show 2 ≤ sizeLine; decide, [.int i tk, .ref q], .cons ⟨_, rfl⟩ (.cons rfl .nil), ⟨_, hT2, rfl, _, rfl⟩⟩
   have I1 : Inv X pins σ (upd H s.heap.objs.size (.tup [.int (i : Nat), .ref q])) { s with heap := h'', toks := tk + 1 } :=
     I.turnedNew (ch := [e, it]) (fun b ob hb q => (sb.2 b (fun z => hb (by simp [z]))).trans (hk b ob (fun z => hb (by simp [z])) (fun z => hb (by simp [z])) q)) hf (Nat.le_refl _) new
   refine ⟨.ref s.heap.objs.size, _, I1, rfl, ⟨_, k, w, q, hkv, rfl, I.hok.fresh (Nat.le_refl _), rfl, hq⟩, ⟨⟨.ref q, ?_⟩, ?_, hne, hdi, hde⟩, fun b hb => ?_⟩
   · have e1 : ((i + 1 : Nat) : Int) = (i : Int) + 1 := by omega
     rw [e1]; exact he'
   · rw [← hsz]
     exact hst.1.at fun o q => (sb.2 it (Ne.symm hne)).trans q
   · have hb' : b < s.heap.objs.size := by
       have e' : b = e ∨ b = it := by simpa using hb
       rcases e' with z | z
       · rw [z]; exact hel
       · rw [z]; exact hil
     rw [upd_ne (Nat.ne_of_lt hb')]
     exact (hf b hb).1
 done := by
   intro X hP hw hK hc i pins s σ H E I hf st hg
   subst hP hw hK
   obtain ⟨⟨old, he⟩, hit, hne, hdi, hde⟩ := st
   obtain ⟨hd, hi⟩ := hg
   obtain ⟨hs, hgd, hx, es', ep', hdt, hsz, ent⟩ := I.frzT hd
   obtain ⟨rfl, rfl⟩ := dict_ep hod hdt
   obtain ⟨f0, f1, f2, f3, f4, f5⟩ := hf it (by simp)
   exact enum_key_end (I.ok.hd hc) he hit hgd hod hsz hi fun h' eb => ⟨rfl, I.turned (t' := s.toks) (fun b o hb q => eb b o hb q) f0 f1 f3 f4 f5⟩
 self := fun A i s Q E st h => let ⟨⟨_, he⟩, _⟩ := st; wpAny_pyIter_enum he h
def iEnumK (ta : TA) : TI := fun σ H R => ta σ H fun vs H1 => ∃ d o kvs, vs = [.ref d] ∧ H1 d = some (.frz o (.dT kvs)) ∧ R (Itet d o kvs) H1
theorem pi_enumK {X : Cx} {e : Expr} {ta : TA} {p pos tpos : Pos} {elts : List Expr} {kk : Nat} (hg : Gl X "enumerate") (hm : X.mg "enumerate" = none) (ha : PA X [e] ta) (hs : starEach [e] X.env = [(false, eval e X.env)] := by rfl) :
    PI X (.Tuple elts kk tpos) (.Call (.Name "enumerate" p) [e] [] pos) (iEnumK ta) := by
  refine ⟨fun pins s σ H R I h => ?_⟩
  refine Call_ (ld_blt I hg hm boot_enumerate (PyProof.Rows.callWith_type1 (thn (ha.run pos pins s σ H _ I h) fun us s1 ⟨vs, H1, I1, r1, q1⟩ => ?_) hs rfl))
  obtain ⟨d, o, kvs, ex, hq, q⟩ := q1
  subst ex
  cases r1 with
  | cons r rr =>
    cases rr
    cases r
    obtain ⟨hs', hgd, hx, es, ep, hdt, hsz, ent⟩ := I1.frzT hq
    refine call_enumerate_keys hs' hgd hx hdt fun h' he hit hsz2 hk => wpAny_pyIter_enum he ?_
    have I2 : Inv X pins σ H1 { s1 with heap := h' } := I1.kept (t' := s1.toks) hk
    have hdl : d < s1.heap.objs.size := Heap.lt_size hgd
    rw [hsz] at hit
    refine ⟨s1.heap.objs.size + 1, [s1.heap.objs.size + 1, s1.heap.objs.size], _, _, H1, rfl, I2, turn_enumK d (s1.heap.objs.size + 1) s1.heap.objs.size hdt, ⟨⟨.none, he⟩, hit, Nat.succ_ne_self _, Nat.ne_of_lt hdl, Nat.ne_of_lt (Nat.lt_succ_of_lt hdl)⟩, fun b hb => ?_, q⟩
    have e' : b = s1.heap.objs.size + 1 ∨ b = s1.heap.objs.size := by simpa using hb
    have hle : s1.heap.objs.size ≤ b := by
      rcases e' with z | z
      · rw [z]; exact Nat.le_add_right _ _
      · rw [z]; exact Nat.le_refl _
    exact I1.fpOk hle (I1.hok.fresh hle)
end Q
namespace Q
open PySem PySem.Spec PyProof.Rows L2 L2H HotX
section
variable {prog : Program} {w : World} {A : Around} {E : Value → Shared → Prop} {s : Shared}
theorem iter_neL {it x1 l : Addr} {i : Nat} (hot : HotAt A x1 s.heap) (hit : s.heap.IsListIter it l i) : it ≠ x1 := fun e => by
 obtain ⟨_, o1, vs1, k1, d1, c1⟩ := hot
 obtain ⟨o, ho, hc, hd⟩ := hit
 rw [e, k1] at ho
 cases ho
 rw [d1] at hd
 cases hd
 cases c1
theorem next_end_hotL {it x1 l : Addr} {i : Nat} {items : Array Value} {Q : Option Value → Shared → Prop} (hot : HotAt A x1 s.heap) (hit : s.heap.IsListIter it l i) (hl : s.heap.IsList l items) (hx : items[i]? = none)
   (hQ : ∀ h', (∀ b o, b ≠ it → s.heap.get? b = some o → h'.get? b = some o) → Q none { s with heap := h' }) : wpAny (model prog w) A (pyNext (.ref it)) Q E s := by
 have hne := iter_neL hot hit
 obtain ⟨ob, hob, hcl, hda⟩ := id hit
 obtain ⟨ol, hol, _, nl, hdl⟩ := hl
 unfold pyNext
 refine wpAny_bind (wpAny_attempt (wpAny_callSpecial?_slot (name := Str.ofString "__next__") hit.typeIs slot_listiter_next (wpAny_call_entry slot_listiter_next hit.typeIs entry_listiter_next ?_ (args_listiter_next _))))
 show wpAny _ _ (field (.ref it) 0 >>= _) _ _ s
 refine wpAny_bind (wpAny_field hob hda (x := .ref l) rfl ?_)
 show wpAny _ _ (if (Value.ref l == Value.none) = true then _ else _) _ _ s
 rw [if_neg (show ¬ ((Value.ref l == Value.none) = true) from Bool.false_ne_true)]
 show wpAny _ _ (field (.ref it) 1 >>= _) _ _ s
 refine wpAny_bind (wpAny_field hob hda (x := .int i 0) rfl ?_)
 show wpAny _ _ (seqItems? (.ref l) >>= _) _ _ s
 refine wpAny_bind (wpAny_seqItems hol hdl ?_)
 simp only [Int.toNat_natCast, hx]
 refine wpAny_bind (wpAny_rule (wpAny_bind (wpAny_setField hob hda (by simp) ?_)))
 obtain ⟨hh, o1, vs1, k1, d1, c1⟩ := hot
 refine stop_hot (x1 := x1) ⟨hh, o1, vs1, by rw [Heap.get?_update_other _ _ hne]; exact k1, d1, c1⟩ fun a h' k ⟨ob', e', c'⟩ => ?_
 refine wpAny_bind (wpAny_isInstance (T := "StopIteration") (b := true) ⟨_, e', c'⟩ isSubtype_stop (wpAny_pure (hQ _ fun b o hb e => k b o ?_)))
 rw [Heap.get?_update_other _ _ (Ne.symm hb)]; exact e
end
theorem turn_listH {P : Program} {w : World} {K : PySem.W.Frag} {tg : Expr} (a it : Addr) : L2H.TurnH P w K tg (Itl K a) [it] it (fun i h => h.IsListIter it a i) where
 mem := by simp
 obj := fun i h st b hb => by
   have e : b = it := by simpa using hb
   subst e
   obtain ⟨o, e, c, d⟩ := st
   exact ⟨o, e, fun v z => by rw [d] at z; cases z⟩
 keep := fun i h h' st k => st.at fun o e => k it (by simp) o e
 item := by
   intro X hP hw hK hc i pins s σ H E I hf st hg
   subst hP hw hK
   obtain ⟨xs, x, hq, hx⟩ := hg
   obtain ⟨its, rv, p, hz⟩ := I.list hq
   obtain ⟨u, hu, ru⟩ := rv.get hx
   obtain ⟨f0, f1, f2, f3, f4, f5⟩ := hf it (by simp)
   refine wpAny_pyNext_list_item st p.isList (x := u) (by simpa using hu) fun h' st' sb => ?_
   have I1 : Inv X pins σ H { s with heap := h' } := I.turned (t' := s.toks) (fun b o hb e => (sb.2 b hb).trans e) f0 f1 f3 f4 f5
   obtain ⟨o, e, c, d⟩ := id st'
   exact ⟨u, rfl, go_of (s := { s with heap := h' }) e c d (by decide) ⟨x, H, I1, ru, ⟨rfl, fun ys hy => by rw [I.list_inj hy hq]; exact hx⟩, st', fun b hb => (hf b hb).1⟩⟩
 done := by
   intro X hP hw hK hc i pins s σ H E I hf st hg
   subst hP hw hK
   obtain ⟨xs, hq, hx⟩ := hg
   obtain ⟨its, rv, p, hz⟩ := I.list hq
   obtain ⟨f0, f1, f2, f3, f4, f5⟩ := hf it (by simp)
   have hl := rv.length
   obtain ⟨x1, hot⟩ := hc.at I
   exact next_end_hotL hot st p.isList (by simp; omega) fun h' eb => ⟨rfl, I.turned (t' := s.toks) (fun b o hb e => eb b o hb e) f0 f1 f3 f4 f5⟩
 self := fun _ _ _ _ _ st h => wpAny_pyIter_listiter st h
theorem pi_listH {X : Cx} {tg l : Expr} {tl : TE} (hl : PE X l tl) : L2H.PIH X tg l (iList X.K tl) := by
 refine ⟨fun pins s σ H R I h => ?_⟩
 refine thn (hl.run pins s σ H _ I h) fun v s1 ⟨x, H1, I1, r1, q1⟩ => ?_
 obtain ⟨a, e, ⟨xs, hq⟩, q⟩ := q1
 subst e
 cases r1
 obtain ⟨its, rv, p, hz⟩ := I1.list hq
 refine wpAny_pyIter_list p.isList ?_
 refine ⟨s1.heap.objs.size, [s1.heap.objs.size], _, _, H1, rfl, I1.kept (t' := s1.toks) fun b o e => Heap.get?_push_of_some _ e, turn_listH a _, ⟨_, Heap.get?_push_size _ rfl, rfl, rfl⟩, fun b hb => ?_, q⟩
 have e : b = s1.heap.objs.size := by simpa using hb
 subst e
 exact I1.fpOk (Nat.le_refl _) (I1.hok.fresh (Nat.le_refl _))
end Q
namespace Q
open PySem L2 PySem.Spec PyProof.Rows
abbrev blkH (X : Cx) (s : Shared) (H : Hp) (scope : Scope) (ce : Env) (fp : List Addr) : Cx := { X.blk s H scope ce fp with pn := X.pn }
section
variable {X : Cx}
theorem hotB {s : Shared} {H : Hp} {scope : Scope} {ce : Env} {fp : List Addr} (h : L2H.HotC X) : L2H.HotC (blkH X s H scope ce fp) := h
theorem okH {s : Shared} {H : Hp} {scope : Scope} {ce : Env} {fp : List Addr} (o : (X.blk s H scope ce fp).Ok) : (blkH X s H scope ce fp).Ok := ⟨o.mod, o.kind, o.glob, o.blt, o.above, o.inj, o.has, o.cab, o.hd, o.frames, o.stk, o.exf, o.bs, o.bsz, o.noex, o.exfs, o.funs, o.frf⟩
theorem block_startH {pins : List (Addr × Obj)} {σ : L2.St} {H : Hp} {s : Shared} {scope : Scope} {own : List (Str × Nat)} {fp : List Addr} (I : Inv X pins σ H s) (ok : BlkOk X.N X.env.scope scope own) (hN : X.N.Nodup) (hfp : ∀ b ∈ fp, FpOk X pins H b ∧ b < s.heap.objs.size) :
   Inv (blkH X s H scope (compEnvC scope (cellsFrom (s.heap.objs.size + 1) scope.names (cloFrom X.env.cells scope.names [])) s.heap.objs.size X.env) fp) [] (wipe σ (own.map (·.2))) H { s with heap := pushCells (s.heap.push { cls := .type "dict", data := .dict #[] }) scope.names } := by
 have J := block_start I ok hN hfp
 refine ⟨okH J.ok, J.os, J.bare, J.base, J.loc, J.cell, J.free, J.freeC, fun p hp => ?_, J.hok, J.len⟩
 have hp : p ∈ X.pn := by simpa using hp
 obtain ⟨e, n, ne, nf, d⟩ := I.pin p (List.mem_append_left _ hp)
 refine ⟨pushCells_keeps _ _ _ _ (Heap.get?_push_of_some _ e), n, ?_, fun z => ?_, d⟩
 · show p.1 ≠ s.heap.objs.size
   exact Nat.ne_of_lt (Heap.lt_size e)
 · rcases List.mem_cons.mp (I.stkSub p.1 z) with z | z
   · exact ne z
   · exact nf z
theorem XB.lessH {s : Shared} {H : Hp} {scope : Scope} {ce : Env} {fp : List Addr} {W : WX} {L : Addr} {u : Value} {s' : Shared} (x : XB (blkH X s H scope ce fp) W L u s') : XB (X.blk s H scope ce fp) W L u s' := by
 obtain ⟨a, B, sI, pins, σ, H', cls, d, e, I, nb, up, sky, na, os, ag, w⟩ := x
 refine ⟨a, B, sI, pins, σ, H', cls, d, e, ⟨⟨I.ok.mod, I.ok.kind, I.ok.glob, I.ok.blt, I.ok.above, I.ok.inj, I.ok.has, I.ok.cab, I.ok.hd, I.ok.frames, I.ok.stk, I.ok.exf, I.ok.bs, I.ok.bsz, I.ok.noex, I.ok.exfs, I.ok.funs, I.ok.frf⟩, I.os, I.bare, I.base, I.loc, I.cell, I.free, I.freeC, fun p hp => I.pin p (List.mem_append_right _ (by simpa using hp)), I.hok, I.len⟩, nb, up, sky, na, os, ag, w⟩
end
abbrev blkXH (X : Cx) (s : Shared) (H : Hp) (scope : Scope) (ce : Env) (fp : List Addr) (W : WX) (L : Addr) : Cx := (blkH X s H scope ce fp).wish (XB (blkH X s H scope ce fp) W L)
theorem Fl.blkH {X : Cx} {W W' : WX} {L : Addr} (f : Fl X W) (hL : X.env.frame = some L) {s : Shared} {H : Hp} {scope : Scope} {C : Addr} {cl : List (Str × Addr)} {fp : List Addr} : Fl (blkXH X s H scope (compEnvC scope cl C X.env) fp W' L) W' := by
 obtain ⟨L', e0, o0, hs, h0, h0', _⟩ := f
 obtain rfl : L' = L := Option.some.inj (h0'.symm.trans hL)
 exact ⟨L', e0, o0, hs, h0, h0', fun u s' x => x⟩
section
variable {X : Cx}
theorem lc_coreXH {pins : List (Addr × Obj)} {s : Shared} {σ : L2.St} {H : Hp} {Q : VK} {elt tg iter : Expr} {ifs : List Expr} {scope : Scope} {own : List (Str × Nat)} {pos pos' : Pos} {wi : TI} {g : TG} {tt : TT} {te : L2.St → TE} {use : Option (Value → Sem Unit)} {Qf : Value → Shared → Prop}
   {W : WX} {L : Addr} (fx : Fl X W) (hL : X.env.frame = some L)
   (hc : L2H.HotC X) (hN : X.N.Nodup) (I : Inv X pins σ H s) (hi : L2H.PIH X tg iter wi) (ok : BlkOk X.N X.env.scope scope own)
   (hg : ∀ (s : Shared) (H : Hp) (C : Addr) (cl : List (Str × Addr)) (fp : List Addr), PG (blkH X s H scope (compEnvC scope cl C X.env) fp) tg g) (ht : ∀ (s : Shared) (H : Hp) (C : Addr) (cl : List (Str × Addr)) (fp : List Addr), PTs (blkH X s H scope (compEnvC scope cl C X.env) fp) ifs tt)
   (he : ∀ (σ0 : L2.St) (s : Shared) (H : Hp) (C : Addr) (cl : List (Str × Addr)) (fp : List Addr), PE (blkXH X s H scope (compEnvC scope cl C X.env) fp (fun cls d _ H' => W cls d σ0 H') L) elt (te σ0)) (hs : ∀ x, foldedSetIterable iter X.env x = pure x)
   (h : tLc wi g tt (te σ) (own.map (·.2)) σ H Q)
   (hRR : ∀ D C s' m H' cl, Inv X pins σ H' s' → Q (.ref D) H' → s'.heap.Ns C m → FpOk X pins H' C → compEnds (model X.prog X.w) X.A X.xe use Qf (.ref D) (compEnvC scope cl C X.env) (.ok .next) s') :
   wpAny (model X.prog X.w) X.A (comprehension (.ListComp elt [⟨tg, iter, ifs, 0⟩] scope pos) scope X.env pos' (newList []) false (eval iter X.env) use) Qf X.xe s := by
 have hfree : ∀ y ∈ scope.names, y.2 = .free → ∃ c, X.env.cells.lookup y.1 = some c := fun y hy e => by
   rcases ok.free y hy e with k | k
   · exact I.ok.has _ (.inl k)
   · exact I.ok.has _ (.inr k)
 refine comprehension_at (use := use) rfl hs (closure_ok hfree) ok.kind (fun y hy e => by rw [ok.uniq y hy, e])
   (thn (hi.run pins s σ H _ I h) fun xv s1 hx => thn hx fun itv s2 h2 => ?_)
 obtain ⟨it, fp, tn, J, H2, e, I2, T, st2, f2, q⟩ := h2
 subst e
 refine wpAny_newObj_type (newEnv_comp ?_) (by show 0 ≤ sizeLine; decide)
 generalize hD : s2.heap.objs.size = D
 have hDn : H2 D = none := I2.hok.fresh (Nat.le_of_eq hD)
 obtain ⟨Wt, ⟨m0, w0⟩, turn⟩ := q D hDn
 generalize hs3 : ({ s2 with heap := s2.heap.push { cls := .type "list", data := .seq ([] : List Value).toArray } } : Shared) = s3
 have I3 : Inv X pins σ (upd H2 D (.lst [])) s3 := by
   rw [← hs3]
   refine I2.laid (t' := s2.toks) (fun b o e => Heap.get?_push_of_some _ e) (Nat.le_of_eq hD) ⟨Nat.zero_le _, [], 0, .nil, ?_⟩
   rw [← hD]
   exact Heap.get?_push_size _ rfl
 have h3 : s3.heap = s2.heap.push { cls := .type "list", data := .seq ([] : List Value).toArray } := by rw [← hs3]
 have sz : ∀ b ∈ fp, b < s2.heap.objs.size := fun b hb => by
   obtain ⟨o, e, _⟩ := T.obj _ _ st2 b hb
   exact Heap.lt_size e
 have f3 : ∀ b ∈ fp, FpOk X pins (upd H2 D (.lst [])) b ∧ b < s3.heap.objs.size := fun b hb => by
   have hlt := sz b hb
   refine ⟨⟨?_, (f2 b hb).2⟩, by rw [h3, Heap.size_push]; exact Nat.lt_succ_of_lt hlt⟩
   rw [upd_ne (by rw [← hD]; exact Nat.ne_of_lt hlt)]
   exact (f2 b hb).1
 have st3 : tn 0 s3.heap := T.keep _ _ _ st2 fun b _ o e => by rw [h3]; exact Heap.get?_push_of_some _ e
 have I4 := block_startH I3 ok hN f3
 have pg := hg s3 (upd H2 D (.lst [])) s3.heap.objs.size (cellsFrom (s3.heap.objs.size + 1) scope.names (cloFrom X.env.cells scope.names [])) fp
 have pt := ht s3 (upd H2 D (.lst [])) s3.heap.objs.size (cellsFrom (s3.heap.objs.size + 1) scope.names (cloFrom X.env.cells scope.names [])) fp
 have pe := he σ s3 (upd H2 D (.lst [])) s3.heap.objs.size (cellsFrom (s3.heap.objs.size + 1) scope.names (cloFrom X.env.cells scope.names [])) fp
 have hRR' := fun D s' m H' => hRR D s3.heap.objs.size s' m H' (cellsFrom (s3.heap.objs.size + 1) scope.names (cloFrom X.env.cells scope.names []))
 show codeAny _ _ (.compStart (.ListComp elt [⟨tg, iter, ifs, 0⟩] scope pos) 0 (.ref it) (.ref D) (compEnvC scope (cellsFrom (s3.heap.objs.size + 1) scope.names (cloFrom X.env.cells scope.names [])) s3.heap.objs.size X.env)) (compEnds (model X.prog X.w) X.A X.xe use Qf (.ref D) (compEnvC scope (cellsFrom (s3.heap.objs.size + 1) scope.names (cloFrom X.env.cells scope.names [])) s3.heap.objs.size X.env)) { s3 with heap := pushCells (s3.heap.push { cls := .type "dict", data := .dict #[] }) scope.names }
 have nfp : ∀ b ∈ fp, (upd H2 D (.lst [])) b = none := fun b hb => (f3 b hb).1.1
 have cF : (compEnvC scope (cellsFrom (s3.heap.objs.size + 1) scope.names (cloFrom X.env.cells scope.names [])) s3.heap.objs.size X.env).frame = X.env.frame := rfl
 generalize hce : compEnvC scope (cellsFrom (s3.heap.objs.size + 1) scope.names (cloFrom X.env.cells scope.names [])) s3.heap.objs.size X.env = ce at I4 pg pt pe cF hRR' ⊢
 have cL : ce.locals = s3.heap.objs.size := by subst hce; rfl
 generalize hH3 : upd H2 D (.lst []) = H3 at I3 I4 pg pt pe w0 nfp f3
 generalize hs4 : ({ s3 with heap := pushCells (s3.heap.push { cls := .type "dict", data := .dict #[] }) scope.names } : Shared) = s4 at I4 ⊢
 have st4 : tn 0 s4.heap := T.keep _ _ _ st3 fun b _ o e => by rw [← hs4]; exact pushCells_keeps _ _ _ _ (Heap.get?_push_of_some _ e)
 have stat : ∀ {σ' : L2.St} {H' : Hp} {s' : Shared}, Inv (blkH X s3 H3 scope ce fp) [] σ' H' s' → (∀ b ∈ fp, H' b = none) → ∀ b ∈ fp, FpOk (blkH X s3 H3 scope ce fp) [] H' b := fun {σ' H' s'} I' hn b hb =>
   ⟨hn b hb, (I'.ok.exf b hb).1, I'.ok.exfs b hb, .inl hb, fun x c e => (I'.ok.exf b hb).2 x c e, fun p hp => (f3 b hb).1.2.2.2.2.2 p (List.mem_append_left _ (by simpa using hp))⟩
 have loop : codeAny (model X.prog X.w) X.A (.compLoop (.ListComp elt [⟨tg, iter, ifs, 0⟩] scope pos) 0 (.ref it) (.ref D) ce) (compEnds (model X.prog X.w) X.A X.xe use Qf (.ref D) ce) s4 := by
   refine compLoop_any (fun n s' => ∃ i H', Inv (blkH X s3 H3 scope ce fp) [] (wipe σ (own.map (·.2))) H' s' ∧ tn i s'.heap ∧ (∀ b ∈ fp, H' b = none) ∧ Wt i n H') ?_ m0 ⟨0, H3, I4, st4, nfp, w0⟩
   rintro n s5 ⟨i, H5, I5, st5, n5, w5⟩
   rcases turn i n H5 w5 with ⟨stop, qq⟩ | ⟨go, Nx, hNx, step⟩
   · have td := T.done (blkH X s3 H3 scope ce fp) rfl rfl rfl (hotB hc) i [] s5 _ H5 (fun _ _ => False) I5 (stat I5 n5) st5 stop
     refine thnF td fun r s6 ⟨hr, I6⟩ => ?_
     subst hr
     have I7 : Inv X pins σ H5 s6 := I3.call' (ch := fp) I6.os I6.base I6.hok I6.bare fun b hb => ⟨(f3 b hb).1.2.2.2.1, (f3 b hb).1.2.1, (f3 b hb).1.2.2.2.2.1, (f3 b hb).1.2.2.2.2.2⟩
     have nC : H5 s3.heap.objs.size = none := by
       have z : H5 ce.locals = none := I6.free
       rw [cL] at z
       exact z
     obtain ⟨m, hn, _⟩ := I6.loc
     have hn : s6.heap.Ns ce.locals m := hn
     rw [cL] at hn
     exact hRR' D s6 m H5 I7 qq hn (I3.fpOk (Nat.le_refl _) nC)
   · have ti := T.item (blkH X s3 H3 scope ce fp) rfl rfl rfl (hotB hc) i [] s5 _ H5 (fun _ _ => False) I5 (stat I5 n5) st5 go
     refine thnF ti fun r s6 ⟨u, hr, h6⟩ => ?_
     subst hr
     refine thnF h6 fun _ s7 ⟨x, H7, I7, r7, y7, st7, n7⟩ => ?_
     have I7' := I7.pinned (stat I7 n7) (T.obj _ _ st7)
     refine thnF (pg.run _ s7 _ H7 x u _ I7' r7 (step x H7 y7)) fun _ s8 ⟨σ8, H8, I8, hw8, q8⟩ => ?_
     refine thnF (pt.run _ s8 σ8 H8 _ I8 q8) fun b s9 ⟨H9, I9, q9⟩ => ?_
     have fin : ∀ {s' : Shared} {H' : Hp}, Inv (blkH X s3 H3 scope ce fp) ([] ++ pinsAt fp s7.heap) σ8 H' s' → Nx H' → ∃ m, m < n ∧ ∃ i H', Inv (blkH X s3 H3 scope ce fp) [] (wipe σ (own.map (·.2))) H' s' ∧ tn i s'.heap ∧ (∀ b ∈ fp, H' b = none) ∧ Wt i m H' := fun {s' H'} I' nx => by
       obtain ⟨m', hm, w'⟩ := hNx H' nx
       have pin' : ∀ b ∈ fp, ∀ o, s7.heap.get? b = some o → s'.heap.get? b = some o ∧ H' b = none := fun b hb o e =>
         let z := I'.pin (b, o) (List.mem_append_right _ (List.mem_append_right _ (mem_pinsAt hb e)))
         ⟨z.1, z.2.1⟩
       have hl : (wipe σ (own.map (·.2))).length = σ8.length := by rw [← hw8, wipe_length]
       refine ⟨m', hm, i + 1, H', (I'.unpinned (pins := [])).weak hl (fun j v e => ?_), T.keep _ _ _ st7 fun b hb o e => (pin' b hb o e).1, fun b hb => ?_, w'⟩
       · rw [← hw8] at e
         exact (wipe_some e).1
       · obtain ⟨o, e, _⟩ := T.obj _ _ st7 b hb
         exact (pin' b hb o e).2
     cases b with
     | false =>
       simp only [Bool.false_eq_true, if_false] at q9 ⊢
       exact fin I9 q9
     | true =>
       simp only [if_true] at q9 ⊢
       refine wpAny_mono (pe.run _ s9 σ8 H9 _ (I9.wish _) q9) (fun z s10 ⟨yv, H10, I10, r10, acc, hD10, hz10, nx⟩ => ?_) fun u s' x => XB.out fx hL cF cL I3 f3 (XB.lessH x)
       exact app_ok (X := blkH X s3 H3 scope ce fp) I10.unwish hD10 hz10 r10 fun s11 I11 => fin I11 nx
 exact codeAny_compStart_list loop (T.self X.A 0 _ _ _ st4 loop)
theorem pe_lcXH {elt tg iter : Expr} {ifs : List Expr} {scope : Scope} {own : List (Str × Nat)} {pos : Pos} {wi : TI} {g : TG} {tt : TT} {te : L2.St → TE} {W : WX} {L : Addr} (fx : Fl X W) (hL : X.env.frame = some L) (hc : L2H.HotC X) (hN : X.N.Nodup) (hi : L2H.PIH X tg iter wi) (ok : BlkOk X.N X.env.scope scope own)
   (hg : ∀ (s : Shared) (H : Hp) (C : Addr) (cl : List (Str × Addr)) (fp : List Addr), PG (blkH X s H scope (compEnvC scope cl C X.env) fp) tg g) (ht : ∀ (s : Shared) (H : Hp) (C : Addr) (cl : List (Str × Addr)) (fp : List Addr), PTs (blkH X s H scope (compEnvC scope cl C X.env) fp) ifs tt)
   (he : ∀ (σ0 : L2.St) (s : Shared) (H : Hp) (C : Addr) (cl : List (Str × Addr)) (fp : List Addr), PE (blkXH X s H scope (compEnvC scope cl C X.env) fp (fun cls d _ H' => W cls d σ0 H') L) elt (te σ0)) (hs : ∀ x, foldedSetIterable iter X.env x = pure x) :
   PE X (.ListComp elt [⟨tg, iter, ifs, 0⟩] scope pos) (fun σ => tLc wi g tt (te σ) (own.map (·.2)) σ) := by
 refine ⟨fun pins s σ H Q I h => ?_⟩
 rw [eval_ListComp]
 refine lc_coreXH fx hL hc hN I hi ok hg ht he hs h fun D C s' m H' cl I' q hn f => ⟨m, hn, fun h'' sb => ?_⟩
 obtain ⟨f0, f1, f2, f3, f4, f5⟩ := f
 exact ⟨.ref D, H', I'.turned (t' := s'.toks) (fun b o hb e => (sb.2 b hb).trans e) f0 f1 f3 f4 f5, rfl, q⟩
end
end Q
namespace Q
open PySem PySem.Spec PyProof.Rows L2 L2H HotX
theorem hotAt_keep {A : Around} {x1 : Addr} {h h' : Heap} (p : HotAt A x1 h) (k : ∀ o, h.get? x1 = some o → h'.get? x1 = some o) : HotAt A x1 h' := by
 obtain ⟨a, o, vs, b, c⟩ := p
 exact ⟨a, o, vs, k o b, c⟩
theorem walks_listH {prog : Program} {w : World} {A : Around} {x1 : Addr} (I ax : Addr) (hne : ax ≠ I) (items : Array Value) :
   Walks prog w A I [I, ax, x1] [I] items.size (fun i v => items[i]? = some v) (fun i h => h.IsListIter I ax i ∧ h.IsList ax items ∧ HotAt A x1 h) where
 sub := fun b hb => by simp at hb; simp [hb]
 frame := fun _ _ _ st hk => ⟨st.1.at fun o e => hk I (by simp) o e, st.2.1.at fun o e => hk ax (by simp) o e, hotAt_keep st.2.2 fun o e => hk x1 (by simp) o e⟩
 item := fun i s Q E hi st hQ => by
   have hx : I ≠ x1 := iter_neL st.2.2 st.1
   refine wpAny_pyNext_list_item st.1 st.2.1 (x := items[i]) (by simp [hi]) fun h' hit' hs' => ?_
   exact hQ _ h' s.toks (by simp [hi]) ⟨hit', st.2.1.extBut hs'.extBut hne, hotAt_keep st.2.2 fun o e => (hs'.2 x1 (Ne.symm hx)).trans e⟩ fun b o hb e => hs'.extBut b o (fun h => hb (by simp [h])) e
 done := fun s Q E st hQ => next_end_hotL st.2.2 st.1 st.2.1 (by simp) fun h' he' => hQ h' s.toks fun b o hb e => he' b o (fun h => hb (by simp [h])) e
 self := fun _ _ _ _ st hQ => wpAny_pyIter_listiter st.1 hQ
section
variable {X : Cx}
theorem cr_sumH (hc : HotC X) : CallR X (.builtin "sum") (rSum X.K) := by
 intro pins s σ H vs us Q I r h
 obtain ⟨a, ns, rfl, hs, q⟩ := h
 obtain ⟨its, rv, hl, _⟩ := I.list hs
 rw [Vals.ref1 r]
 obtain ⟨x1, hot⟩ := hc.at I
 have hi := rv.ints
 have hl := hl.isList
 obtain ⟨xs, e⟩ := hi.allInts.items
 have hn : numsOf (intItems xs).toList = ns := by rw [← e]; exact hi.numsOf
 rw [nums_intItems] at hn
 subst hn
 rw [e] at hl
 refine call_sum_walkG (iter_intList hl fun s₂ e st hfp hlI => ?_)
 subst e
 refine ⟨_, _, _, _, _, _, numAt xs, rfl, walks_listH (A := X.A.in1) (x1 := x1) _ a hlI (intItems xs), ⟨st.1, st.2, hotAt_keep (A := X.A.in1) hot fun o e => Heap.get?_push_of_some _ e⟩, fun b hb => ?_, (fun _ _ => intItems_at), fun h' tk t' hk => ?_⟩
 · have hx : x1 < s.heap.objs.size := by
     obtain ⟨_, o, _, e, _⟩ := hot
     exact Heap.lt_size e
   simp only [List.mem_cons, List.not_mem_nil, or_false] at hb
   rcases hb with rfl | rfl | rfl
   · exact hfp _ (by simp)
   · exact hfp _ (by simp)
   · show _ < (s.heap.push _).objs.size
     rw [Heap.size_push]; exact Nat.lt_succ_of_lt hx
 · have e1 : preSum (numAt xs) (intItems xs).size = (List.map (fun x => x.1) xs.toList).sum := by
     rw [show (intItems xs).size = xs.size by simp [intItems], preSum_eq, List.take_of_length_le (by simp)]
   exact ⟨.int _, H, I.kept (old_kept hk), ⟨t', by rw [e1]⟩, q⟩
theorem cr_anyH (hc : HotC X) : CallR X (.builtin "any") (rAny X.K) := by
 intro pins s σ H vs us Q I r h
 obtain ⟨a, bs, rfl, hs, q⟩ := h
 obtain ⟨its, rv, hl, _⟩ := I.list hs
 rw [Vals.ref1 r]
 obtain ⟨x1, hot⟩ := hc.at I
 have hb := rv.bls
 refine call_any_walk (iter_any hl.isList fun s₂ e2 st hne => ?_)
 subst e2
 refine ⟨_, _, _, _, _, _, _, rfl, walks_listH (A := X.A.in1) (x1 := x1) _ a hne its.toArray, ⟨st.1, st.2, hotAt_keep (A := X.A.in1) hot fun o e => Heap.get?_push_of_some _ e⟩, truth_bools hb, fun h' tk hk => ?_⟩
 refine ⟨.bl _, H, I.kept fun b o eo => hk b o (fun hmem => ?_) (Heap.get?_push_of_some _ eo), ?_, q⟩
 · rcases List.mem_cons.mp hmem with e1 | hmem
   · exact absurd (e1 ▸ Heap.lt_size eo) (Nat.lt_irrefl _)
   · cases hmem
 · show Value.bool _ = Value.bool _
   rw [← L2.any_range, hb, List.size_toArray, List.length_map]
end
end Q
namespace Q
open PySem L2 PySem.Spec
abbrev WE (W : WX) : L2.St → XK := fun σ cls d H => W cls d σ H
def tCallD (sp : Sp) (dvs : List V) (E : L2.St → XK) (t : TA) : TE := fun σ H Q => t σ H fun vs H1 => sp (vs ++ dvs) H1 Q (E σ)
def notSt : Expr → Bool
 | .Starred _ _ => false
 | _ => true
theorem starC {x : Expr} {es : List Expr} {env : PySem.Env} (h : notSt x = true) : starEach (x :: es) env = (false, eval x env) :: starEach es env := by
 cases x <;> first | rfl | cases h
def noSt (xs : List Expr) : Bool := xs.all notSt
theorem star_all {pos : Pos} {env : PySem.Env} : ∀ {xs : List Expr}, noSt xs = true → (backTo pos (starEach xs env)).any (·.1) = false
 | [], _ => rfl
 | x :: xs, h => by
   simp only [noSt, List.all_cons, Bool.and_eq_true] at h
   rw [starC h.1]
   show (false || (backTo pos (starEach xs env)).any (·.1)) = false
   rw [Bool.false_or]
   exact star_all h.2
theorem star_none {pos : Pos} {env : PySem.Env} : ∀ {xs : List Expr}, noSt xs = true → ((backTo pos (starEach xs env)).all fun x => !x.1) = true
 | [], _ => rfl
 | x :: xs, h => by
   simp only [noSt, List.all_cons, Bool.and_eq_true] at h
   rw [starC h.1]
   show (true && (backTo pos (starEach xs env)).all fun x => !x.1) = true
   rw [Bool.true_and]
   exact star_none h.2
section
variable {X : Cx} {CX : CXT} {k : Nat} {f C : Addr} {fd : FuncData} {ps : List Str} {sp : Sp} {dvs : List V} {ds : List Value} {E : L2.St → XK} {x m : Str} {p pos apos : Pos} {e o : Expr} {es : List Expr} {ta : TE} {t : TA}
theorem run_D {pins : List (Addr × Obj)} {σ : L2.St} {H : Hp} {s : Shared} {Q : VK} {us : List Value} {vs : List V} (F : FnOk X.prog X.w X.K X.mg X.base CX k f fd ps sp) (hr : Room k X.A) (hb : Binds X.K fd ps ds) (hd : Vals dvs ds) (hx : PassesAt CX X σ (E σ))
   (I : Inv X pins σ H s) (r : Vals vs us) (h : sp (vs ++ dvs) H Q (E σ)) : wpAny (model X.prog X.w) X.A (call (.ref f) us) (EP X pins σ Q) X.xe s := by
 have r2 : Vals (vs ++ dvs) (us ++ ds) := r.append hd
 have hl : (us ++ ds).length = ps.length := by rw [← r2.length]; exact F.len _ _ _ _ h
 refine wpAny_call (codeAny_mono (F.run X.A X.stack s H ⟨us, []⟩ (us ++ ds) (vs ++ dvs) Q (E σ) hr I.env0 (hb s us I.kIn hl) r2 h) fun r s' hq => ?_)
 match r, hq with
 | .error e, hq => exact hx pins H s e s' I hq
 | .ok (.ret u), hq => exact I.after hq
 | .ok .next, hq => exact False.elim hq
 | .ok .brk, hq => exact False.elim hq
 | .ok .cont, hq => exact False.elim hq
theorem pe_callD (F : FnOk X.prog X.w X.K X.mg X.base CX k f fd ps sp) (hr : Room k X.A) (hg : Gl X x) (hm : X.mg x = some (.ref f)) (hk : PySem.W.keepIn X.K (.ref f) = true)
   (hb : Binds X.K fd ps ds) (hd : Vals dvs ds) (hx : ∀ σ, PassesAt CX X σ (E σ)) (ha : PA X (e :: es) t) (hdb : (x == ("__debug__" : Str)) = false) (he : noSt (e :: es) = true) :
   PE X (.Call (.Name x p) (e :: es) [] pos) (tCallD sp dvs E t) := by
 refine ⟨fun pins s σ H Q I h => ?_⟩
 refine wpAny_Call_Name_kw (ld_glob I hg hm ?_ hdb)
 have h1 := he
 simp only [noSt, List.all_cons, Bool.and_eq_true] at h1
 refine PySem.W.callWith_K (h₀ := X.base) I.ok.mod.kin hk ?_ (starC h1.1) (star_all h1.2)
 refine thn (ha.run pos pins s σ H _ I h) fun us s1 ⟨vs, H1, I1, r, q⟩ => ?_
 exact ⟨I1.kIn, run_D F hr hb hd (hx σ) I1 r q⟩
theorem pe_callD0 (F : FnOk X.prog X.w X.K X.mg X.base CX k f fd ps sp) (hr : Room k X.A) (hg : Gl X x) (hm : X.mg x = some (.ref f)) (hk : PySem.W.keepIn X.K (.ref f) = true)
   (hb : Binds X.K fd ps ds) (hd : Vals dvs ds) (hx : ∀ σ, PassesAt CX X σ (E σ)) (hdb : (x == ("__debug__" : Str)) = false) :
   PE X (.Call (.Name x p) [] [] pos) (tCallD sp dvs E tNil) := by
 refine ⟨fun pins s σ H Q I h => ?_⟩
 refine wpAny_Call_Name_kw (ld_glob I hg hm ?_ hdb)
 exact PySem.W.callWith_K0 I.kIn hk (run_D (us := []) (vs := []) F hr hb hd (hx σ) I .nil h)
def tMethD (C : Addr) (m : Str) (sp : Sp) (dvs : List V) (E : L2.St → XK) (ta : TE) (t : TA) : TE := fun σ H Q => ta σ H fun x H1 => ∃ a dx fs, x = .ref a ∧ H1 a = some (.ins C dx fs) ∧ fs.lookup m = none ∧
 t σ H1 fun vs H2 => sp (x :: (vs ++ dvs)) H2 Q (E σ)
theorem pe_methD {pl : Sem Bool} (he : PE X o ta) (c : Cls X.K C) (hm : Meth X.K C m f) (F : FnOk X.prog X.w X.K X.mg X.base CX k f fd ps sp) (hr : Room k X.A) (hb : Binds X.K fd ps ds) (hd : Vals dvs ds) (hx : ∀ σ, PassesAt CX X σ (E σ)) (ha : PA X (e :: es) t)
   (hst : noSt (e :: es) = true)
   (ht : eval (.Call (.Attribute o m apos) (e :: es) [] pos) X.env = (do
     let ov ← eval o X.env
     standAt apos.atName
     let (f, first) ← holding [ov] (getMethod ov m pl)
     callWith pos f first (backTo pos (starEach (e :: es) X.env)) (backToKw pos (keywordEach [] X.env))) := by rfl) :
   PE X (.Call (.Attribute o m apos) (e :: es) [] pos) (tMethD C m sp dvs E ta t) := by
 refine ⟨fun pins s σ H Q I h => ?_⟩
 have h1 := hst
 simp only [noSt, List.all_cons, Bool.and_eq_true] at h1
 refine PySem.W.methodCall_KW (pl := pl) (thn (he.run pins s σ H _ I h) fun u s1 ⟨x, H1, I1, rx, a, dx, fs, ex, ea, l, q⟩ => ?_) ht
 subst ex
 obtain rfl : u = Value.ref a := rx
 refine getmeth_ok I1 ea c hm l ?_
 refine PySem.W.callWith_K (first := [.ref a]) (h₀ := X.base) I.ok.mod.kin hm.kp (thn (ha.run pos pins s1 σ H1 _ I1 q) fun us s2 ⟨vs, H2, I2, r, q2⟩ => ⟨I2.kIn, ?_⟩) (starC h1.1) (star_all h1.2)
 exact run_D (us := .ref a :: us) (vs := .ref a :: vs) F hr hb hd (hx σ) I2 (.cons rfl r) q2
theorem pe_methD0 {pl : Sem Bool} (he : PE X o ta) (c : Cls X.K C) (hm : Meth X.K C m f) (F : FnOk X.prog X.w X.K X.mg X.base CX k f fd ps sp) (hr : Room k X.A) (hb : Binds X.K fd ps ds) (hd : Vals dvs ds) (hx : ∀ σ, PassesAt CX X σ (E σ))
   (ht : eval (.Call (.Attribute o m apos) [] [] pos) X.env = (do
     let ov ← eval o X.env
     standAt apos.atName
     let (f, first) ← holding [ov] (getMethod ov m pl)
     callWith pos f first (backTo pos (starEach [] X.env)) (backToKw pos (keywordEach [] X.env))) := by rfl) :
   PE X (.Call (.Attribute o m apos) [] [] pos) (tMethD C m sp dvs E ta tNil) := by
 refine ⟨fun pins s σ H Q I h => ?_⟩
 refine PySem.W.methodCall_KW (pl := pl) (thn (he.run pins s σ H _ I h) fun u s1 ⟨x, H1, I1, rx, a, dx, fs, ex, ea, l, q⟩ => ?_) ht
 subst ex
 obtain rfl : u = Value.ref a := rx
 refine getmeth_ok I1 ea c hm l ?_
 exact PySem.W.callWith_K0 (first := [.ref a]) I1.kIn hm.kp (run_D (us := [.ref a]) (vs := [.ref a]) F hr hb hd (hx σ) I1 (.cons rfl .nil) q)
def tMakeD (C : Addr) (sp : Sp) (dvs : List V) (E : L2.St → XK) (t : TA) : TE := fun σ H Q => t σ H fun vs H1 => ∀ x dx, H1 x = none → H1 dx = none → dx ≠ x →
 sp (.ref x :: (vs ++ dvs)) (upd (upd H1 dx (.own x)) x (.ins C dx [])) (fun v H2 => v = .non ∧ Q (.ref x) H2) (E σ)
theorem run_makeD {pins : List (Addr × Obj)} {σ : L2.St} {H : Hp} {s : Shared} {Q : VK} {us : List Value} {vs : List V} (M : Mk X.K C f) (F : FnOk X.prog X.w X.K X.mg X.base CX k f fd ps sp) (hr : Room (k + 1) X.A) (hb : Binds X.K fd ps ds) (hd : Vals dvs ds)
   (hx : ∀ H' s' e s'' , Inv X pins σ H' s' → CX X.stack H' s' (E σ) e s'' → X.xe e s'') (I : Inv X pins σ H s) (r : Vals vs us)
   (h : ∀ x dx, H x = none → H dx = none → dx ≠ x → sp (.ref x :: (vs ++ dvs)) (upd (upd H dx (.own x)) x (.ins C dx [])) (fun v H2 => v = .non ∧ Q (.ref x) H2) (E σ)) :
   wpAny (model X.prog X.w) X.A (call (.ref C) us) (EP X pins σ Q) X.xe s := by
 have hq := h (s.heap.objs.size + 1) s.heap.objs.size (I.hok.fresh (Nat.le_succ _)) (I.hok.fresh (Nat.le_refl _)) (Nat.ne_of_lt (Nat.lt_succ_self _))
 have I2 := Inv.made (C := C) I
 have r2 : Vals (V.ref (s.heap.objs.size + 1) :: (vs ++ dvs)) (Value.ref (s.heap.objs.size + 1) :: (us ++ ds)) := .cons rfl (r.append hd)
 have hl : (Value.ref (s.heap.objs.size + 1) :: us ++ ds).length = ps.length := by
   have e := r2.length
   rw [F.len _ _ _ _ hq] at e
   exact e.symm
 refine wpAny_call (make_map (f := f) I.kIn M.makes M.init (beq_iff_eq.mp M.fn) (codeAny_mono (F.run _ X.stack _ _ ⟨Value.ref (s.heap.objs.size + 1) :: us, []⟩ (Value.ref (s.heap.objs.size + 1) :: (us ++ ds)) _ _ (E σ) (hr.make C us [])
   (I2.env0.make C us []) (hb _ (Value.ref (s.heap.objs.size + 1) :: us) I2.kIn hl) r2 hq) fun r s' hq' => ?_))
 cases r with
 | error e => exact hx _ _ e s' I2 hq'
 | ok fl =>
   cases fl with
   | ret u =>
     obtain ⟨v, H', I3, rv, ev, q3⟩ := I2.after hq'
     subst ev
     exact ⟨rv, ⟨V.ref (s.heap.objs.size + 1), H', I3, rfl, q3⟩⟩
   | next => exact False.elim hq'
   | brk => exact False.elim hq'
   | cont => exact False.elim hq'
theorem pe_makeD (M : Mk X.K C f) (F : FnOk X.prog X.w X.K X.mg X.base CX k f fd ps sp) (hr : Room (k + 1) X.A) (hg : Gl X x) (hm : X.mg x = some (.ref C)) (hb : Binds X.K fd ps ds) (hd : Vals dvs ds) (hx : ∀ σ, PassesAt CX X σ (E σ))
   (ha : PA X (e :: es) t) (hdb : (x == ("__debug__" : Str)) = false) (he : noSt (e :: es) = true) :
   PE X (.Call (.Name x p) (e :: es) [] pos) (tMakeD C sp dvs E t) := by
 refine ⟨fun pins s σ H Q I h => ?_⟩
 have h1 := he
 simp only [noSt, List.all_cons, Bool.and_eq_true] at h1
 refine wpAny_Call_Name_kw (ld_glob I hg hm ?_ hdb)
 refine PySem.W.callWith_K (h₀ := X.base) I.ok.mod.kin M.kp (thn (ha.run pos pins s σ H _ I h) fun us s1 ⟨vs, H1, I1, r, q⟩ => ⟨I1.kIn, ?_⟩) (starC h1.1) (star_all h1.2)
 exact run_makeD M F hr hb hd (fun H' s' e s'' I' c => hx σ pins H' s' e s'' I' c) I1 r q
theorem pe_makeD0 (M : Mk X.K C f) (F : FnOk X.prog X.w X.K X.mg X.base CX k f fd ps sp) (hr : Room (k + 1) X.A) (hg : Gl X x) (hm : X.mg x = some (.ref C)) (hb : Binds X.K fd ps ds) (hd : Vals dvs ds) (hx : ∀ σ, PassesAt CX X σ (E σ))
   (hdb : (x == ("__debug__" : Str)) = false) : PE X (.Call (.Name x p) [] [] pos) (tMakeD C sp dvs E tNil) := by
 refine ⟨fun pins s σ H Q I h => ?_⟩
 refine wpAny_Call_Name_kw (ld_glob I hg hm ?_ hdb)
 exact PySem.W.callWith_K0 I.kIn M.kp (run_makeD (us := []) M F hr hb hd (fun H' s' e s'' I' c => hx σ pins H' s' e s'' I' c) I .nil h)
theorem pe_cini {pl : Sem Bool} (hg : Gl X x) (hm : X.mg x = some (.ref C)) (hdb : (x == ("__debug__" : Str)) = false)
   (hf : ∀ (s : Shared) (Q : Value × List Value → Shared → Prop) (E' : Value → Shared → Prop), X.K.In s.heap → Q (.ref f, []) { s with toks := s.toks + 1 } → wpAny (model X.prog X.w) X.A (getMethod (.ref C) m pl) Q E' s)
   (hk : PySem.W.keepIn X.K (.ref f) = true)
   (F : FnOk X.prog X.w X.K X.mg X.base CX k f fd ps sp) (hr : Room k X.A) (hb : Binds X.K fd ps ds) (hd : Vals dvs ds) (hx : ∀ σ, PassesAt CX X σ (E σ)) (ha : PA X (e :: es) t)
   (hst : noSt (e :: es) = true)
   (ht : eval (.Call (.Attribute (.Name x p) m apos) (e :: es) [] pos) X.env = (do
     let ov ← eval (.Name x p) X.env
     standAt apos.atName
     let (f, first) ← holding [ov] (getMethod ov m pl)
     callWith pos f first (backTo pos (starEach (e :: es) X.env)) (backToKw pos (keywordEach [] X.env))) := by rfl) :
   PE X (.Call (.Attribute (.Name x p) m apos) (e :: es) [] pos) (tCallD sp dvs E t) := by
 refine ⟨fun pins s σ H Q I h => ?_⟩
 have h1 := hst
 simp only [noSt, List.all_cons, Bool.and_eq_true] at h1
 refine PySem.W.methodCall_KW (pl := pl) (ld_glob I hg hm ?_ hdb) ht
 refine hf s _ _ I.kIn ?_
 refine PySem.W.callWith_K (first := []) (h₀ := X.base) I.ok.mod.kin hk (thn (ha.run pos pins _ σ H _ (I.tok _) h) fun us s2 ⟨vs, H2, I2, r, q2⟩ => ⟨I2.kIn, ?_⟩) (starC h1.1) (star_all h1.2)
 exact run_D (us := us) (vs := vs) F hr hb hd (hx σ) I2 r q2
end
end Q
namespace Q
open PySem L2 PySem.Spec
structure Rd where
 E : TE := fun _ _ _ => False
 T : TT := fun _ _ _ => False
 L : TA := fun _ _ _ => False
 O : TO := fun _ _ _ => False
 P : TT := fun _ _ _ => False
 A : TT := fun _ _ _ => False
 R : TT := fun _ _ _ => False
 AV : TE := fun _ _ _ => False
 RV : TE := fun _ _ _ => False
 I : TI := fun _ _ _ => False
def Rd.val (t : TE) : Rd := { E := t, T := tB t }
abbrev noX : WX := fun _ _ _ _ => False
def elen : E → Nat
 | .cons _ es => elen es + 1
 | _ => 0
def rCall (R : Row) (C : Kc) (n : Nat) (E : L2.St → XK) (t : TA) : TE :=
 if n ≤ R.ar ∧ R.ar ≤ n + R.dfl.length then tCallD (R.sp C) (R.dfl.drop (n + R.dfl.length - R.ar)) E t else fun _ _ _ => False
def rIsC (D D' : Addr) (b : Bool) : List V → Hp → VK → Prop := fun xs H Q => ∃ a dx fs, xs = [.ref a, .ref D'] ∧ H a = some (.ins D dx fs) ∧ Q (.bl b) H
def rMeth (T : Tb) (C : Kc) (cs : List Nat) (m : Str) (n : Nat) (E : L2.St → XK) (ta : TE) (t : TA) : TE := fun σ H Q => ∃ c ∈ cs, (n + 1 ≤ (T.f (T.mt c m)).ar ∧ (T.f (T.mt c m)).ar ≤ n + 1 + (T.f (T.mt c m)).dfl.length) ∧
 tMethD (C.cl c) m ((T.f (T.mt c m)).sp C) ((T.f (T.mt c m)).dfl.drop (n + 1 + (T.f (T.mt c m)).dfl.length - (T.f (T.mt c m)).ar)) E ta t σ H Q
def rMake (T : Tb) (C : Kc) (c n : Nat) (E : L2.St → XK) (t : TA) : TE :=
 if n + 1 ≤ (T.f (T.ini c)).ar ∧ (T.f (T.ini c)).ar ≤ n + 1 + (T.f (T.ini c)).dfl.length then tMakeD (C.cl c) ((T.f (T.ini c)).sp C) ((T.f (T.ini c)).dfl.drop (n + 1 + (T.f (T.ini c)).dfl.length - (T.f (T.ini c)).ar)) E t else fun _ _ _ => False
abbrev iOr (r r' : V → Option Int → Option Int → Hp → VK → Prop) : V → Option Int → Option Int → Hp → VK → Prop := fun x l h H Q => r x l h H Q ∨ r' x l h H Q
def rIxA (K : Frag) : R2 := rOr (rIx K) fun x y H Q => ∃ a v, x = .ref a ∧ DGet H a y (some v) ∧ Q v H
def bmT : Bm → String
 | .lApp => "list" | .lExt => "list" | .lIns => "list" | .lPop => "list" | .lPopAt => "list" | .lClr => "list" | .lIdx => "list" | .lCnt => "list" | .sSplit => "str" | .sFind => "str" | .sCnt => "str" | .dClr => "dict"
def bmS : Bm → Str
 | .lApp => "append" | .lExt => "extend" | .lIns => "insert" | .lPop => "pop" | .lPopAt => "pop" | .lClr => "clear" | .lIdx => "index" | .lCnt => "count" | .sSplit => "split" | .sFind => "find" | .sCnt => "count" | .dClr => "clear"
def rBm (K : Frag) : Bm → V → List V → Hp → VK → Prop
 | .lApp => rAppend
 | .lExt => rExtendS K
 | .lIns => fun x vs H Q => ∃ (l : Addr) (xs : List V) (i : Int) (y : V), x = .ref l ∧ vs = [.int i, y] ∧ H l = some (.lst xs) ∧ xs.length < sizeLine ∧ 0 ≤ i ∧ i < 2 ^ 63 ∧ Q .non (upd H l (.lst (xs.take i.toNat ++ [y] ++ xs.drop i.toNat)))
 | .lPop => rPop
 | .lPopAt => rPopAt
 | .lClr => rClear
 | .lIdx => fun x xs H Q => rIndex K x xs H Q ∨ rIndexD K x xs H Q
 | .lCnt => rCntI K
 | .sSplit => fun x xs H Q => ∃ a b, x = .str a ∧ xs = [.str b] ∧ (b.length == 0) = false ∧ a.length + 2 ≤ sizeLine ∧ rNewStrs (Txt.split a b) H Q
 | .sFind => fun x xs H Q => ∃ a b, x = .str a ∧ xs = [.str b] ∧ Q (.int (Txt.find a b)) H
 | .sCnt => fun x xs H Q => ∃ a b, x = .str a ∧ xs = [.str b] ∧ Q (.int (Txt.count a b)) H
 | .dClr => QS.rDClr
def gNs : List Nat → TGs
 | [] => gNil
 | i :: is => gCons (gName i) (gNs is)
def gTg (K : Frag) : List Nat → TG
 | [i] => gName i
 | is => gTup K is.length (gNs is)
def rIsx (T : Tb) (C : Kc) (i : Nat) (cs : List Nat) : TE := fun σ H Q => ∃ m a dx, C.ex = some (m, a, dx) ∧ σ[i]? = some (some (.ref a)) ∧ cs.length ≤ sizeLine ∧ (∀ d, dx = some d → ∃ fs, H d = some (.xd fs)) ∧ ∀ H', (∀ b o, H b = some o → H' b = some o) → Q (.bl (cs.any (T.sub m))) H'
def rExf (C : Kc) (i : Nat) (f : Str) : TE := fun σ H Q => ∃ m a d fs v, C.ex = some (m, a, some d) ∧ σ[i]? = some (some (.ref a)) ∧ H d = some (.xd fs) ∧ fs.lookup f = some v ∧ PySem.W.findIn C.K (.ref (C.cl m)) f = some none ∧ Q v H
def rd (T : Tb) (C : Kc) : E → WX → Rd
 | .var i, _ => .val (tVar i)
 | .int n, _ => .val (tC (.int n))
 | .str s, _ => .val (tC (.str s))
 | .bl b, _ => .val (tC (.bl b))
 | .non, _ => .val (tC .non)
 | .glo n, _ => .val (tC (C.gl n))
 | .bin o a b, W => .val (tOp (rBin C.K o) (rd T C a W).E (rd T C b W).E)
 | .neg a, W => .val (tUn (rU fun i => .int (-i)) (rd T C a W).E)
 | .cmp o a b, W => .val (tOp (rCmp C.K o) (rd T C a W).E (rd T C b W).E)
 | .chn o p a b c, W => .val (tChain (rCmp C.K o) (rCmp C.K p) (rd T C a W).E (rd T C b W).E (rd T C c W).E)
 | .nt a, W => { E := tNotV (rd T C a W).E, T := tNot (rd T C a W).T }
 | .and es, W => { E := (rd T C es W).AV, T := (rd T C es W).A }
 | .or es, W => { E := (rd T C es W).RV, T := (rd T C es W).R }
 | .ife c a b, W => { E := tIf (rd T C c W).T (rd T C a W).E (rd T C b W).E }
 | .tup es, W => .val (tTup (rd T C es W).L)
 | .lst es, W => .val (tLst (rd T C es W).L)
 | .nil, _ => { L := tNil, O := tNoPart, P := tYes }
 | .cons e es, W =>
   { L := tCons (rd T C e W).E (rd T C es W).L
     O := tPart (rd T C e W).E
     P := (rd T C e W).T
     A := if elen es = 0 then (rd T C e W).T else tAnd (rd T C e W).T (rd T C es W).A
     R := if elen es = 0 then (rd T C e W).T else tOr (rd T C e W).T (rd T C es W).R
     AV := if elen es = 0 then (rd T C e W).E else tAndV (rd T C e W).E (rd T C es W).AV
     RV := if elen es = 0 then (rd T C e W).E else tOrV (rd T C e W).E (rd T C es W).RV }
 | .ix a i, W => .val (tOp (rIxA C.K) (rd T C a W).E (rd T C i W).E)
 | .sl a lo hi, W => .val (tSl (iOr (rSlL C.K) (iOr rSlS (rSlT C.K))) (rd T C a W).E (rd T C lo W).O (rd T C hi W).O)
 | .call i es, W => .val (rCall (T.f i) C (elen es) (WE W) (rd T C es W).L)
 | .callH i es, W => .val (rCall (T.f i) C (elen es) (WE W) (rd T C es W).L)
 | .blt f es, W => .val (tCB (rBlt C.K f) (rd T C es W).L)
 | .isC a n m b, W => .val (tCB (rIsC (C.cl n) (C.cl m) b) (tCons (rd T C a W).E (tCons (tC (.ref (C.cl m))) tNil)))
 | .isi a t, W => .val (tCB (rIsi C.K) (tCons (rd T C a W).E (tCons (tC (.ty t)) tNil)))
 | .att a f, W => .val (tFld C.K (rd T C a W).E f)
 | .mth cs a m es, W => .val (rMeth T C cs m (elen es) (WE W) (rd T C a W).E (rd T C es W).L)
 | .mthH cs a m es, W => .val (rMeth T C cs m (elen es) (WE W) (rd T C a W).E (rd T C es W).L)
 | .mk c es, W => .val (rMake T C c (elen es) (WE W) (rd T C es W).L)
 | .binit c es, W => .val (rCall (T.f (T.ini c)) C (elen es) (WE W) (rd T C es W).L)
 | .bm m a es, W => .val (if elen es = 0 then tBM0 C.K (bmT m) (rBm C.K m) (rd T C a W).E else tBM C.K (bmT m) (rBm C.K m) (rd T C a W).E (rd T C es W).L)
 | .join s e, W => .val (tM1 (fun x xs H Q => ∃ a p, ∃ ys : List Str, x = .str a ∧ xs = [.ref p] ∧ (SqL C.K H p (ys.map V.str) ∨ SqT C.K H p (ys.map V.str)) ∧ (ys.map (·.length)).sum + ys.length * a.length ≤ 16777216 ∧ Q (.str (Txt.join a ys)) H) (tC (.str s)) (rd T C e W).E)
 | .dct, _ => .val tDNewK
 | .dd0 a ks z, W => .val (tDisp (ks.map fun k => (tOp (rIxA C.K) (rd T C a W).E (tC (.int k)), tC (.int z))))
 | .dtt, _ => .val tDNewT
 | .dget d k z, W => .val (tDGet2 (rd T C d W).E (rd T C k W).E (rd T C z W).E)
 | .dsetd d k z, W => .val (tDSetd (rd T C d W).E (rd T C k W).E (rd T C z W).E)
 | .dpop d k, W => .val (tDPop1 (rd T C d W).E (rd T C k W).E)
 | .ditm d, W => .val (LiI.tListItems (rd T C d W).E)
 | .dvl d, W => .val (tValsL (rd T C d W).E)
 | .lrev e, W => .val (tLstRev C.K (rd T C e W).E)
 | .sset e, W => .val (tSSet C.K (rd T C e W).E)
 | .lc js it c e, W => .val fun σ H Q => tLc (rd T C it W).I (gTg C.K js) (rd T C c noX).P (rd T C e fun cls d _ H' => W cls d σ H').E js σ H Q ∨ tLockE (fun σ => tLc (rd T C it W).I (gTg C.K js) (rd T C c noX).P (rd T C e fun cls d _ H' => W cls d σ H').E js σ) σ H Q
 | .iL e, W => { I := iList C.K (rd T C e W).E }
 | .iT e, W => { I := iTup C.K (rd T C e W).E }
 | .iR1 a, W => { I := iRng1 (tCons (rd T C a W).E tNil) }
 | .iR2 a b, W => { I := iRng2 (tCons (rd T C a W).E (tCons (rd T C b W).E tNil)) }
 | .iR3 a b d, W => { I := iRng3 (tCons (rd T C a W).E (tCons (rd T C b W).E (tCons (rd T C d W).E tNil))) }
 | .iEn e, W => { I := fun σ H R => iEnum C.K (tCons (rd T C e W).E tNil) σ H R ∨ iEnumK (tCons (rd T C e W).E tNil) σ H R }
 | .iZp a b, W => { I := iZip C.K (tCons (rd T C a W).E (tCons (rd T C b W).E tNil)) }
 | .iIt e, W => { I := iItems (rd T C e W).E }
 | .iDv e, W => { I := iVals (rd T C e W).E }
 | .iDk e, W => { I := iKeys (rd T C e W).E }
 | .iSt e, W => { I := iStr (rd T C e W).E }
 | .iRv e, W => { I := iRev C.K (tCons (rd T C e W).E tNil) }
 | .isx i c, _ => .val (rIsx T C i [c])
 | .isxs i cs, _ => .val (rIsx T C i cs)
 | .isv i, _ => .val fun σ H Q => ∃ m a dx, C.ex = some (m, a, dx) ∧ σ[i]? = some (some (.ref a)) ∧ (∀ d, dx = some d → ∃ fs, H d = some (.xd fs)) ∧ Q (.bl true) H
 | .exf i f, _ => .val (rExf C i f)

structure Gt where
 T : Tb
 fn : Nat → Str
 cn : Nat → Str
 gs : List Nat
 gn : Nat → Str
 cs : List Nat
structure Cn where
 N : List Str
 hot : Bool
 fs : List Nat
 hs : List Nat
 ms : List (Nat × Str)
 mh : List (Nat × Str)
 mks : List Nat
 bi : List Nat
 rs : List Nat
 ias : List (Nat × Nat × Bool) := []
def visB (sc : Scope) (x : Str) : Bool := match sc.names.lookup x with
 | some .local => true
 | some .cell => true
 | some .free => true
 | _ => false
def nmB (x : Str) : Bool := !(x == ("__debug__" : Str)) && !(x == ("__classdict__" : Str))
def glB (sc : Scope) (x : Str) : Bool := decide (sc.names.lookup x = some .globalImplicit) && !(x == ("__debug__" : Str)) && !(x == ("__name__" : Str))
def binOk : Operator → Bool
 | .Add => true | .Sub => true | .Mult => true | .FloorDiv => true | .Mod => true | .Pow => true
 | _ => false
def tysOk : List String := ["bool", "int", "str", "tuple", "list", "dict"]
def locB (sc : Scope) (x : Str) : Bool := match sc.names.lookup x with
 | some .local => true
 | some .cell => true
 | _ => false
def ckN (c : Cn) (sc : Scope) : List Nat → List Expr → Bool
 | [], [] => true
 | i :: is, y :: ys => match y with | .Name x _ => decide (c.N[i]? = some x) && locB sc x && ckN c sc is ys | _ => false
 | _, _ => false
def ckTg (c : Cn) (sc : Scope) : List Nat → Expr → Bool
 | [i], y => match y with | .Name x _ => decide (c.N[i]? = some x) && locB sc x | _ => false
 | i :: j :: is, y => match y with | .Tuple xs _ _ => ckN c sc (i :: j :: is) xs | _ => false
 | [], _ => false
def tgNs : Expr → List Str
 | .Name x _ => [x]
 | .Tuple xs _ _ => xs.filterMap fun | .Name x _ => some x | _ => none
 | _ => []
def vName (c : Cn) (sc : Scope) (i : Nat) (x : Str) : Bool := decide (c.N[i]? = some x) && visB sc x && nmB x
def freeIt : E → Bool
 | .iEn _ => false
 | .iZp _ _ => false
 | .iIt _ => false
 | _ => true
def bltHot2 : Blt → Bool
 | .sum => true
 | .any => true
 | _ => false
def hotI : E → Expr → Bool
 | .iL _, .Name _ _ => true
 | .iR1 _, .Name _ _ => true
 | _, _ => false
def isTupE : Expr → Bool
 | .Tuple _ _ _ => true
 | _ => false
def ckCs (G : Gt) (sc : Scope) : List Nat → List Expr → Bool
 | [], [] => true
 | n :: ns, .Name m _ :: ys => decide (n ∈ G.cs) && decide (m = G.cn n) && glB sc m && ckCs G sc ns ys
 | _, _ => false
def ckC (c : Cn) (sc scope : Scope) (js : List Nat) (tg : Expr) : Bool := decide ((tgNs tg).length = js.length) && blkC c.N sc scope ((tgNs tg).zip js) && (tgNs tg).all fun x => decide ((relS scope sc).names.lookup x = some .local) || decide (scope.names.lookup x = some .cell)
def ckDD (f : Expr → Bool) (z : Int) : List Int → List (Option Expr) → List Expr → Bool
 | [], [], [] => true
 | k :: ks, some (.Subscript x (.Constant (.int k') _ _) _) :: keys, .Constant (.int z') _ _ :: vs => f x && decide (k = k') && decide (z = z') && ckDD f z ks keys vs
 | _, _, _ => false
def cl1 : Expr → Option (Str × List Expr)
 | .Call (.Name f _) xs [] _ => some (f, xs)
 | _ => none
def nmOf : Expr → Option Str
 | .Name x _ => some x
 | _ => none
def tpOf : Expr → Option (List Expr)
 | .Tuple ys _ _ => some ys
 | _ => none
def meO : Expr → Option (Expr × Str × Pos × List Expr × Pos)
 | .Call (.Attribute o m ap) xs [] cp => some (o, m, ap, xs, cp)
 | _ => none
def isSt : Expr → Bool
 | .Constant (.str _) _ _ => true
 | _ => false
theorem cl1_eq {x : Expr} {f : Str} {xs : List Expr} (h : cl1 x = some (f, xs)) : ∃ p pos, x = .Call (.Name f p) xs [] pos := by
 cases x <;> first | (cases h; done) | skip
 rename_i fn ys kws pos
 cases fn <;> cases kws <;> first | (cases h; done) | skip
 cases h
 exact ⟨_, _, rfl⟩
theorem nmOf_eq {x : Expr} {f : Str} (h : nmOf x = some f) : ∃ p, x = .Name f p := by
 cases x <;> first | (cases h; done) | skip
 cases h
 exact ⟨_, rfl⟩
theorem tpOf_eq {x : Expr} {ys : List Expr} (h : tpOf x = some ys) : ∃ k p, x = .Tuple ys k p := by
 cases x <;> first | (cases h; done) | skip
 cases h
 exact ⟨_, _, rfl⟩
theorem meO_eq {x o : Expr} {m : Str} {ap cp : Pos} {xs : List Expr} (h : meO x = some (o, m, ap, xs, cp)) : x = .Call (.Attribute o m ap) xs [] cp := by
 cases x <;> first | (cases h; done) | skip
 rename_i fn ys kws pos
 cases fn <;> cases kws <;> first | (cases h; done) | skip
 cases h
 rfl
theorem isSt_eq {x : Expr} (h : isSt x = true) : ∃ s j p, x = .Constant (.str s) j p := by
 cases x <;> first | (cases h; done) | skip
 rename_i v j p
 cases v <;> first | (cases h; done) | skip
 exact ⟨_, _, _, rfl⟩
mutual
def ckE (G : Gt) (c : Cn) : Scope → E → Expr → Bool
 | sc, .var i, x0 => match x0 with | .Name x _ => vName c sc i x | _ => false
 | _, .int n, x0 => match x0 with | .Constant (.int m) _ _ => decide (n = m) | _ => false
 | _, .str n, x0 => match x0 with | .Constant (.str m) _ _ => decide (n = m) | _ => false
 | _, .bl n, x0 => match x0 with | .Constant (.bool m) _ _ => decide (n = m) | _ => false
 | _, .non, x0 => match x0 with | .Constant .none _ _ => true | _ => false
 | sc, .glo n, x0 => match x0 with | .Name x _ => decide (n ∈ G.gs) && decide (x = G.gn n) && glB sc x | _ => false
 | sc, .bin o a b, x0 => match x0 with | .BinOp x o' y _ => decide (o = o') && binOk o && ckE G c sc a x && ckE G c sc b y | _ => false
 | sc, .neg a, x0 => match x0 with | .UnaryOp .USub x _ => ckE G c sc a x | _ => false
 | sc, .cmp o a b, x0 => match x0 with | .Compare x [o'] [y] _ => decide (o = o') && ckE G c sc a x && ckE G c sc b y | _ => false
 | sc, .chn o p a b d, x0 => match x0 with | .Compare x [o', p'] [y, z] _ => decide (o = o') && decide (p = p') && ckE G c sc a x && ckE G c sc b y && ckE G c sc d z | _ => false
 | sc, .nt a, x0 => match x0 with | .UnaryOp .Not x _ => ckE G c sc a x | _ => false
 | sc, .and es, x0 => match x0 with | .BoolOp .And (x :: xs) _ => ckL G c sc es (x :: xs) | _ => false
 | sc, .or es, x0 => match x0 with | .BoolOp .Or (x :: xs) _ => ckL G c sc es (x :: xs) | _ => false
 | sc, .ife t a b, x0 => match x0 with | .IfExp z x y _ => ckE G c sc t z && ckE G c sc a x && ckE G c sc b y | _ => false
 | sc, .tup es, x0 => match x0 with | .Tuple xs _ _ => ckL G c sc es xs | _ => false
 | sc, .lst es, x0 => match x0 with | .List xs _ => ckL G c sc es xs | _ => false
 | sc, .ix a i, x0 => match x0 with | .Subscript x y _ => ckE G c sc a x && ckE G c sc i y | _ => false
 | sc, .sl a lo hi, x0 => match x0 with | .Subscript x (.Slice l h none _) _ => ckE G c sc a x && ckO G c sc lo l && ckO G c sc hi h | _ => false
 | sc, .call i es, x0 => match x0 with | .Call (.Name f _) xs [] _ => !c.hot && !(f == ("super" : Str)) && decide (i ∈ c.fs) && decide (f = G.fn i) && glB sc f && ckL G c sc es xs | _ => false
 | sc, .callH i es, x0 => match x0 with | .Call (.Name f _) (x :: xs) [] _ => c.hot && decide (i ∈ c.hs) && decide (f = G.fn i) && glB sc f && ckL G c sc es (x :: xs) | _ => false
 | sc, .blt f es, x0 => match x0 with | .Call (.Name n _) (x :: xs) [] _ => (!c.hot || bltHot f || bltHot2 f) && decide (n = bltS f) && glB sc n && ckL G c sc es (x :: xs) | _ => false
 | sc, .dd0 a ks z, x0 => match x0 with | .Dict keys vs _ => decide (0 < ks.length) && decide (ks.length ≤ 15) && ckDD (fun x => ckE G c sc a x) z ks keys vs | _ => false
 | sc, .isC a n n' b, x0 => match cl1 x0 with | some (m, [x, y0]) => (match nmOf y0 with | some y => decide (m = ("isinstance" : Str)) && decide ((n, n', b) ∈ c.ias) && decide (y = G.cn n') && glB sc m && glB sc y && ckE G c sc a x | none => false) | _ => false
 | sc, .isi a t, x0 => match cl1 x0 with | some (n, [x, y0]) => (match nmOf y0 with | some m => decide (n = ("isinstance" : Str)) && decide (m = Str.ofString t) && tysOk.contains t && glB sc n && glB sc m && ckE G c sc a x | none => false) | _ => false
 | sc, .att a f, x0 => match x0 with | .Attribute x m _ => decide (f = m) && ckE G c sc a x | _ => false
 | sc, .mth cs a m es, x0 => match x0 with | .Call (.Attribute x n ap) xs [] cp => (ap.endLine == cp.line) && decide (xs.length < 10) && !c.hot && decide (m = n) && cs.all (fun d => decide ((d, m) ∈ c.ms)) && ckE G c sc a x && ckL G c sc es xs | _ => false
 | sc, .mk n es, x0 => match x0 with | .Call (.Name f _) xs [] _ => !c.hot && !(f == ("super" : Str)) && decide (n ∈ c.mks) && decide (f = G.cn n) && glB sc f && ckL G c sc es xs | _ => false
 | sc, .binit n es, x0 => match x0 with | .Call (.Attribute (.Name f _) m ap) (x :: xs) [] cp => (ap.endLine == cp.line) && decide ((x :: xs).length < 10) && !c.hot && decide (n ∈ c.bi) && decide (f = G.cn n) && decide (m = ("__init__" : Str)) && glB sc f && ckL G c sc es (x :: xs) | _ => false
 | sc, .bm m a es, x0 => match x0 with | .Call (.Attribute x n ap) xs [] cp => decide (n = bmS m) && (ap.endLine == cp.line) && decide (xs.length < 10) && ckE G c sc a x && ckL G c sc es xs | _ => false
 | sc, .join s e, x0 => match x0 with | .Call (.Attribute (.Constant (.str s') _ _) m ap) [y] [] cp => decide (s = s') && decide (m = ("join" : Str)) && (ap.endLine == cp.line) && ckE G c sc e y | _ => false
 | _, .dct, x0 => match x0 with | .Dict [] [] _ => true | _ => false
 | _, .dtt, x0 => match x0 with | .Dict [] [] _ => true | _ => false
 | sc, .dget d k z, x0 => match x0 with | .Call (.Attribute x m ap) [y, w] [] cp => decide (m = ("get" : Str)) && (ap.endLine == cp.line) && ckE G c sc d x && ckE G c sc k y && ckE G c sc z w | _ => false
 | sc, .dsetd d k z, x0 => match x0 with | .Call (.Attribute x m ap) [y, w] [] cp => decide (m = ("setdefault" : Str)) && (ap.endLine == cp.line) && ckE G c sc d x && ckE G c sc k y && ckE G c sc z w | _ => false
 | sc, .dpop d k, x0 => match x0 with | .Call (.Attribute x m ap) [y] [] cp => decide (m = ("pop" : Str)) && (ap.endLine == cp.line) && ckE G c sc d x && ckE G c sc k y | _ => false
 | sc, .ditm d, x0 => match cl1 x0 with | some (l, [x1]) => (match meO x1 with | some (x, m, ap, [], cp) => !c.hot && decide (l = ("list" : Str)) && glB sc l && decide (m = ("items" : Str)) && (ap.endLine == cp.line) && ckE G c sc d x | _ => false) | _ => false
 | sc, .dvl d, x0 => match cl1 x0 with | some (l, [x1]) => (match meO x1 with | some (x, m, ap, [], cp) => !c.hot && decide (l = ("list" : Str)) && glB sc l && decide (m = ("values" : Str)) && (ap.endLine == cp.line) && ckE G c sc d x | _ => false) | _ => false
 | sc, .lrev e, x0 => match cl1 x0 with | some (l, [x1]) => (match cl1 x1 with | some (r, [x]) => !c.hot && decide (l = ("list" : Str)) && decide (r = ("reversed" : Str)) && glB sc l && glB sc r && ckE G c sc e x | _ => false) | _ => false
 | sc, .sset e, x0 => match cl1 x0 with | some (l, [x1]) => (match cl1 x1 with | some (r, [x]) => !c.hot && decide (l = ("sorted" : Str)) && decide (r = ("set" : Str)) && glB sc l && glB sc r && ckE G c sc e x | _ => false) | _ => false
 | sc, .lc js it t e, x0 => match x0 with | .ListComp elt [⟨tg, iter, ifs, 0⟩] scope _ => (!c.hot || hotI it tg) && ckI G c sc it iter && (isTupE tg || freeIt it) && ckC c sc scope js tg && ckTg c (relS scope sc) js tg && ckL G c (relS scope sc) t ifs && decide (ifs.length ≤ 1) && ckE G c (relS scope sc) e elt | _ => false
 | sc, .isx i n, x0 => c.hot && (match cl1 x0 with | some (nm, [x1, m1]) => (match nmOf x1, nmOf m1 with | some x, some m => decide (n ∈ G.cs) && decide (nm = ("isinstance" : Str)) && decide (m = G.cn n) && glB sc nm && glB sc m && vName c sc i x | _, _ => false) | _ => false)
 | sc, .isv i, x0 => c.hot && (match cl1 x0 with | some (nm, [x1, m1]) => (match nmOf x1, nmOf m1 with | some x, some m => decide (nm = ("isinstance" : Str)) && decide (m = ("ValueError" : Str)) && glB sc nm && glB sc m && vName c sc i x | _, _ => false) | _ => false)
 | sc, .isxs i ns, x0 => c.hot && (match cl1 x0 with | some (nm, [x1, m1]) => (match nmOf x1, tpOf m1 with | some x, some ys => decide (nm = ("isinstance" : Str)) && ckCs G sc ns ys && glB sc nm && vName c sc i x | _, _ => false) | _ => false)
 | sc, .exf i f, x0 => match x0 with | .Attribute (.Name x _) m _ => c.hot && decide (f = m) && vName c sc i x | _ => false
 | _, _, _ => false
def ckL (G : Gt) (c : Cn) : Scope → E → List Expr → Bool
 | _, .nil, [] => true
 | sc, .cons e es, x :: xs => ckE G c sc e x && ckL G c sc es xs
 | _, _, _ => false
def ckO (G : Gt) (c : Cn) : Scope → E → Option Expr → Bool
 | _, .nil, none => true
 | sc, .cons e .nil, some x => ckE G c sc e x
 | _, _, _ => false
def ckI (G : Gt) (c : Cn) : Scope → E → Expr → Bool
 | sc, .iL e, x => ckE G c sc e x
 | sc, .iT e, x => ckE G c sc e x
 | sc, .iDk e, x => ckE G c sc e x
 | sc, .iSt e, x => ckE G c sc e x
 | sc, .iR1 e, x0 => match x0 with | .Call (.Name n _) [x] [] _ => decide (n = ("range" : Str)) && glB sc n && ckE G c sc e x | _ => false
 | sc, .iR2 e f, x0 => match x0 with | .Call (.Name n _) [x, y] [] _ => decide (n = ("range" : Str)) && glB sc n && ckE G c sc e x && ckE G c sc f y | _ => false
 | sc, .iR3 e f h, x0 => match x0 with | .Call (.Name n _) [x, y, z] [] _ => decide (n = ("range" : Str)) && glB sc n && ckE G c sc e x && ckE G c sc f y && ckE G c sc h z | _ => false
 | sc, .iEn e, x0 => match x0 with | .Call (.Name n _) [x] [] _ => decide (n = ("enumerate" : Str)) && glB sc n && ckE G c sc e x | _ => false
 | sc, .iZp e f, x0 => match x0 with | .Call (.Name n _) [x, y] [] _ => decide (n = ("zip" : Str)) && glB sc n && ckE G c sc e x && ckE G c sc f y | _ => false
 | sc, .iRv e, x0 => match x0 with | .Call (.Name n _) [x] [] _ => decide (n = ("reversed" : Str)) && glB sc n && ckE G c sc e x | _ => false
 | sc, .iIt e, x0 => match x0 with | .Call (.Attribute x m ap) [] [] cp => decide (m = ("items" : Str)) && (ap.endLine == cp.line) && ckE G c sc e x | _ => false
 | sc, .iDv e, x0 => match x0 with | .Call (.Attribute x m ap) [] [] cp => decide (m = ("values" : Str)) && (ap.endLine == cp.line) && ckE G c sc e x | _ => false
 | _, _, _ => false
end
end Q
namespace Q
open PySem L2 PySem.Spec
structure Gx extends Gt where
 P : Program
 w : World
 C : Kc
 mg : Str → Option Value
 base : Heap
instance : Coe Gx Gt := ⟨Gx.toGt⟩
structure FnC (G : Gx) (k : Nat) (R : Row) (f : Addr) : Prop where
 ex : ∃ fd ps, FnOk G.P G.w G.C.K G.mg G.base (L2N.CX G.P G.w) k f fd ps (R.sp G.C) ∧ PySem.W.keepIn G.C.K (.ref f) = true ∧ ps.length = R.ar ∧
   ∀ n, n ≤ R.dfl.length → ∃ us, Binds G.C.K fd ps us ∧ Vals (R.dfl.drop n) us
def FnI (G : Gx) (k i : Nat) : Prop := ∃ f, FnC G k (G.T.f i) f ∧ G.mg (G.fn i) = some (.ref f)
def MtI (G : Gx) (k n : Nat) (m : Str) : Prop := ∃ f, FnC G k (G.T.f (G.T.mt n m)) f ∧ Cls G.C.K (G.C.cl n) ∧ Meth G.C.K (G.C.cl n) m f
def MkI (G : Gx) (k n : Nat) : Prop := ∃ f k', k' + 1 ≤ k ∧ FnC G k' (G.T.f (G.T.ini n)) f ∧ Mk G.C.K (G.C.cl n) f ∧ G.mg (G.cn n) = some (.ref (G.C.cl n)) ∧ C8.InsC G.C.K (G.C.cl n)
def IaI (G : Gx) (p : Nat × Nat × Bool) : Prop := C8.InsC G.C.K (G.C.cl p.1) ∧ PySem.W.kitOne G.C.K (.ref (G.C.cl p.1)) (.ref (G.C.cl p.2.1)) = some p.2.2 ∧ G.mg (G.cn p.2.1) = some (.ref (G.C.cl p.2.1))
def BiI (G : Gx) (k n : Nat) : Prop := ∃ f, FnC G k (G.T.f (G.T.ini n)) f ∧ G.mg (G.cn n) = some (.ref (G.C.cl n)) ∧
 ∀ (pl : Sem Bool) (A : Around) (s : Shared) (Q : Value × List Value → Shared → Prop) (E' : Value → Shared → Prop), G.C.K.In s.heap → Q (.ref f, []) { s with toks := s.toks + 1 } → wpAny (model G.P G.w) A (getMethod (.ref (G.C.cl n)) "__init__" pl) Q E' s
def ExO (G : Gt) (cl : Nat → Addr) (m : Nat) (dx : Option Addr) (oe : Obj) : Prop := m ∈ G.cs ∧ L2N.Zn (.ref (cl m)) dx oe ∧ ∃ vs, oe.data = .fields vs
structure FnCH (G : Gx) (k : Nat) (R : Row) (f : Addr) : Prop where
 ex : ∃ fd ps, (∀ (m : Nat) (a : Addr) (dx : Option Addr) (oe : Obj) (base : Heap), ExO G.toGt G.C.cl m dx oe → (∀ b o, G.base.get? b = some o → base.get? b = some o) → base.get? a = some oe →
     L2H.FnH G.P G.w G.C.K G.mg base (L2N.CX G.P G.w) k f fd ps (R.sp { G.C with ex := some (m, a, dx) })) ∧ PySem.W.keepIn G.C.K (.ref f) = true ∧ ps.length = R.ar ∧
   ∀ n, n ≤ R.dfl.length → ∃ us, Binds G.C.K fd ps us ∧ Vals (R.dfl.drop n) us
def FnIH (G : Gx) (k i : Nat) : Prop := ∃ f, FnCH G k (G.T.f i) f ∧ G.mg (G.fn i) = some (.ref f)
structure HotG (G : Gx) (k : Nat) (X : Cx) (m : Nat) (a : Addr) (dx : Option Addr) (oe : Obj) : Prop where
 ex : G.C.ex = some (m, a, dx)
 ob : ExO G.toGt G.C.cl m dx oe
 at_ : ∀ {pins σ H s}, Inv X pins σ H s → s.heap.get? a = some oe ∧ H a = none ∧ a ∉ frs X.stack
 hc : L2H.HotC X
 room : L2H.RoomH k X.A
 src : X.base.get? a = some oe ∨ (a, oe) ∈ X.pn
def isxE : E → Bool
 | .isx _ _ => true
 | .isv _ => true
 | .isxs _ _ => true
 | .exf _ _ => true
 | _ => false
def GlF (G : Gx) (n : Nat) : Prop := ∃ u, G.mg (G.gn n) = some u ∧ RelV (G.C.gl n) u
def bltNames : List Str := ["len", "abs", "sum", "sorted", "list", "int", "str", "max", "min", "isinstance", "range", "bool", "tuple", "dict", "ValueError", "reversed", "enumerate", "any", "all", "zip", "set"]
structure Good (G : Gx) (c : Cn) (k : Nat) (sc : Scope) (Wx : WX) (X : Cx) : Prop where
 hP : X.prog = G.P
 hw : X.w = G.w
 hK : X.K = G.C.K
 hmg : X.mg = G.mg
 hb : X.base = G.base
 hN : X.N = c.N
 nd : c.N.Nodup
 hsc : X.env.scope = sc
 calm : c.hot = false → X.calm = true
 room : c.hot = false → Room k X.A
 units : X.A.units + 65 < cLine
 tk : Fl X Wx
 blt : ∀ x ∈ bltNames, G.mg x = none
 glo : ∀ n ∈ G.gs, GlF G n
 fns : ∀ i ∈ c.fs, FnI G k i
 fnh : ∀ i ∈ c.hs, FnIH G k i
 mts : ∀ p ∈ c.ms, MtI G k p.1 p.2
 mks : ∀ n ∈ c.mks, MkI G k n
 bis : ∀ n ∈ c.bi, BiI G k n
 ias : ∀ p ∈ c.ias, IaI G p
 hotg : c.hot = true → ∃ m a dx oe, HotG G k X m a dx oe
 isx : c.hot = true → ∀ {sc' : Scope} {X' : Cx} {Wx' : WX} {m : Nat} {a : Addr} {dx : Option Addr} {oe : Obj}, HotG G k X' m a dx oe → X'.K = G.C.K → X'.mg = G.mg → X'.N = c.N → X'.env.scope = sc' → ∀ e x, isxE e = true → ckE G c sc' e x = true → PE X' x (rd G.T G.C e Wx').E
structure Snd (G : Gx) (c : Cn) (k : Nat) (e : E) : Prop where
 E : ∀ {sc Wx X x}, Good G c k sc Wx X → ckE G c sc e x = true → PE X x (rd G.T G.C e Wx).E
 T : ∀ {sc Wx X x}, Good G c k sc Wx X → ckE G c sc e x = true → PT X x (rd G.T G.C e Wx).T
 L : ∀ {sc Wx X xs}, Good G c k sc Wx X → ckL G c sc e xs = true → PA X xs (rd G.T G.C e Wx).L
 O : ∀ {sc Wx X o}, Good G c k sc Wx X → ckO G c sc e o = true → PO X o (rd G.T G.C e Wx).O
 P : ∀ {sc Wx X xs}, Good G c k sc Wx X → ckL G c sc e xs = true → xs.length ≤ 1 → PTs X xs (rd G.T G.C e Wx).P
 A : ∀ {sc Wx X x xs pos}, Good G c k sc Wx X → ckL G c sc e (x :: xs) = true → PW X (.BoolOp .And (x :: xs) pos) (rd G.T G.C e Wx).A
 R : ∀ {sc Wx X x xs pos}, Good G c k sc Wx X → ckL G c sc e (x :: xs) = true → PW X (.BoolOp .Or (x :: xs) pos) (rd G.T G.C e Wx).R
 AV : ∀ {sc Wx X x xs pos}, Good G c k sc Wx X → ckL G c sc e (x :: xs) = true → PE X (.BoolOp .And (x :: xs) pos) (rd G.T G.C e Wx).AV
 RV : ∀ {sc Wx X x xs pos}, Good G c k sc Wx X → ckL G c sc e (x :: xs) = true → PE X (.BoolOp .Or (x :: xs) pos) (rd G.T G.C e Wx).RV
 I : ∀ {sc Wx X x tg}, Good G c k sc Wx X → ckI G c sc e x = true → isTupE tg = true ∨ freeIt e = true → PI X tg x (rd G.T G.C e Wx).I
 IH : ∀ {sc Wx X x tg}, Good G c k sc Wx X → L2H.HotC X → ckI G c sc e x = true → hotI e tg = true → L2H.PIH X tg x (rd G.T G.C e Wx).I
theorem ck_notSt {G : Gt} {c : Cn} {sc : Scope} {e : E} {x : Expr} (h : ckE G c sc e x = true) : notSt x = true := by
 cases x <;> first | rfl | (cases e <;> simp [ckE, cl1] at h)
theorem ck_nb {G : Gt} {c : Cn} {sc : Scope} {e : E} {x : Expr} {o : CmpOp} (h : ckE G c sc e x = true) : behindInMarks o x = false := by
 cases x <;> first | rfl | (cases e <;> simp [ckE, cl1] at h)
theorem ckL_noSt {G : Gt} {c : Cn} {sc : Scope} : ∀ {e : E} {xs : List Expr}, ckL G c sc e xs = true → noSt xs = true
 | .nil, [], _ => rfl
 | .cons e es, x :: xs, h => by
   simp only [ckL, Bool.and_eq_true] at h
   simp only [noSt, List.all_cons, Bool.and_eq_true]
   exact ⟨ck_notSt h.1, ckL_noSt h.2⟩
theorem ckL_len {G : Gt} {c : Cn} {sc : Scope} : ∀ {e : E} {xs : List Expr}, ckL G c sc e xs = true → xs.length = elen e
 | .nil, [], _ => rfl
 | .cons e es, x :: xs, h => by
   simp only [ckL, Bool.and_eq_true] at h
   show xs.length + 1 = elen es + 1
   rw [ckL_len h.2]
section
variable {G : Gx} {c : Cn} {k : Nat}
theorem visB_ok {sc : Scope} {x : Str} (h : visB sc x = true) : Vis sc x := by
 unfold visB at h
 unfold Vis
 split at h
 · exact .inl (by assumption)
 · exact .inr (.inl (by assumption))
 · exact .inr (.inr (by assumption))
 · cases h
theorem nmB_ok {x : Str} (h : nmB x = true) : (x == ("__debug__" : Str)) = false ∧ (x == ("__classdict__" : Str)) = false := by
 unfold nmB at h
 simp only [Bool.and_eq_true, Bool.not_eq_true'] at h
 exact h
theorem glB_ok {sc : Scope} {x : Str} (h : glB sc x = true) : sc.names.lookup x = some .globalImplicit ∧ (x == ("__debug__" : Str)) = false ∧ x ≠ "__name__" := by
 unfold glB at h
 simp only [Bool.and_eq_true, Bool.not_eq_true', decide_eq_true_eq] at h
 exact ⟨h.1.1, h.1.2, fun e => by rw [e] at h; simp at h⟩
theorem Good.gl {sc : Scope} {Wx : WX} {X : Cx} (g : Good G c k sc Wx X) {x : Str} (h : glB sc x = true) : Gl X x := by
 show X.env.scope.names.lookup x = _
 rw [g.hsc]
 exact (glB_ok h).1
theorem Good.mgN {sc : Scope} {Wx : WX} {X : Cx} (g : Good G c k sc Wx X) {x : Str} (h : x ∈ bltNames) : X.mg x = none := by
 rw [g.hmg]
 exact g.blt x h
theorem Good.pv {sc : Scope} {Wx : WX} {X : Cx} (g : Good G c k sc Wx X) {i : Nat} {x : Str} {pos : Pos} (h : vName c sc i x = true) : PE X (.Name x pos) (tVar i) := by
 simp only [vName, Bool.and_eq_true, decide_eq_true_eq] at h
 obtain ⟨⟨h1, h2⟩, h3⟩ := h
 obtain ⟨h4, h5⟩ := nmB_ok h3
 exact pe_var (i := i) (by rw [g.hN]; exact h1) (by rw [g.hsc]; exact visB_ok h2) h4 h5
theorem snd_plain {e : E} (hE : ∀ {sc Wx X x}, Good G c k sc Wx X → ckE G c sc e x = true → PE X x (rd G.T G.C e Wx).E) (hT : ∀ {sc Wx X x}, Good G c k sc Wx X → ckE G c sc e x = true → PT X x (rd G.T G.C e Wx).T)
   (nl : ∀ sc xs, ckL G c sc e xs = false) (no : ∀ sc o, ckO G c sc e o = false) (ni : ∀ sc x, ckI G c sc e x = false) : Snd G c k e where
 E := hE
 T := hT
 L := fun _ h => by rw [nl] at h; cases h
 O := fun _ h => by rw [no] at h; cases h
 P := fun _ h => by rw [nl] at h; cases h
 A := fun _ h => by rw [nl] at h; cases h
 R := fun _ h => by rw [nl] at h; cases h
 AV := fun _ h => by rw [nl] at h; cases h
 RV := fun _ h => by rw [nl] at h; cases h
 I := fun _ h => by rw [ni] at h; cases h
 IH := fun _ _ h => by rw [ni] at h; cases h
theorem snd_val {e : E} (hv : ∀ W, (rd G.T G.C e W).T = tB (rd G.T G.C e W).E)
   (key : ∀ {sc Wx X x}, Good G c k sc Wx X → ckE G c sc e x = true → PE X x (rd G.T G.C e Wx).E ∧ ∀ whole, PySem.isTrue x X.env whole = (do let v ← whole; standAt x.pos; holding [v] (truthy v)))
   (nl : ∀ sc xs, ckL G c sc e xs = false) (no : ∀ sc o, ckO G c sc e o = false) (ni : ∀ sc x, ckI G c sc e x = false) : Snd G c k e :=
 snd_plain (fun g h => (key g h).1) (fun {sc Wx X x} g h => by
   rw [hv]
   exact pt_val (key g h).1 (key g h).2) nl no ni
end
end Q
namespace Q
open PySem L2 PySem.Spec
section
variable {G : Gx} {c : Cn} {k : Nat}
open PyProof.Rows in
theorem ix_A {X : Cx} (hu : X.A.units + 1 < cLine) : IxR X (rIxA X.K) := by
 intro value slice pins s σ H x y v u Q I rx ry h hs
 rcases h with h | ⟨a, w, e, g, q⟩
 · exact ix_seq value slice pins s σ H x y v u Q I rx ry h hs
 · subst e
   obtain rfl : v = Value.ref a := rx
   have hT := dict_typeIs I g
   unfold PyProof.Rows.subscriptTail
   refine wpAny_bind ?_
   rw [getitemInPython_of_ne hT.not_modules]
   refine wpAny_bind (wpAny_specialOf hT PySem.F.slot_dict_getitem.lookup ?_)
   have fin : wpAny (model X.prog X.w) X.A (subscripted slice false (.ref a) u >>= fun r => letTemporaryGo value (.ref a) r >>= fun _ => pure r) (EP X pins σ Q) X.xe s := by
     rw [hs]
     exact wpAny_bind (wpAny_operating (d_getItem hu I g ry fun w' s3 I3 rw' => wpAny_bind (wpAny_letTemporaryGo (wpAny_pure ⟨w, H, I3, rw', q⟩))))
   exact wpAny_pure fin
theorem SlR.or {X : Cx} {r r' : V → Option Int → Option Int → Hp → VK → Prop} (h : SlR X r) (h' : SlR X r') : SlR X (iOr r r') := fun pins s σ H x v vl vu lo hi sl Q I rx hS pl pu q => q.elim (h pins s σ H x v vl vu lo hi sl Q I rx hS pl pu) (h' pins s σ H x v vl vu lo hi sl Q I rx hS pl pu)
theorem plainIx_ck {sc : Scope} {e : E} {x : Expr} (h : ckE G c sc e x = true) : PlainIx x := by
 cases x <;> first | (intro _ _; rfl) | (cases e <;> simp [ckE, cl1] at h)
theorem binOk_ok {o : Operator} (h : binOk o = true) : o = .Add ∨ o = .Sub ∨ o = .Mult ∨ o = .FloorDiv ∨ o = .Mod ∨ o = .Pow := by
 cases o <;> first | (cases h; done) | simp
theorem bltS_in (f : Blt) : bltS f ∈ bltNames := by
 cases f <;> decide
theorem boot_blt (f : Blt) : bootBuiltins (bltS f) = some (bltV f) := by
 cases f <;> decide +kernel
theorem boot_ty {t : String} (h : t ∈ tysOk) : bootBuiltins (Str.ofString t) = some (.type t) ∧ Str.ofString t ∈ bltNames ∧ (Str.ofString t == ("__debug__" : Str)) = false ∧ Str.ofString t ≠ ("__name__" : Str) := by
 simp only [tysOk, List.mem_cons, List.not_mem_nil, or_false] at h
 rcases h with rfl | rfl | rfl | rfl | rfl | rfl <;> exact ⟨by decide +kernel, by decide, by decide, by decide⟩
theorem pe_callV {X : Cx} {x : Str} {p pos : Pos} {e : Expr} {es : List Expr} {t : TA} {v : Value} {r : List V → Hp → VK → Prop} (hv : (∃ id, v = .builtin id) ∨ ∃ T, v = .type T) (hc : CallR X v r) (hg : Gl X x) (hm : X.mg x = none) (hb : bootBuiltins x = some v) (ha : PA X (e :: es) t)
   (hn : x ≠ "__name__") (hdb : (x == ("__debug__" : Str)) = false) (he : noSt (e :: es) = true) : PE X (.Call (.Name x p) (e :: es) [] pos) (tCB r t) := by
 have h1 := he
 simp only [noSt, List.all_cons, Bool.and_eq_true] at h1
 rcases hv with ⟨id, rfl⟩ | ⟨T, rfl⟩
 · exact pe_callB hc hg hm hb ha hn hdb (starC h1.1) (star_all h1.2)
 · exact pe_callTy hc hg hm hb ha hn hdb (starC h1.1) (star_all h1.2)
theorem ckL_nil {sc : Scope} {es : E} (h : ckL G c sc es [] = true) : es = .nil := by
 cases es <;> first | rfl | (simp [ckL] at h)
theorem locB_ok {sc : Scope} {x : Str} (h : locB sc x = true) : L2.Loc sc x := by
 unfold locB at h
 unfold L2.Loc
 split at h
 · exact .inl (by assumption)
 · exact .inr (by assumption)
 · cases h
theorem pgs_names {X : Cx} {sc : Scope} (hN : X.N = c.N) (nd : c.N.Nodup) (hsc : X.env.scope = sc) (f : Expr → Option Str) (hfn : ∀ x p, f (.Name x p) = some x) : ∀ {is : List Nat} {xs : List Expr}, (∀ x ∈ xs.filterMap f, X.fn x = true ∨ X.env.scope.names.lookup x = some .local) → ckN c sc is xs = true → PGs X xs (gNs is)
 | [], [], _, _ => pgs_nil
 | i :: is, .Name x p :: xs, hf, h => by
   have e : (Expr.Name x p :: xs).filterMap f = x :: xs.filterMap f := by rw [List.filterMap_cons, hfn]
   rw [e] at hf
   simp only [ckN, Bool.and_eq_true, decide_eq_true_eq] at h
   exact pgs_cons (pg_name (i := i) (by rw [hN]; exact nd) (by rw [hN]; exact h.1.1) (by rw [hsc]; exact locB_ok h.1.2) (hf x List.mem_cons_self)) (pgs_names hN nd hsc f hfn (fun y hy => hf y (List.mem_cons_of_mem _ hy)) h.2)
 | [], _ :: _, _, h => by simp [ckN] at h
 | _ :: _, [], _, h => by simp [ckN] at h
theorem names_len {sc : Scope} {env : PySem.Env} : ∀ {is : List Nat} {xs : List Expr}, ckN c sc is xs = true → (assignEach xs env).length = is.length ∧ (assignEach xs env).findIdx? (·.1) = none
 | [], [], _ => ⟨rfl, rfl⟩
 | i :: is, .Name x p :: xs, h => by
   simp only [ckN, Bool.and_eq_true] at h
   obtain ⟨h1, h2⟩ := names_len (env := env) h.2
   refine ⟨by show (assignEach xs env).length + 1 = is.length + 1; rw [h1], ?_⟩
   show ((false, assign (.Name x p) env) :: assignEach xs env).findIdx? (·.1) = none
   rw [List.findIdx?_cons]
   simp [h2]
 | [], _ :: _, h => by simp [ckN] at h
 | _ :: _, [], h => by simp [ckN] at h
theorem pg_tg {X : Cx} {sc : Scope} (hc : X.calm = true) (hN : X.N = c.N) (nd : c.N.Nodup) (hsc : X.env.scope = sc) {is : List Nat} {tg : Expr} (hf : ∀ x ∈ tgNs tg, X.fn x = true ∨ X.env.scope.names.lookup x = some .local) (h : ckTg c sc is tg = true) : PG X tg (gTg X.K is) := by
 match is, tg, hf, h with
 | [i], .Name x p, hf, h =>
   simp only [ckTg, Bool.and_eq_true, decide_eq_true_eq] at h
   exact pg_name (i := i) (by rw [hN]; exact nd) (by rw [hN]; exact h.1) (by rw [hsc]; exact locB_ok h.2) (hf x (by simp [tgNs]))
 | i :: j :: is, .Tuple xs tk tp, hf, h =>
   have h1 : ckN c sc (i :: j :: is) xs = true := h
   obtain ⟨l1, l2⟩ := names_len (env := X.env) h1
   exact pg_tup hc (pgs_names hN nd hsc _ (fun _ _ => rfl) hf h1) l1 l2
theorem attBase_ck {sc : Scope} {e : E} {x : Expr} {m : Str} {env : PySem.Env} (h : ckE G c sc e x = true) : attributeBase x m env (eval x env) = eval x env := by
 cases x <;> first | rfl | skip
 rename_i fn xs kws pos
 cases fn <;> first | rfl | skip
 cases xs <;> first | rfl | skip
 cases kws <;> first | rfl | skip
 rename_i id p
 have hid : (id == ("super" : Str)) = false := by
   cases e <;> first | (simp [ckE, cl1] at h; done) | skip
   · simp only [ckE, Bool.and_eq_true, Bool.not_eq_true'] at h; exact h.1.1.1.1.2
   · simp only [ckE, Bool.and_eq_true, Bool.not_eq_true'] at h; exact h.1.1.1.1.2
 unfold attributeBase
 have e2 : (id != ("super" : Str)) = true := by unfold bne; rw [hid]; rfl
 simp only [e2, Bool.true_or, if_true]
theorem meth_ev {o : Expr} {m : Str} {apos pos : Pos} {xs : List Expr} {env : PySem.Env} (hb : attributeBase o m env (eval o env) = eval o env) (hs : noSt xs = true) (hl : xs.length < 10) (hp : (apos.endLine == pos.line) = true) :
   eval (.Call (.Attribute o m apos) xs [] pos) env = (do
     let ov ← eval o env
     standAt apos.atName
     let (f, first) ← holding [ov] (getMethod ov m (do return (← importBound o env).getD true))
     callWith pos f first (backTo pos (starEach xs env)) (backToKw pos (keywordEach [] env))) := by
 have hf : methodCallForm (xs.length + ([] : List Keyword).length) (backTo pos (starEach xs env)) (backToKw pos (keywordEach [] env)) = true := by
   unfold methodCallForm
   rw [star_none hs]
   show (true && true && decide (xs.length + 0 + 0 < 30)) = true
   simp
   omega
 have e1 : eval (.Call (.Attribute o m apos) xs [] pos) env = (do
     let ov ← attributeBase o m env (eval o env)
     standAt apos.atName
     methodCall o m apos pos env ov (xs.length + ([] : List Keyword).length) (backTo pos (starEach xs env)) (backToKw pos (keywordEach [] env))) := rfl
 rw [e1, hb]
 have e2 : ∀ ov, methodCall o m apos pos env ov (xs.length + ([] : List Keyword).length) (backTo pos (starEach xs env)) (backToKw pos (keywordEach [] env)) = (do
     let (f, first) ← holding [ov] (getMethod ov m (do return (← importBound o env).getD true))
     callWith pos f first (backTo pos (starEach xs env)) (backToKw pos (keywordEach [] env))) := fun ov => by
   unfold methodCall calleeOf methodCallPos
   simp only [hf, hp, Bool.not_true, Bool.false_or, if_true]
   simp only [pure_bind]
 simp only [e2]
theorem bm_facts {X : Cx} (hu : X.A.units + 65 < cLine) (m : Bm) : ∃ id, PlainAttrs (bmT m) ∧ Slot (bmT m) (bmS m) id ∧ typeOf (.builtin id) = pure (.type "method_descriptor") ∧ MtR X id (rBm X.K m) := by
 cases m with
 | lApp => exact ⟨_, PySem.F.plainAttrs_list, PySem.F.slot_list_append, PySem.F.type_list_append, mt_append⟩
 | lExt => exact ⟨_, PySem.F.plainAttrs_list, PySem.F.slot_list_extend, PySem.F.type_list_extend, mt_extendS⟩
 | lIns => exact ⟨_, PySem.F.plainAttrs_list, PySem.F.slot_list_insert, PySem.F.type_list_insert, mt_insert⟩
 | lPop => exact ⟨_, PySem.F.plainAttrs_list, PySem.F.slot_list_pop, PySem.F.type_list_pop, mt_pop⟩
 | lPopAt => exact ⟨_, PySem.F.plainAttrs_list, PySem.F.slot_list_pop, PySem.F.type_list_pop, mt_popAt⟩
 | lClr => exact ⟨_, PySem.F.plainAttrs_list, PySem.F.slot_list_clear, PySem.F.type_list_clear, mt_clear⟩
 | lIdx => exact ⟨_, PySem.F.plainAttrs_list, PySem.F.slot_list_index, PySem.F.type_list_index, MtR.or mt_index (mt_indexD hu)⟩
 | lCnt => exact ⟨_, PySem.F.plainAttrs_list, PySem.F.slot_list_count, PySem.F.type_list_count, mt_lcount⟩
 | sSplit => exact ⟨_, PySem.F.plainAttrs_str, PySem.F.slot_str_split, PySem.F.type_str_split, mt_split⟩
 | sFind => exact ⟨_, PySem.F.plainAttrs_str, PySem.F.slot_str_find, PySem.F.type_str_find, mt_find⟩
 | sCnt => exact ⟨_, PySem.F.plainAttrs_str, PySem.F.slot_str_count, PySem.F.type_str_count, mt_count⟩
 | dClr => exact ⟨_, PySem.F.plainAttrs_dict, PySem.F.slot_dict_clear, PySem.F.type_dict_clear, QS.mt_dclr⟩
theorem fold_ckI {sc : Scope} {e : E} {x : Expr} {env : PySem.Env} (h : ckI G c sc e x = true) : ∀ y, foldedSetIterable x env y = pure y := by
 have base : ∀ {e : E}, ckE G c sc e x = true → ∀ y, foldedSetIterable x env y = pure y := by
   intro e h
   cases x <;> first | (intro _; rfl) | (cases e <;> simp [ckE, cl1] at h)
 cases e <;> first | (simp [ckI] at h; done) | (simp only [ckI] at h; exact base h) | skip
 all_goals
   cases x <;> first | (simp [ckI] at h; done) | (intro _; rfl)

theorem snd_var (i : Nat) : Snd G c k (.var i) := by
 refine snd_val (fun _ => rfl) (fun {sc Wx X x} g h => ?_) (fun _ xs => by cases xs <;> rfl) (fun _ o => by cases o <;> rfl) (fun _ x => by cases x <;> rfl)
 cases x <;> first | (simp [ckE] at h; done) | skip
 simp only [ckE] at h
 exact ⟨g.pv h, fun _ => rfl⟩
theorem snd_int (n : Int) : Snd G c k (.int n) := by
 refine snd_val (fun _ => rfl) (fun {sc Wx X x} g h => ?_) (fun _ xs => by cases xs <;> rfl) (fun _ o => by cases o <;> rfl) (fun _ x => by cases x <;> rfl)
 cases x <;> first | (simp [ckE] at h; done) | skip
 rename_i v _ _
 cases v <;> first | (simp [ckE] at h; done) | skip
 simp only [ckE, decide_eq_true_eq] at h
 subst h
 exact ⟨pe_int, fun _ => rfl⟩
theorem snd_str (n : Str) : Snd G c k (.str n) := by
 refine snd_val (fun _ => rfl) (fun {sc Wx X x} g h => ?_) (fun _ xs => by cases xs <;> rfl) (fun _ o => by cases o <;> rfl) (fun _ x => by cases x <;> rfl)
 cases x <;> first | (simp [ckE] at h; done) | skip
 rename_i v _ _
 cases v <;> first | (simp [ckE] at h; done) | skip
 simp only [ckE, decide_eq_true_eq] at h
 subst h
 exact ⟨pe_str, fun _ => rfl⟩
theorem snd_bl (n : Bool) : Snd G c k (.bl n) := by
 refine snd_val (fun _ => rfl) (fun {sc Wx X x} g h => ?_) (fun _ xs => by cases xs <;> rfl) (fun _ o => by cases o <;> rfl) (fun _ x => by cases x <;> rfl)
 cases x <;> first | (simp [ckE] at h; done) | skip
 rename_i v _ _
 cases v <;> first | (simp [ckE] at h; done) | skip
 simp only [ckE, decide_eq_true_eq] at h
 subst h
 exact ⟨pe_bl, fun _ => rfl⟩
theorem snd_non  : Snd G c k (.non) := by
 refine snd_val (fun _ => rfl) (fun {sc Wx X x} g h => ?_) (fun _ xs => by cases xs <;> rfl) (fun _ o => by cases o <;> rfl) (fun _ x => by cases x <;> rfl)
 cases x <;> first | (simp [ckE] at h; done) | skip
 rename_i v _ _
 cases v <;> first | (simp [ckE] at h; done) | skip
 exact ⟨pe_non, fun _ => rfl⟩
theorem snd_glo (n : Nat) : Snd G c k (.glo n) := by
 refine snd_val (fun _ => rfl) (fun {sc Wx X x} g h => ?_) (fun _ xs => by cases xs <;> rfl) (fun _ o => by cases o <;> rfl) (fun _ x => by cases x <;> rfl)
 cases x <;> first | (simp [ckE] at h; done) | skip
 simp only [ckE, Bool.and_eq_true, decide_eq_true_eq] at h
 obtain ⟨⟨h1, rfl⟩, h3⟩ := h
 obtain ⟨u, hm, rv⟩ := g.glo n h1
 exact ⟨pe_glob (g.gl h3) (by rw [g.hmg]; exact hm) rv (glB_ok h3).2.1, fun _ => rfl⟩
theorem snd_bin {o : Operator} {a b : E} (ha : Snd G c k a) (hb : Snd G c k b) : Snd G c k (.bin o a b) := by
 refine snd_val (fun _ => rfl) (fun {sc Wx X x} g h => ?_) (fun _ xs => by cases xs <;> rfl) (fun _ o => by cases o <;> rfl) (fun _ x => by cases x <;> rfl)
 cases x <;> first | (simp [ckE] at h; done) | skip
 simp only [ckE, Bool.and_eq_true, decide_eq_true_eq] at h
 obtain ⟨⟨⟨rfl, h2⟩, h3⟩, h4⟩ := h
 exact ⟨pe_op (by rw [← g.hK]; exact op_bin (binOk_ok h2)) (ha.E g h3) (hb.E g h4), fun _ => rfl⟩
theorem snd_neg {a : E} (ha : Snd G c k a) : Snd G c k (.neg a) := by
 refine snd_val (fun _ => rfl) (fun {sc Wx X x} g h => ?_) (fun _ xs => by cases xs <;> rfl) (fun _ o => by cases o <;> rfl) (fun _ x => by cases x <;> rfl)
 cases x <;> first | (simp [ckE] at h; done) | skip
 rename_i op y pos
 cases op <;> first | (simp [ckE] at h; done) | skip
 simp only [ckE] at h
 exact ⟨show PE X _ (tUn (rU fun i => .int (-i)) (rd G.T G.C a Wx).E) from pe_un un_neg (ha.E g h), fun _ => rfl⟩
theorem snd_cmp {o : CmpOp} {a b : E} (ha : Snd G c k a) (hb : Snd G c k b) : Snd G c k (.cmp o a b) := by
 refine snd_plain (fun {sc Wx X x} g h => ?_) (fun {sc Wx X x} g h => ?_) (fun _ xs => by cases xs <;> rfl) (fun _ o => by cases o <;> rfl) (fun _ x => by cases x <;> rfl)
 all_goals
   cases x <;> first | (simp [ckE] at h; done) | skip
   rename_i x1 ops ys pos
   match ops, ys, h with
   | [o'], [y], h => ?_
   simp only [ckE, Bool.and_eq_true, decide_eq_true_eq] at h
   obtain ⟨⟨rfl, h3⟩, h4⟩ := h
 · exact pe_cmpR (by rw [← g.hK]; exact op_cmp g.units o) (ha.E g h3) (hb.E g h4) (ck_nb h4)
 · exact pt_cmpR (by rw [← g.hK]; exact op_cmp g.units o) (ha.E g h3) (hb.E g h4) (ck_nb h4)
theorem snd_chn {o p : CmpOp} {a b d : E} (ha : Snd G c k a) (hb : Snd G c k b) (hd : Snd G c k d) : Snd G c k (.chn o p a b d) := by
 refine snd_plain (fun {sc Wx X x} g h => ?_) (fun {sc Wx X x} g h => ?_) (fun _ xs => by cases xs <;> rfl) (fun _ o => by cases o <;> rfl) (fun _ x => by cases x <;> rfl)
 all_goals
   cases x <;> first | (simp [ckE] at h; done) | skip
   rename_i x1 ops ys pos
   match ops, ys, h with
   | [o', p'], [y, z], h => ?_
   simp only [ckE, Bool.and_eq_true, decide_eq_true_eq] at h
   obtain ⟨⟨⟨⟨rfl, rfl⟩, h3⟩, h4⟩, h5⟩ := h
   have hm : lastMarks [o, p] [y, z] = false := by
     show behindInMarks p z = false
     exact ck_nb h5
 · exact pe_chain (by rw [← g.hK]; exact op_cmp g.units o) (by rw [← g.hK]; exact op_cmp g.units p) (ha.E g h3) (hb.E g h4) (hd.E g h5) hm
 · exact pt_chain (by rw [← g.hK]; exact op_cmp g.units o) (by rw [← g.hK]; exact op_cmp g.units p) (ha.E g h3) (hb.E g h4) (hd.E g h5) hm
theorem snd_nt {a : E} (ha : Snd G c k a) : Snd G c k (.nt a) := by
 refine snd_plain (fun {sc Wx X x} g h => ?_) (fun {sc Wx X x} g h => ?_) (fun _ xs => by cases xs <;> rfl) (fun _ o => by cases o <;> rfl) (fun _ x => by cases x <;> rfl)
 all_goals
   cases x <;> first | (simp [ckE] at h; done) | skip
   rename_i op y pos
   cases op <;> first | (simp [ckE] at h; done) | skip
   simp only [ckE] at h
 · exact pe_not (ha.E g h)
 · exact pt_not (ha.T g h)
theorem snd_and {es : E} (hs : Snd G c k es) : Snd G c k (.and es) := by
 refine snd_plain (fun {sc Wx X x} g h => ?_) (fun {sc Wx X x} g h => ?_) (fun _ xs => by cases xs <;> rfl) (fun _ o => by cases o <;> rfl) (fun _ x => by cases x <;> rfl)
 all_goals
   cases x <;> first | (simp [ckE] at h; done) | skip
   rename_i op xs pos
   cases op <;> cases xs <;> first | (simp [ckE] at h; done) | skip
   simp only [ckE] at h
 · exact hs.AV g h
 · exact PW.pt (hs.A g h)
theorem snd_or {es : E} (hs : Snd G c k es) : Snd G c k (.or es) := by
 refine snd_plain (fun {sc Wx X x} g h => ?_) (fun {sc Wx X x} g h => ?_) (fun _ xs => by cases xs <;> rfl) (fun _ o => by cases o <;> rfl) (fun _ x => by cases x <;> rfl)
 all_goals
   cases x <;> first | (simp [ckE] at h; done) | skip
   rename_i op xs pos
   cases op <;> cases xs <;> first | (simp [ckE] at h; done) | skip
   simp only [ckE] at h
 · exact hs.RV g h
 · exact PW.pt (hs.R g h)
theorem snd_ife {t a b : E} (ht : Snd G c k t) (ha : Snd G c k a) (hb : Snd G c k b) : Snd G c k (.ife t a b) := by
 refine snd_plain (fun {sc Wx X x} g h => ?_) (fun _ _ => ⟨fun _ _ _ _ _ _ z => z.elim⟩) (fun _ xs => by cases xs <;> rfl) (fun _ o => by cases o <;> rfl) (fun _ x => by cases x <;> rfl)
 cases x <;> first | (simp [ckE] at h; done) | skip
 simp only [ckE, Bool.and_eq_true] at h
 exact pe_ifExp (ht.T g h.1.1) (ha.E g h.1.2) (hb.E g h.2)
theorem snd_tup {es : E} (hs : Snd G c k es) : Snd G c k (.tup es) := by
 refine snd_val (fun _ => rfl) (fun {sc Wx X x} g h => ?_) (fun _ xs => by cases xs <;> rfl) (fun _ o => by cases o <;> rfl) (fun _ x => by cases x <;> rfl)
 cases x <;> first | (simp [ckE] at h; done) | skip
 simp only [ckE] at h
 exact ⟨pe_tup (hs.L g h), fun _ => rfl⟩
theorem snd_lst {es : E} (hs : Snd G c k es) : Snd G c k (.lst es) := by
 refine snd_val (fun _ => rfl) (fun {sc Wx X x} g h => ?_) (fun _ xs => by cases xs <;> rfl) (fun _ o => by cases o <;> rfl) (fun _ x => by cases x <;> rfl)
 cases x <;> first | (simp [ckE] at h; done) | skip
 simp only [ckE] at h
 exact ⟨pe_lst (hs.L g h), fun _ => rfl⟩
theorem snd_nil : Snd G c k .nil where
 E := fun {_ _ _ x} _ h => by cases x <;> cases h
 T := fun {_ _ _ x} _ h => by cases x <;> cases h
 L := fun {_ _ _ xs} _ h => by
   cases xs <;> first | (simp [ckL] at h; done) | skip
   exact (pa_nil : PA _ [] tNil)
 O := fun {_ _ _ o} _ h => by
   cases o <;> first | (simp [ckO] at h; done) | skip
   exact (po_none : PO _ none tNoPart)
 P := fun {_ _ _ xs} _ h _ => by
   cases xs <;> first | (simp [ckL] at h; done) | skip
   exact (pts_nil : PTs _ [] tYes)
 A := fun _ h => by simp [ckL] at h
 R := fun _ h => by simp [ckL] at h
 AV := fun _ h => by simp [ckL] at h
 RV := fun _ h => by simp [ckL] at h
 I := fun {_ _ _ x _} _ h => by cases x <;> cases h
 IH := fun {_ _ _ x _} _ _ h => by cases x <;> cases h
theorem snd_cons {e es : E} (he : Snd G c k e) (hs : Snd G c k es) : Snd G c k (.cons e es) where
 E := fun {_ _ _ x} _ h => by cases x <;> cases h
 T := fun {_ _ _ x} _ h => by cases x <;> cases h
 L := fun {_ _ _ xs} g h => by
   cases xs <;> first | (simp [ckL] at h; done) | skip
   simp only [ckL, Bool.and_eq_true] at h
   exact pa_cons (he.E g h.1) (hs.L g h.2) (starC (ck_notSt h.1))
 O := fun {_ _ _ o} g h => by
   cases es <;> first | (simp [ckO] at h; done) | skip
   cases o <;> first | (simp [ckO] at h; done) | skip
   simp only [ckO] at h
   exact po_some (he.E g h)
 P := fun {_ _ _ xs} g h hl => by
   cases xs <;> first | (simp [ckL] at h; done) | skip
   rename_i x xs
   simp only [ckL, Bool.and_eq_true] at h
   cases xs with
   | cons _ _ => simp at hl
   | nil => exact pts_one (he.T g h.1)
 A := fun {_ _ _ _ xs _} g h => by
   simp only [ckL, Bool.and_eq_true] at h
   show PW _ _ (if elen es = 0 then _ else _)
   cases xs with
   | nil => rw [if_pos (show elen es = 0 from (ckL_len h.2).symm)]; exact pw_and1 (he.T g h.1)
   | cons y ys => rw [if_neg (by rw [← ckL_len h.2]; simp)]; exact pw_and (he.T g h.1) (hs.A g h.2)
 R := fun {_ _ _ _ xs _} g h => by
   simp only [ckL, Bool.and_eq_true] at h
   show PW _ _ (if elen es = 0 then _ else _)
   cases xs with
   | nil => rw [if_pos (show elen es = 0 from (ckL_len h.2).symm)]; exact pw_or1 (he.T g h.1)
   | cons y ys => rw [if_neg (by rw [← ckL_len h.2]; simp)]; exact pw_or (he.T g h.1) (hs.R g h.2)
 AV := fun {_ _ _ _ xs _} g h => by
   simp only [ckL, Bool.and_eq_true] at h
   show PE _ _ (if elen es = 0 then _ else _)
   cases xs with
   | nil => rw [if_pos (show elen es = 0 from (ckL_len h.2).symm)]; exact pe_one (he.E g h.1)
   | cons y ys => rw [if_neg (by rw [← ckL_len h.2]; simp)]; exact pe_and (he.E g h.1) (hs.AV g h.2)
 RV := fun {_ _ _ _ xs _} g h => by
   simp only [ckL, Bool.and_eq_true] at h
   show PE _ _ (if elen es = 0 then _ else _)
   cases xs with
   | nil => rw [if_pos (show elen es = 0 from (ckL_len h.2).symm)]; exact pe_one (he.E g h.1)
   | cons y ys => rw [if_neg (by rw [← ckL_len h.2]; simp)]; exact pe_or (he.E g h.1) (hs.RV g h.2)
 I := fun {_ _ _ x _} _ h => by cases x <;> cases h
 IH := fun {_ _ _ x _} _ _ h => by cases x <;> cases h
theorem snd_ix {a i : E} (ha : Snd G c k a) (hi : Snd G c k i) : Snd G c k (.ix a i) := by
 refine snd_val (fun _ => rfl) (fun {sc Wx X x} g h => ?_) (fun _ xs => by cases xs <;> rfl) (fun _ o => by cases o <;> rfl) (fun _ x => by cases x <;> rfl)
 cases x <;> first | (simp [ckE] at h; done) | skip
 simp only [ckE, Bool.and_eq_true] at h
 exact ⟨pe_ix (by rw [← g.hK]; exact ix_A (Nat.lt_of_le_of_lt (Nat.add_le_add_left (show 1 ≤ 65 by decide) _) g.units)) (ha.E g h.1) (hi.E g h.2) (plainIx_ck h.2), fun _ => rfl⟩
theorem snd_sl {a lo hi : E} (ha : Snd G c k a) (hl : Snd G c k lo) (hh : Snd G c k hi) : Snd G c k (.sl a lo hi) := by
 refine snd_val (fun _ => rfl) (fun {sc Wx X x} g h => ?_) (fun _ xs => by cases xs <;> rfl) (fun _ o => by cases o <;> rfl) (fun _ x => by cases x <;> rfl)
 cases x <;> first | (simp [ckE] at h; done) | skip
 rename_i x y pos
 cases y <;> first | (simp [ckE] at h; done) | skip
 rename_i l u st pos2
 cases st <;> first | (simp [ckE] at h; done) | skip
 simp only [ckE, Bool.and_eq_true] at h
 exact ⟨pe_slice (by rw [← g.hK]; exact SlR.or sl_list (SlR.or sl_str sl_tup)) (ha.E g h.1.1) (hl.O g h.1.2) (hh.O g h.2), fun _ => rfl⟩
theorem snd_call {i : Nat} {es : E} (hs : Snd G c k es) : Snd G c k (.call i es) := by
 refine snd_val (fun _ => rfl) (fun {sc Wx X x} g h => ?_) (fun _ xs => by cases xs <;> rfl) (fun _ o => by cases o <;> rfl) (fun _ x => by cases x <;> rfl)
 cases x <;> first | (simp [ckE] at h; done) | skip
 rename_i fn xs kws pos
 cases fn <;> cases kws <;> first | (simp [ckE] at h; done) | skip
 simp only [ckE, Bool.and_eq_true, Bool.not_eq_true', decide_eq_true_eq] at h
 obtain ⟨⟨⟨⟨⟨hh, hsup⟩, h1⟩, rfl⟩, h2⟩, h3⟩ := h
 obtain ⟨k1, k2, k3⟩ := glB_ok h2
 obtain ⟨fa, ⟨fd, ps, F, hk, hl, hb⟩, hm⟩ := g.fns i h1
 refine ⟨?_, fun _ => rfl⟩
 show PE X _ (rCall (G.T.f i) G.C (elen es) (WE Wx) (rd G.T G.C es Wx).L)
 unfold rCall
 split
 rotate_left
 · exact ⟨fun _ _ _ _ _ _ z => z.elim⟩
 rename_i ha
 obtain ⟨us, B, V⟩ := hb (elen es + (G.T.f i).dfl.length - (G.T.f i).ar) (by omega)
 have F' : FnOk X.prog X.w X.K X.mg X.base (L2N.CX X.prog X.w) k fa fd ps ((G.T.f i).sp G.C) := by rw [g.hP, g.hw, g.hK, g.hmg, g.hb]; exact F
 cases xs with
 | nil =>
   have e := ckL_nil h3
   subst e
   exact pe_callD0 F' (g.room hh) (g.gl h2) (by rw [g.hmg]; exact hm) (by rw [g.hK]; exact hk) (by rw [g.hK]; exact B) V (fun σ => L2N.passAt g.tk.takes σ) k2
 | cons y ys => exact pe_callD F' (g.room hh) (g.gl h2) (by rw [g.hmg]; exact hm) (by rw [g.hK]; exact hk) (by rw [g.hK]; exact B) V (fun σ => L2N.passAt g.tk.takes σ) (hs.L g h3) k2 (ckL_noSt h3)
theorem snd_blt {f : Blt} {es : E} (hs : Snd G c k es) : Snd G c k (.blt f es) := by
 refine snd_val (fun _ => rfl) (fun {sc Wx X x} g h => ?_) (fun _ xs => by cases xs <;> rfl) (fun _ o => by cases o <;> rfl) (fun _ x => by cases x <;> rfl)
 cases x <;> first | (simp [ckE] at h; done) | skip
 rename_i fn xs kws pos
 cases fn <;> cases kws <;> first | (simp [ckE] at h; done) | skip
 cases xs <;> first | (simp [ckE] at h; done) | skip
 simp only [ckE, Bool.and_eq_true, Bool.or_eq_true, Bool.not_eq_true', decide_eq_true_eq] at h
 obtain ⟨⟨⟨hh, rfl⟩, h2⟩, h3⟩ := h
 obtain ⟨k1, k2, k3⟩ := glB_ok h2
 have cr : CallR X (bltV f) (rBlt G.C.K f) := by
   rw [← g.hK]
   rcases hh with (hh | hh) | hh
   · exact call_blt (g.calm hh) f
   · exact call_bltH hh
   · cases hct : c.hot with
     | false => exact call_blt (g.calm hct) f
     | true =>
       obtain ⟨_, _, _, _, hg⟩ := g.hotg hct
       cases f <;> first | (cases hh; done) | exact cr_sumH hg.hc | exact cr_anyH hg.hc
 exact ⟨pe_callV (by cases f <;> first | exact .inl ⟨_, rfl⟩ | exact .inr ⟨_, rfl⟩) cr (g.gl h2) (g.mgN (bltS_in f)) (boot_blt f) (hs.L g h3) k3 k2 (ckL_noSt h3), fun _ => rfl⟩
theorem snd_isi {a : E} {t : String} (ha : Snd G c k a) : Snd G c k (.isi a t) := by
 refine snd_val (fun _ => rfl) (fun {sc Wx X x} g h => ?_) (fun _ xs => by cases xs <;> rfl) (fun _ o => by cases o <;> rfl) (fun _ x => by cases x <;> rfl)
 simp only [ckE] at h
 split at h
 · rename_i n x y0 q1
   split at h
   · rename_i m q2
     obtain ⟨pn, pos, rfl⟩ := cl1_eq q1
     obtain ⟨mp, rfl⟩ := nmOf_eq q2
     simp only [Bool.and_eq_true, decide_eq_true_eq, List.contains_iff_mem] at h
     obtain ⟨⟨⟨⟨⟨rfl, rfl⟩, ht⟩, h1⟩, h2⟩, h3⟩ := h
     obtain ⟨b1, b2, b3, b4⟩ := boot_ty ht
     have n := ck_notSt h3
     exact ⟨pe_callB (by rw [← g.hK]; exact call_isi) (g.gl h1) (g.mgN (by simp [bltNames])) PyProof.Rows.boot_isinstance (pa_cons (ha.E g h3) (pa_cons (pe_bltn (v := .ty t) (g.gl h2) (g.mgN b2) b1 rfl b4 b3) pa_nil) (starC n)) (by decide) (by decide) (starC n), fun _ => rfl⟩
   · cases h
 · cases h
theorem call_isD {X : Cx} {C D : Addr} {b : Bool} (c : C8.InsC X.K C) (me : PySem.W.kitOne X.K (.ref C) (.ref D) = some b) : CallR X (.builtin "isinstance") (rIsC C D b) := by
 intro pins s σ H xs us Q I r h
 obtain ⟨a, dx, fs, rfl, ha, q⟩ := h
 obtain ⟨u, w', rfl, ru, rw'⟩ := vals2 r
 cases rw'
 exact isinst_ok I ru (TyOf.ins ha c.cl c.ha c.hn c.htk c.hm) me fun tk => ⟨.bl b, H, I.tok _, rfl, q⟩
theorem snd_isC {a : E} {n m : Nat} {b : Bool} (ha : Snd G c k a) : Snd G c k (.isC a n m b) := by
 refine snd_val (fun _ => rfl) (fun {sc Wx X x} g h => ?_) (fun _ xs => by cases xs <;> rfl) (fun _ o => by cases o <;> rfl) (fun _ x => by cases x <;> rfl)
 simp only [ckE] at h
 split at h
 · rename_i m0 x y0 q1
   split at h
   · rename_i y q2
     obtain ⟨pn, pos, rfl⟩ := cl1_eq q1
     obtain ⟨mp, rfl⟩ := nmOf_eq q2
     simp only [Bool.and_eq_true, decide_eq_true_eq] at h
     obtain ⟨⟨⟨⟨⟨rfl, hn⟩, rfl⟩, h1⟩, h2⟩, h3⟩ := h
     obtain ⟨ic, hme, hm⟩ := g.ias _ hn
     obtain ⟨k1, k2, k3⟩ := glB_ok h2
     have nn := ck_notSt h3
     have ic2 := ic
     rw [← g.hK] at ic2
     have me2 := hme
     rw [← g.hK] at me2
     exact ⟨pe_callB (call_isD ic2 me2) (g.gl h1) (g.mgN (by simp [bltNames])) PyProof.Rows.boot_isinstance (pa_cons (ha.E g h3) (pa_cons (C8.pe_gc (v := .ref (G.C.cl m)) (g.gl h2) ⟨.ref (G.C.cl m), by rw [g.hmg]; exact hm, rfl⟩ k2) pa_nil) (starC nn)) (by decide) (by decide) (starC nn), fun _ => rfl⟩
   · cases h
 · cases h
theorem snd_att {a : E} {f : Str} (ha : Snd G c k a) : Snd G c k (.att a f) := by
 refine snd_val (fun _ => rfl) (fun {sc Wx X x} g h => ?_) (fun _ xs => by cases xs <;> rfl) (fun _ o => by cases o <;> rfl) (fun _ x => by cases x <;> rfl)
 cases x <;> first | (simp [ckE] at h; done) | skip
 simp only [ckE, Bool.and_eq_true, decide_eq_true_eq] at h
 obtain ⟨rfl, h2⟩ := h
 refine ⟨?_, fun _ => rfl⟩
 show PE X _ (tFld G.C.K (rd G.T G.C a Wx).E f)
 rw [← g.hK]
 exact pe_fld (ha.E g h2) (attBase_ck h2)
theorem snd_mth {cs : List Nat} {a : E} {m : Str} {es : E} (ha : Snd G c k a) (hs : Snd G c k es) : Snd G c k (.mth cs a m es) := by
 refine snd_val (fun _ => rfl) (fun {sc Wx X x} g h => ?_) (fun _ xs => by cases xs <;> rfl) (fun _ o => by cases o <;> rfl) (fun _ x => by cases x <;> rfl)
 cases x <;> first | (simp [ckE] at h; done) | skip
 rename_i fn xs kws pos
 cases fn <;> cases kws <;> first | (simp [ckE] at h; done) | skip
 rename_i o n apos
 simp only [ckE, Bool.and_eq_true, Bool.not_eq_true', decide_eq_true_eq, List.all_eq_true] at h
 obtain ⟨⟨⟨⟨⟨⟨hln, hlt⟩, hh⟩, rfl⟩, h1⟩, h2⟩, h3⟩ := h
 have me := meth_ev (pos := pos) (m := m) (apos := apos) (env := X.env) (xs := xs) (attBase_ck h2) (ckL_noSt h3) hlt hln
 refine ⟨⟨fun pins s σ H Q I hq => ?_⟩, fun _ => rfl⟩
 obtain ⟨d, hd, ha2, q⟩ := hq
 obtain ⟨fa, ⟨fd, ps, F, hk, hl, hb⟩, cc, mm⟩ := g.mts (d, m) (h1 d hd)
 obtain ⟨us, B, V⟩ := hb (elen es + 1 + (G.T.f (G.T.mt d m)).dfl.length - (G.T.f (G.T.mt d m)).ar) (by show _ ≤ (G.T.f (G.T.mt d m)).dfl.length; omega)
 have F' : FnOk X.prog X.w X.K X.mg X.base (L2N.CX X.prog X.w) k fa fd ps ((G.T.f (G.T.mt d m)).sp G.C) := by rw [g.hP, g.hw, g.hK, g.hmg, g.hb]; exact F
 cases xs with
 | nil =>
   have e := ckL_nil h3
   subst e
   exact (pe_methD0 (ha.E g h2) (by rw [g.hK]; exact cc) (by rw [g.hK]; exact mm) F' (g.room hh) (by rw [g.hK]; exact B) V (fun σ => L2N.passAt g.tk.takes σ) me).run pins s σ H Q I q
 | cons y ys => exact (pe_methD (ha.E g h2) (by rw [g.hK]; exact cc) (by rw [g.hK]; exact mm) F' (g.room hh) (by rw [g.hK]; exact B) V (fun σ => L2N.passAt g.tk.takes σ) (hs.L g h3) (ckL_noSt h3) me).run pins s σ H Q I q
theorem snd_mk {n : Nat} {es : E} (hs : Snd G c k es) : Snd G c k (.mk n es) := by
 refine snd_val (fun _ => rfl) (fun {sc Wx X x} g h => ?_) (fun _ xs => by cases xs <;> rfl) (fun _ o => by cases o <;> rfl) (fun _ x => by cases x <;> rfl)
 cases x <;> first | (simp [ckE] at h; done) | skip
 rename_i fn xs kws pos
 cases fn <;> cases kws <;> first | (simp [ckE] at h; done) | skip
 simp only [ckE, Bool.and_eq_true, Bool.not_eq_true', decide_eq_true_eq] at h
 obtain ⟨⟨⟨⟨⟨hh, hsup⟩, h1⟩, rfl⟩, h2⟩, h3⟩ := h
 obtain ⟨k1, k2, k3⟩ := glB_ok h2
 obtain ⟨fa, k0, hk0, ⟨fd, ps, F, hk, hl, hb⟩, M, hm, _⟩ := g.mks n h1
 refine ⟨?_, fun _ => rfl⟩
 show PE X _ (rMake G.T G.C n (elen es) (WE Wx) (rd G.T G.C es Wx).L)
 unfold rMake
 split
 rotate_left
 · exact ⟨fun _ _ _ _ _ _ z => z.elim⟩
 rename_i ha
 obtain ⟨us, B, V⟩ := hb (elen es + 1 + (G.T.f (G.T.ini n)).dfl.length - (G.T.f (G.T.ini n)).ar) (by omega)
 have F' : FnOk X.prog X.w X.K X.mg X.base (L2N.CX X.prog X.w) k0 fa fd ps ((G.T.f (G.T.ini n)).sp G.C) := by rw [g.hP, g.hw, g.hK, g.hmg, g.hb]; exact F
 have hr : Room (k0 + 1) X.A := (g.room hh).mono hk0
 cases xs with
 | nil =>
   have e := ckL_nil h3
   subst e
   exact pe_makeD0 (by rw [g.hK]; exact M) F' hr (g.gl h2) (by rw [g.hmg]; exact hm) (by rw [g.hK]; exact B) V (fun σ => L2N.passAt g.tk.takes σ) k2
 | cons y ys => exact pe_makeD (by rw [g.hK]; exact M) F' hr (g.gl h2) (by rw [g.hmg]; exact hm) (by rw [g.hK]; exact B) V (fun σ => L2N.passAt g.tk.takes σ) (hs.L g h3) k2 (ckL_noSt h3)
theorem snd_binit {n : Nat} {es : E} (hs : Snd G c k es) : Snd G c k (.binit n es) := by
 refine snd_val (fun _ => rfl) (fun {sc Wx X x} g h => ?_) (fun _ xs => by cases xs <;> rfl) (fun _ o => by cases o <;> rfl) (fun _ x => by cases x <;> rfl)
 cases x <;> first | (simp [ckE] at h; done) | skip
 rename_i fn xs kws pos
 cases fn <;> cases kws <;> first | (simp [ckE] at h; done) | skip
 rename_i o m apos
 cases o <;> cases xs <;> first | (simp [ckE] at h; done) | skip
 simp only [ckE, Bool.and_eq_true, Bool.not_eq_true', decide_eq_true_eq] at h
 obtain ⟨⟨⟨⟨⟨⟨⟨hln, hlt⟩, hh⟩, h1⟩, rfl⟩, rfl⟩, h2⟩, h3⟩ := h
 obtain ⟨k1, k2, k3⟩ := glB_ok h2
 obtain ⟨fa, ⟨fd, ps, F, hk, hl, hb⟩, hm, hf⟩ := g.bis n h1
 refine ⟨?_, fun _ => rfl⟩
 show PE X _ (rCall (G.T.f (G.T.ini n)) G.C (elen es) (WE Wx) (rd G.T G.C es Wx).L)
 unfold rCall
 split
 rotate_left
 · exact ⟨fun _ _ _ _ _ _ z => z.elim⟩
 rename_i ha
 obtain ⟨us, B, V⟩ := hb (elen es + (G.T.f (G.T.ini n)).dfl.length - (G.T.f (G.T.ini n)).ar) (by omega)
 have F' : FnOk X.prog X.w X.K X.mg X.base (L2N.CX X.prog X.w) k fa fd ps ((G.T.f (G.T.ini n)).sp G.C) := by rw [g.hP, g.hw, g.hK, g.hmg, g.hb]; exact F
 exact pe_cini (g.gl h2) (by rw [g.hmg]; exact hm) k2 (fun s Q E' hin q => by rw [g.hP, g.hw]; exact hf _ _ s Q E' (by rw [← g.hK]; exact hin) q) (by rw [g.hK]; exact hk) F' (g.room hh) (by rw [g.hK]; exact B) V (fun σ => L2N.passAt g.tk.takes σ) (hs.L g h3) (ckL_noSt h3) (meth_ev rfl (ckL_noSt h3) hlt hln)
theorem snd_bm {m : Bm} {a es : E} (ha : Snd G c k a) (hs : Snd G c k es) : Snd G c k (.bm m a es) := by
 refine snd_val (fun _ => rfl) (fun {sc Wx X x} g h => ?_) (fun _ xs => by cases xs <;> rfl) (fun _ o => by cases o <;> rfl) (fun _ x => by cases x <;> rfl)
 cases x <;> first | (simp [ckE] at h; done) | skip
 rename_i fn xs kws pos
 cases fn <;> cases kws <;> first | (simp [ckE] at h; done) | skip
 rename_i o n apos
 simp only [ckE, Bool.and_eq_true, decide_eq_true_eq] at h
 obtain ⟨⟨⟨⟨rfl, h1⟩, h4⟩, h2⟩, h3⟩ := h
 refine ⟨?_, fun _ => rfl⟩
 show PE X _ (if elen es = 0 then _ else _)
 obtain ⟨id, f1, f2, f3, f4⟩ := bm_facts (X := X) g.units m
 cases xs with
 | nil =>
   rw [if_pos (show elen es = 0 from (ckL_len h3).symm), ← g.hK]
   exact pe_bm0 f1 f2 f3 f4 (ha.E g h2) (attBase_ck h2) h1
 | cons y ys =>
   rw [if_neg (by rw [← ckL_len h3]; simp), ← g.hK]
   have hn := ckL_noSt h3
   have hn2 := hn
   simp only [noSt, List.all_cons, Bool.and_eq_true] at hn2
   refine pe_bm f1 f2 f3 f4 (ha.E g h2) (hs.L g h3) (attBase_ck h2) ?_ h1 (starC hn2.1) (star_all hn2.2)
   rw [star_none hn]
   show (true && true && decide ((y :: ys).length + 0 + 0 < 30)) = true
   simp only [Bool.and_self, Bool.true_and, decide_eq_true_eq]
   omega
theorem snd_join {s : Str} {e : E} (he : Snd G c k e) : Snd G c k (.join s e) := by
 refine snd_val (fun _ => rfl) (fun {sc Wx X x} g h => ?_) (fun _ xs => by cases xs <;> rfl) (fun _ o => by cases o <;> rfl) (fun _ x => by cases x <;> rfl)
 cases x <;> first | (simp [ckE] at h; done) | skip
 rename_i fn xs kws pos
 cases fn <;> cases kws <;> first | (simp [ckE] at h; done) | skip
 rename_i o m ap
 cases o <;> first | (simp [ckE] at h; done) | skip
 rename_i cv ck cpos
 cases cv <;> first | (simp [ckE] at h; done) | skip
 match xs, h with
 | [y], h => ?_
 simp only [ckE, Bool.and_eq_true, decide_eq_true_eq] at h
 obtain ⟨⟨⟨rfl, rfl⟩, h3⟩, h4⟩ := h
 have ns := ck_notSt h4
 refine ⟨?_, fun _ => rfl⟩
 have := pe_join (apos := ap) (pos := pos) (pe_str (x := s) (j := ck) (pos := cpos)) (he.E g h4) (by rw [starC ns]; rfl) rfl h3
 rw [g.hK] at this
 exact this
theorem snd_dct  : Snd G c k (.dct) := by
 refine snd_val (fun _ => rfl) (fun {sc Wx X x} g h => ?_) (fun _ xs => by cases xs <;> rfl) (fun _ o => by cases o <;> rfl) (fun _ x => by cases x <;> rfl)
 cases x <;> first | (simp [ckE] at h; done) | skip
 rename_i ks vs pos
 cases ks <;> cases vs <;> first | (simp [ckE] at h; done) | skip
 exact ⟨pe_dnewK, fun _ => rfl⟩
theorem pps_dd {a : E} (ha : Snd G c k a) {sc : Scope} {Wx : WX} {X : Cx} {pos : Pos} {z : Int} (g : Good G c k sc Wx X) : ∀ {ks : List Int} {keys : List (Option Expr)} {vs : List Expr}, ckDD (fun x => ckE G c sc a x) z ks keys vs = true →
   PPs X pos keys vs (ks.map fun k => (tOp (rIxA G.C.K) (rd G.T G.C a Wx).E (tC (.int k)), tC (.int z))) ∧ keys.all (·.isSome) = true ∧ keys.length = vs.length ∧ keys.length = ks.length
 | [], [], [], _ => ⟨pps_nil, rfl, rfl, rfl⟩
 | k :: ks, some (.Subscript x (.Constant (.int k') _ _) _) :: keys, .Constant (.int z') _ _ :: vs, h => by
   simp only [ckDD, Bool.and_eq_true, decide_eq_true_eq] at h
   obtain ⟨⟨⟨h1, rfl⟩, rfl⟩, h2⟩ := h
   obtain ⟨p1, p2, p3, p4⟩ := pps_dd ha g (pos := pos) h2
   exact ⟨pps_cons (pe_ix (by rw [← g.hK]; exact ix_A (Nat.lt_of_le_of_lt (Nat.add_le_add_left (show 1 ≤ 65 by decide) _) g.units)) (ha.E g h1) pe_int (plainIx_ck (G := G) (c := c) (sc := sc) (e := .int k) (by simp [ckE]))) pe_int p1, by simp [p2], by simp [p3], by simp [p4]⟩
theorem snd_dd0 {a : E} {ks : List Int} {z : Int} (ha : Snd G c k a) : Snd G c k (.dd0 a ks z) := by
 refine snd_val (fun _ => rfl) (fun {sc Wx X x} g h => ?_) (fun _ xs => by cases xs <;> rfl) (fun _ o => by cases o <;> rfl) (fun _ x => by cases x <;> rfl)
 cases x <;> first | (simp [ckE] at h; done) | skip
 rename_i keys vs pos
 simp only [ckE, Bool.and_eq_true, decide_eq_true_eq] at h
 obtain ⟨⟨h0, h15⟩, h2⟩ := h
 obtain ⟨p1, p2, p3, p4⟩ := pps_dd ha g (pos := pos) h2
 exact ⟨pe_disp p1 p2 p3 (fun e => by rw [e] at p4; simp at p4; omega) (by omega), fun _ => rfl⟩
theorem snd_dtt  : Snd G c k (.dtt) := by
 refine snd_val (fun _ => rfl) (fun {sc Wx X x} g h => ?_) (fun _ xs => by cases xs <;> rfl) (fun _ o => by cases o <;> rfl) (fun _ x => by cases x <;> rfl)
 cases x <;> first | (simp [ckE] at h; done) | skip
 rename_i ks vs pos
 cases ks <;> cases vs <;> first | (simp [ckE] at h; done) | skip
 exact ⟨pe_dnewT, fun _ => rfl⟩
theorem snd_dget {d y z : E} (hd : Snd G c k d) (hy : Snd G c k y) (hz : Snd G c k z) : Snd G c k (.dget d y z) := by
 refine snd_val (fun _ => rfl) (fun {sc Wx X x} g h => ?_) (fun _ xs => by cases xs <;> rfl) (fun _ o => by cases o <;> rfl) (fun _ x => by cases x <;> rfl)
 cases x <;> first | (simp [ckE] at h; done) | skip
 rename_i fn xs kws pos
 cases fn <;> cases kws <;> first | (simp [ckE] at h; done) | skip
 match xs, h with
 | [a, b], h => ?_
 simp only [ckE, Bool.and_eq_true, decide_eq_true_eq] at h
 obtain ⟨⟨⟨⟨rfl, h2⟩, h3⟩, h4⟩, h5⟩ := h
 have n1 := ck_notSt h4
 have n2 := ck_notSt h5
 have hu : X.A.units + 1 < cLine := Nat.lt_of_le_of_lt (Nat.add_le_add_left (show 1 ≤ 65 by decide) _) g.units
 have tr : starEach [a, b] X.env = [(false, eval a X.env), (false, eval b X.env)] := by rw [starC n1, starC n2]; rfl
 exact ⟨pe_dget2 hu (hd.E g h3) (hy.E g h4) (hz.E g h5) ⟨attBase_ck h3, by rw [tr]; rfl, h2, by rw [tr]; rfl⟩, fun _ => rfl⟩
theorem snd_dsetd {d y z : E} (hd : Snd G c k d) (hy : Snd G c k y) (hz : Snd G c k z) : Snd G c k (.dsetd d y z) := by
 refine snd_val (fun _ => rfl) (fun {sc Wx X x} g h => ?_) (fun _ xs => by cases xs <;> rfl) (fun _ o => by cases o <;> rfl) (fun _ x => by cases x <;> rfl)
 cases x <;> first | (simp [ckE] at h; done) | skip
 rename_i fn xs kws pos
 cases fn <;> cases kws <;> first | (simp [ckE] at h; done) | skip
 match xs, h with
 | [a, b], h => ?_
 simp only [ckE, Bool.and_eq_true, decide_eq_true_eq] at h
 obtain ⟨⟨⟨⟨rfl, h2⟩, h3⟩, h4⟩, h5⟩ := h
 have n1 := ck_notSt h4
 have n2 := ck_notSt h5
 have hu : X.A.units + 1 < cLine := Nat.lt_of_le_of_lt (Nat.add_le_add_left (show 1 ≤ 65 by decide) _) g.units
 have tr : starEach [a, b] X.env = [(false, eval a X.env), (false, eval b X.env)] := by rw [starC n1, starC n2]; rfl
 exact ⟨pe_dsetd (hd.E g h3) (hy.E g h4) (hz.E g h5) ⟨attBase_ck h3, by rw [tr]; rfl, h2, by rw [tr]; rfl⟩, fun _ => rfl⟩
theorem snd_dpop {d y : E} (hd : Snd G c k d) (hy : Snd G c k y) : Snd G c k (.dpop d y) := by
 refine snd_val (fun _ => rfl) (fun {sc Wx X x} g h => ?_) (fun _ xs => by cases xs <;> rfl) (fun _ o => by cases o <;> rfl) (fun _ x => by cases x <;> rfl)
 cases x <;> first | (simp [ckE] at h; done) | skip
 rename_i fn xs kws pos
 cases fn <;> cases kws <;> first | (simp [ckE] at h; done) | skip
 match xs, h with
 | [a], h => ?_
 simp only [ckE, Bool.and_eq_true, decide_eq_true_eq] at h
 obtain ⟨⟨⟨rfl, h2⟩, h3⟩, h4⟩ := h
 have n1 := ck_notSt h4
 have tr : starEach [a] X.env = [(false, eval a X.env)] := by rw [starC n1]; rfl
 exact ⟨pe_dpop1 (hd.E g h3) (hy.E g h4) ⟨attBase_ck h3, by rw [tr]; rfl, h2, by rw [tr]; rfl⟩, fun _ => rfl⟩
theorem snd_ditm {d : E} (hd : Snd G c k d) : Snd G c k (.ditm d) := by
 refine snd_val (fun _ => rfl) (fun {sc Wx X x} g h => ?_) (fun _ xs => by cases xs <;> rfl) (fun _ o => by cases o <;> rfl) (fun _ x => by cases x <;> rfl)
 simp only [ckE] at h
 split at h
 · rename_i l x1 q1
   split at h
   · rename_i x m ap cp q2
     obtain ⟨pn, pos, rfl⟩ := cl1_eq q1
     obtain rfl := meO_eq q2
     simp only [Bool.and_eq_true, Bool.not_eq_true', decide_eq_true_eq] at h
     obtain ⟨⟨⟨⟨⟨hh, rfl⟩, h2⟩, rfl⟩, h4⟩, h5⟩ := h
     exact ⟨LiI.pe_listItems (g.calm hh) (hd.E g h5) (g.gl h2) (g.mgN (by simp [bltNames])) (boot_blt .list) (attBase_ck h5) h4 rfl, fun _ => rfl⟩
   · cases h
 · cases h
theorem snd_dvl {d : E} (hd : Snd G c k d) : Snd G c k (.dvl d) := by
 refine snd_val (fun _ => rfl) (fun {sc Wx X x} g h => ?_) (fun _ xs => by cases xs <;> rfl) (fun _ o => by cases o <;> rfl) (fun _ x => by cases x <;> rfl)
 simp only [ckE] at h
 split at h
 · rename_i l x1 q1
   split at h
   · rename_i x m ap cp q2
     obtain ⟨pn, pos, rfl⟩ := cl1_eq q1
     obtain rfl := meO_eq q2
     simp only [Bool.and_eq_true, Bool.not_eq_true', decide_eq_true_eq] at h
     obtain ⟨⟨⟨⟨⟨hh, rfl⟩, h2⟩, rfl⟩, h4⟩, h5⟩ := h
     exact ⟨pe_listVals (g.calm hh) (hd.E g h5) (g.gl h2) (g.mgN (by simp [bltNames])) (boot_blt .list) (attBase_ck h5) h4, fun _ => rfl⟩
   · cases h
 · cases h
theorem snd_isx {i n : Nat} : Snd G c k (.isx i n) := by
 refine snd_val (fun _ => rfl) (fun {sc Wx X x} g h => ?_) (fun _ xs => by cases xs <;> rfl) (fun _ o => by cases o <;> rfl) (fun _ x => by cases x <;> rfl)
 have h0 := h
 simp only [ckE, Bool.and_eq_true] at h
 obtain ⟨h1, h2⟩ := h
 split at h2
 · rename_i nm x1 m1 q0
   obtain ⟨pn, pos, rfl⟩ := cl1_eq q0
   exact ⟨(by obtain ⟨_, _, _, _, hg⟩ := g.hotg h1; exact g.isx h1 hg g.hK g.hmg g.hN g.hsc _ _ rfl h0), fun _ => rfl⟩
 · cases h2
theorem snd_isv {i : Nat} : Snd G c k (.isv i) := by
 refine snd_val (fun _ => rfl) (fun {sc Wx X x} g h => ?_) (fun _ xs => by cases xs <;> rfl) (fun _ o => by cases o <;> rfl) (fun _ x => by cases x <;> rfl)
 have h0 := h
 simp only [ckE, Bool.and_eq_true] at h
 obtain ⟨h1, h2⟩ := h
 split at h2
 · rename_i nm x1 m1 q0
   obtain ⟨pn, pos, rfl⟩ := cl1_eq q0
   exact ⟨(by obtain ⟨_, _, _, _, hg⟩ := g.hotg h1; exact g.isx h1 hg g.hK g.hmg g.hN g.hsc _ _ rfl h0), fun _ => rfl⟩
 · cases h2
theorem snd_isxs {i : Nat} {ns : List Nat} : Snd G c k (.isxs i ns) := by
 refine snd_val (fun _ => rfl) (fun {sc Wx X x} g h => ?_) (fun _ xs => by cases xs <;> rfl) (fun _ o => by cases o <;> rfl) (fun _ x => by cases x <;> rfl)
 have h0 := h
 simp only [ckE, Bool.and_eq_true] at h
 obtain ⟨h1, h2⟩ := h
 split at h2
 · rename_i nm x1 m1 q0
   obtain ⟨pn, pos, rfl⟩ := cl1_eq q0
   exact ⟨(by obtain ⟨_, _, _, _, hg⟩ := g.hotg h1; exact g.isx h1 hg g.hK g.hmg g.hN g.hsc _ _ rfl h0), fun _ => rfl⟩
 · cases h2
theorem snd_exf {i : Nat} {f : Str} : Snd G c k (.exf i f) := by
 refine snd_val (fun _ => rfl) (fun {sc Wx X x} g h => ?_) (fun _ xs => by cases xs <;> rfl) (fun _ o => by cases o <;> rfl) (fun _ x => by cases x <;> rfl)
 cases x <;> first | (simp [ckE] at h; done) | skip
 rename_i o m p
 cases o <;> first | (simp [ckE] at h; done) | skip
 have h0 := h
 simp only [ckE, Bool.and_eq_true] at h
 exact ⟨(by obtain ⟨_, _, _, _, hg⟩ := g.hotg h.1.1; exact g.isx h.1.1 hg g.hK g.hmg g.hN g.hsc _ _ rfl h0), fun _ => rfl⟩
theorem snd_lrev {e : E} (he : Snd G c k e) : Snd G c k (.lrev e) := by
 refine snd_val (fun _ => rfl) (fun {sc Wx X x} g h => ?_) (fun _ xs => by cases xs <;> rfl) (fun _ o => by cases o <;> rfl) (fun _ x => by cases x <;> rfl)
 simp only [ckE] at h
 split at h
 · rename_i l x1 q1
   split at h
   · rename_i r x q2
     obtain ⟨pn, pos, rfl⟩ := cl1_eq q1
     obtain ⟨p2, pos2, rfl⟩ := cl1_eq q2
     simp only [Bool.and_eq_true, Bool.not_eq_true', decide_eq_true_eq] at h
     obtain ⟨⟨⟨⟨⟨hh, rfl⟩, rfl⟩, h2⟩, h3⟩, h4⟩ := h
     have n1 := ck_notSt h4
     refine ⟨?_, fun _ => rfl⟩
     show PE X _ (tLstRev G.C.K _)
     rw [← g.hK]
     exact pe_lstRev (g.calm hh) (g.gl h2) (g.mgN (by simp [bltNames])) (g.gl h3) (g.mgN (by simp [bltNames])) (he.E g h4) (boot_blt .list) (starC n1)
   · cases h
 · cases h
theorem snd_sset {e : E} (he : Snd G c k e) : Snd G c k (.sset e) := by
 refine snd_val (fun _ => rfl) (fun {sc Wx X x} g h => ?_) (fun _ xs => by cases xs <;> rfl) (fun _ o => by cases o <;> rfl) (fun _ x => by cases x <;> rfl)
 simp only [ckE] at h
 split at h
 · rename_i l x1 q1
   split at h
   · rename_i r x q2
     obtain ⟨pn, pos, rfl⟩ := cl1_eq q1
     obtain ⟨p2, pos2, rfl⟩ := cl1_eq q2
     simp only [Bool.and_eq_true, Bool.not_eq_true', decide_eq_true_eq] at h
     obtain ⟨⟨⟨⟨⟨hh, rfl⟩, rfl⟩, h2⟩, h3⟩, h4⟩ := h
     have n1 := ck_notSt h4
     refine ⟨?_, fun _ => rfl⟩
     show PE X _ (tSSet G.C.K _)
     rw [← g.hK]
     exact pe_sset (g.calm hh) (g.gl h2) (g.mgN (by simp [bltNames])) (g.gl h3) (g.mgN (by simp [bltNames])) (he.E g h4) (boot_blt .sorted) PyProof.Rows.boot_set (starC n1)
   · cases h
 · cases h
end
end Q
namespace Q
open PySem L2 PySem.Spec
section
variable {G : Gx} {c : Cn} {k : Nat}
theorem Good.blk {sc : Scope} {Wx : WX} {X : Cx} (g : Good G c k sc Wx X) (hh : c.hot = false) (s : Shared) (H : Hp) (scope : Scope) (D : Addr) (cl : List (Str × Addr)) (fp : List Addr) : Good G c k (relS scope sc) noX (X.blk s H scope (compEnvC scope cl D X.env) fp) where
 hP := g.hP
 hw := g.hw
 hK := g.hK
 hmg := g.hmg
 hb := g.hb
 hN := g.hN
 nd := g.nd
 hsc := by
   rw [← g.hsc]
   rfl
 calm := g.calm
 room := g.room
 tk := g.tk.none rfl rfl
 blt := g.blt
 glo := g.glo
 fns := g.fns
 units := g.units
 fnh := g.fnh
 mts := g.mts
 mks := g.mks
 bis := g.bis
 ias := g.ias
 hotg := fun h => by rw [hh] at h; cases h
 isx := fun h => by rw [hh] at h; cases h
theorem Good.blkX {sc : Scope} {Wx W' : WX} {X : Cx} {L : Addr} (g : Good G c k sc Wx X) (hL : X.env.frame = some L) (hh : c.hot = false) (s : Shared) (H : Hp) (scope : Scope) (D : Addr) (cl : List (Str × Addr)) (fp : List Addr) : Good G c k (relS scope sc) W' (Q.blkX X s H scope (compEnvC scope cl D X.env) fp W' L) where
 hP := g.hP
 hw := g.hw
 hK := g.hK
 hmg := g.hmg
 hb := g.hb
 hN := g.hN
 nd := g.nd
 hsc := by
   rw [← g.hsc]
   rfl
 calm := g.calm
 room := g.room
 tk := g.tk.blk hL
 blt := g.blt
 glo := g.glo
 fns := g.fns
 units := g.units
 fnh := g.fnh
 mts := g.mts
 mks := g.mks
 bis := g.bis
 ias := g.ias
 hotg := fun h => by rw [hh] at h; cases h
 isx := fun h => by rw [hh] at h; cases h
theorem HotG.blk {X : Cx} {m : Nat} {a : Addr} {dx : Option Addr} {oe : Obj} (h : HotG G k X m a dx oe) (s : Shared) (H : Hp) (scope : Scope) (ce : PySem.Env) (fp : List Addr) : HotG G k (blkH X s H scope ce fp) m a dx oe where
 ex := h.ex
 ob := h.ob
 hc := h.hc
 room := h.room
 src := h.src
 at_ := fun {pins σ H1 s1} I => by
   rcases h.src with z | z
   · have q := I.bs a oe z
     exact ⟨q.1, q.2, I.ok.nofr z⟩
   · obtain ⟨e, n, _, nf, _⟩ := I.pin (a, oe) (List.mem_append_left _ z)
     exact ⟨e, n, nf⟩
theorem HotG.blkX {X : Cx} {m : Nat} {a : Addr} {dx : Option Addr} {oe : Obj} (h : HotG G k X m a dx oe) (s : Shared) (H : Hp) (scope : Scope) (ce : PySem.Env) (fp : List Addr) (W : WX) (L : Addr) : HotG G k (blkXH X s H scope ce fp W L) m a dx oe where
 ex := h.ex
 ob := h.ob
 hc := h.hc
 room := h.room
 src := h.src
 at_ := fun {pins σ H1 s1} I => by
   rcases h.src with z | z
   · have q := I.bs a oe z
     exact ⟨q.1, q.2, I.ok.nofr z⟩
   · obtain ⟨e, n, _, nf, _⟩ := I.pin (a, oe) (List.mem_append_left _ z)
     exact ⟨e, n, nf⟩
theorem Good.blkH {sc : Scope} {Wx : WX} {X : Cx} (g : Good G c k sc Wx X) (hh : c.hot = true) (s : Shared) (H : Hp) (scope : Scope) (D : Addr) (cl : List (Str × Addr)) (fp : List Addr) : Good G c k (relS scope sc) noX (blkH X s H scope (compEnvC scope cl D X.env) fp) where
 hP := g.hP
 hw := g.hw
 hK := g.hK
 hmg := g.hmg
 hb := g.hb
 hN := g.hN
 nd := g.nd
 hsc := by
   rw [← g.hsc]
   rfl
 calm := g.calm
 room := g.room
 tk := g.tk.none rfl rfl
 blt := g.blt
 glo := g.glo
 fns := g.fns
 units := g.units
 fnh := g.fnh
 mts := g.mts
 mks := g.mks
 bis := g.bis
 ias := g.ias
 hotg := fun h => by
   obtain ⟨m, a, dx, oe, hg⟩ := g.hotg h
   exact ⟨m, a, dx, oe, hg.blk s H scope _ fp⟩
 isx := g.isx
theorem Good.blkXH {sc : Scope} {Wx W' : WX} {X : Cx} {L : Addr} (g : Good G c k sc Wx X) (hL : X.env.frame = some L) (hh : c.hot = true) (s : Shared) (H : Hp) (scope : Scope) (D : Addr) (cl : List (Str × Addr)) (fp : List Addr) : Good G c k (relS scope sc) W' (Q.blkXH X s H scope (compEnvC scope cl D X.env) fp W' L) where
 hP := g.hP
 hw := g.hw
 hK := g.hK
 hmg := g.hmg
 hb := g.hb
 hN := g.hN
 nd := g.nd
 hsc := by
   rw [← g.hsc]
   rfl
 calm := g.calm
 room := g.room
 tk := g.tk.blkH hL
 blt := g.blt
 glo := g.glo
 fns := g.fns
 units := g.units
 fnh := g.fnh
 mts := g.mts
 mks := g.mks
 bis := g.bis
 ias := g.ias
 hotg := fun h => by
   obtain ⟨m, a, dx, oe, hg⟩ := g.hotg h
   exact ⟨m, a, dx, oe, hg.blkX s H scope _ fp _ _⟩
 isx := g.isx
theorem pg_tgN {X : Cx} {sc : Scope} (hN : X.N = c.N) (nd : c.N.Nodup) (hsc : X.env.scope = sc) {is : List Nat} {x : Str} {p : Pos} (hf : X.fn x = true ∨ X.env.scope.names.lookup x = some .local) (h : ckTg c sc is (.Name x p) = true) : PG X (.Name x p) (gTg X.K is) := by
 match is, h with
 | [i], h =>
   simp only [ckTg, Bool.and_eq_true, decide_eq_true_eq] at h
   exact pg_name (i := i) (by rw [hN]; exact nd) (by rw [hN]; exact h.1) (by rw [hsc]; exact locB_ok h.2) hf
theorem zip_snd {α β : Type} : ∀ {a : List α} {b : List β}, a.length = b.length → (a.zip b).map (·.2) = b
 | [], [], _ => rfl
 | _ :: a, _ :: b, h => by
   show _ :: (a.zip b).map (·.2) = _
   rw [zip_snd (by simpa using h)]
theorem snd_lc {js : List Nat} {it t e : E} (hit : Snd G c k it) (ht : Snd G c k t) (he : Snd G c k e) : Snd G c k (.lc js it t e) := by
 refine snd_val (fun _ => rfl) (fun {sc Wx X x} g h => ?_) (fun _ xs => by cases xs <;> rfl) (fun _ o => by cases o <;> rfl) (fun _ x => by cases x <;> rfl)
 cases x <;> first | (simp [ckE] at h; done) | skip
 rename_i elt gens scope pos
 match gens, h with
 | [⟨tg, iter, ifs, 0⟩], h =>
   simp only [ckE, Bool.and_eq_true, Bool.not_eq_true', decide_eq_true_eq] at h
   obtain ⟨⟨⟨⟨⟨⟨⟨hh, h1⟩, htp⟩, h2⟩, h3⟩, h4⟩, h5⟩, h6⟩ := h
   simp only [ckC, Bool.and_eq_true, decide_eq_true_eq, List.all_eq_true] at h2
   obtain ⟨⟨hlen, hbk⟩, hloc⟩ := h2
   have bk := blkOk_by hbk
   refine ⟨?_, fun _ => rfl⟩
   cases hct : c.hot with
   | false =>
     have hh : c.hot = false := hct
     obtain ⟨L, _, _, _, _, hL, _⟩ := id g.tk
     have q := pe_lcX (te := fun σ0 => (rd G.T G.C e fun cls d _ H' => Wx cls d σ0 H').E) g.tk hL (elt := elt) (pos := pos) (ifs := ifs) (own := (tgNs tg).zip js) (g := gTg G.C.K js) (g.calm hh) (by rw [g.hN]; exact g.nd) (hit.I (tg := tg) g h1 (by simpa using htp)) (by rw [g.hN, g.hsc]; exact bk)
       (fun s H D cl fp => by
         have gb := g.blk hh s H scope D cl fp
         rw [← gb.hK]
         refine pg_tg (c := c) (gb.calm hh) gb.hN gb.nd gb.hsc (fun x hx => ?_) h3
         rcases Bool.or_eq_true_iff.mp (hloc x hx) with z | z
         · exact .inr (by rw [gb.hsc]; exact of_decide_eq_true z)
         · exact .inl (by show (scope.names.lookup x == some .cell) = true; rw [of_decide_eq_true z]; rfl))
       (fun s H D cl fp => ht.P (g.blk hh s H scope D cl fp) h4 h5) (fun σ0 s H D cl fp => he.E (g.blkX hL hh s H scope D cl fp) h6) (fold_ckI h1)
     rw [zip_snd hlen] at q
     exact ⟨fun pins s σ H Q I h => h.elim (q.run pins s σ H Q I) ((pe_lock q).run pins s σ H Q I)⟩
   | true =>
     obtain ⟨L, _, _, _, _, hL, _⟩ := id g.tk
     have hI : hotI it tg = true := by rw [hct] at hh; simpa using hh
     obtain ⟨xn, xp, rfl⟩ : ∃ xn xp, tg = .Name xn xp := by
       cases it <;> first | (cases hI; done) | skip
       · cases tg <;> first | (cases hI; done) | exact ⟨_, _, rfl⟩
       · cases tg <;> first | (cases hI; done) | exact ⟨_, _, rfl⟩
     obtain ⟨m, a, dx, oe, hgt⟩ := g.hotg hct
     have q := pe_lcXH (te := fun σ0 => (rd G.T G.C e fun cls d _ H' => Wx cls d σ0 H').E) g.tk hL (elt := elt) (pos := pos) (ifs := ifs) (own := (tgNs (.Name xn xp)).zip js) (g := gTg G.C.K js) hgt.hc (by rw [g.hN]; exact g.nd) (hit.IH (tg := .Name xn xp) g hgt.hc h1 hI) (by rw [g.hN, g.hsc]; exact bk)
       (fun s H D cl fp => by
         have gb := g.blkH hct s H scope D cl fp
         rw [← gb.hK]
         refine pg_tgN (c := c) gb.hN gb.nd gb.hsc ?_ h3
         rcases Bool.or_eq_true_iff.mp (hloc xn (by simp [tgNs])) with z | z
         · exact .inr (by rw [gb.hsc]; exact of_decide_eq_true z)
         · exact .inl (by show (scope.names.lookup xn == some .cell) = true; rw [of_decide_eq_true z]; rfl))
       (fun s H D cl fp => ht.P (g.blkH hct s H scope D cl fp) h4 h5) (fun σ0 s H D cl fp => he.E (g.blkXH hL hct s H scope D cl fp) h6) (fold_ckI h1)
     rw [zip_snd hlen] at q
     exact ⟨fun pins s σ H Q I h => h.elim (q.run pins s σ H Q I) ((pe_lock q).run pins s σ H Q I)⟩
theorem snd_it {e : E} (ne : ∀ sc x, ckE G c sc e x = false) (nl : ∀ sc xs, ckL G c sc e xs = false) (no : ∀ sc o, ckO G c sc e o = false)
   (hI : ∀ {sc Wx X x tg}, Good G c k sc Wx X → ckI G c sc e x = true → isTupE tg = true ∨ freeIt e = true → PI X tg x (rd G.T G.C e Wx).I)
   (hIH : ∀ {sc Wx X x tg}, Good G c k sc Wx X → L2H.HotC X → ckI G c sc e x = true → hotI e tg = true → L2H.PIH X tg x (rd G.T G.C e Wx).I := by exact fun _ _ _ z => by cases z) : Snd G c k e where
 E := fun _ h => by rw [ne] at h; cases h
 T := fun _ h => by rw [ne] at h; cases h
 L := fun _ h => by rw [nl] at h; cases h
 O := fun _ h => by rw [no] at h; cases h
 P := fun _ h => by rw [nl] at h; cases h
 A := fun _ h => by rw [nl] at h; cases h
 R := fun _ h => by rw [nl] at h; cases h
 AV := fun _ h => by rw [nl] at h; cases h
 RV := fun _ h => by rw [nl] at h; cases h
 I := hI
 IH := hIH
theorem snd_iL {e : E} (he : Snd G c k e) : Snd G c k (.iL e) := snd_it (fun _ x => by cases x <;> rfl) (fun _ xs => by cases xs <;> rfl) (fun _ o => by cases o <;> rfl) (fun {sc Wx X x tg} g h _ => by
  simp only [ckI] at h
  show PI X tg x (iList G.C.K _)
  rw [← g.hK]
  exact pi_list (he.E g h)) fun {sc Wx X x tg} g _ h _ => by
  simp only [ckI] at h
  show L2H.PIH X tg x (iList G.C.K _)
  rw [← g.hK]
  exact pi_listH (he.E g h)
theorem snd_iT {e : E} (he : Snd G c k e) : Snd G c k (.iT e) := snd_it (fun _ x => by cases x <;> rfl) (fun _ xs => by cases xs <;> rfl) (fun _ o => by cases o <;> rfl) fun {sc Wx X x tg} g h _ => by
  simp only [ckI] at h
  show PI X tg x (iTup G.C.K _)
  rw [← g.hK]
  exact pi_tup (he.E g h)
theorem snd_iDk {e : E} (he : Snd G c k e) : Snd G c k (.iDk e) := snd_it (fun _ x => by cases x <;> rfl) (fun _ xs => by cases xs <;> rfl) (fun _ o => by cases o <;> rfl) fun {sc Wx X x tg} g h _ => by
  simp only [ckI] at h
  exact pi_keys (he.E g h)
theorem snd_iSt {e : E} (he : Snd G c k e) : Snd G c k (.iSt e) := snd_it (fun _ x => by cases x <;> rfl) (fun _ xs => by cases xs <;> rfl) (fun _ o => by cases o <;> rfl) fun {sc Wx X x tg} g h _ => by
  simp only [ckI] at h
  exact pi_str (he.E g h)
theorem snd_iR1 {e : E} (he : Snd G c k e) : Snd G c k (.iR1 e) := snd_it (fun _ x => by cases x <;> rfl) (fun _ xs => by cases xs <;> rfl) (fun _ o => by cases o <;> rfl) (fun {sc Wx X x tg} g h _ => by
  cases x <;> first | (simp [ckI] at h; done) | skip
  rename_i fn xs kws pos
  match fn, xs, kws, h with
  | .Name n p, [x], [], h =>
    simp only [ckI, Bool.and_eq_true, decide_eq_true_eq] at h
    obtain ⟨⟨rfl, h2⟩, h3⟩ := h
    have n1 := ck_notSt h3
    exact pi_range1 (g.gl h2) (g.mgN (by simp [bltNames])) (pa_cons (he.E g h3) pa_nil (starC n1)) (starC n1)) fun {sc Wx X x tg} g _ h _ => by
  cases x <;> first | (simp [ckI] at h; done) | skip
  rename_i fn xs kws pos
  match fn, xs, kws, h with
  | .Name n p, [x], [], h =>
    simp only [ckI, Bool.and_eq_true, decide_eq_true_eq] at h
    obtain ⟨⟨rfl, h2⟩, h3⟩ := h
    have n1 := ck_notSt h3
    exact L2H.pi_range1H (g.gl h2) (g.mgN (by simp [bltNames])) (pa_cons (he.E g h3) pa_nil (starC n1)) (starC n1)
theorem snd_iR2 {e f : E} (he : Snd G c k e) (hf : Snd G c k f) : Snd G c k (.iR2 e f) := snd_it (fun _ x => by cases x <;> rfl) (fun _ xs => by cases xs <;> rfl) (fun _ o => by cases o <;> rfl) fun {sc Wx X x tg} g h _ => by
  cases x <;> first | (simp [ckI] at h; done) | skip
  rename_i fn xs kws pos
  match fn, xs, kws, h with
  | .Name n p, [x, y], [], h =>
    simp only [ckI, Bool.and_eq_true, decide_eq_true_eq] at h
    obtain ⟨⟨⟨rfl, h2⟩, h3⟩, h4⟩ := h
    have n1 := ck_notSt h3
    have n2 := ck_notSt h4
    exact pi_range2 (g.gl h2) (g.mgN (by simp [bltNames])) (pa_cons (he.E g h3) (pa_cons (hf.E g h4) pa_nil (starC n2)) (starC n1)) (by rw [starC n1, starC n2]; rfl) (starC n2)
theorem snd_iR3 {e f d : E} (he : Snd G c k e) (hf : Snd G c k f) (hd : Snd G c k d) : Snd G c k (.iR3 e f d) := snd_it (fun _ x => by cases x <;> rfl) (fun _ xs => by cases xs <;> rfl) (fun _ o => by cases o <;> rfl) fun {sc Wx X x tg} g h _ => by
  cases x <;> first | (simp [ckI] at h; done) | skip
  rename_i fn xs kws pos
  match fn, xs, kws, h with
  | .Name n p, [x, y, z], [], h =>
    simp only [ckI, Bool.and_eq_true, decide_eq_true_eq] at h
    obtain ⟨⟨⟨⟨rfl, h2⟩, h3⟩, h4⟩, h5⟩ := h
    have n1 := ck_notSt h3
    have n2 := ck_notSt h4
    have n3 := ck_notSt h5
    exact pi_range3 (g.gl h2) (g.mgN (by simp [bltNames])) (pa_cons (he.E g h3) (pa_cons (hf.E g h4) (pa_cons (hd.E g h5) pa_nil (starC n3)) (starC n2)) (starC n1)) (starC n1) (star_all (xs := [y, z]) (by simp only [noSt, List.all_cons, n2, n3]; rfl))
theorem snd_iEn {e : E} (he : Snd G c k e) : Snd G c k (.iEn e) := snd_it (fun _ x => by cases x <;> rfl) (fun _ xs => by cases xs <;> rfl) (fun _ o => by cases o <;> rfl) fun {sc Wx X x tg} g h ht => by
  have ht' : isTupE tg = true := ht.elim id fun z => by cases z
  obtain ⟨te, tk, tp, rfl⟩ : ∃ te tk tp, tg = .Tuple te tk tp := by cases tg <;> first | (exact ⟨_, _, _, rfl⟩) | (cases ht'; done)
  cases x <;> first | (simp [ckI] at h; done) | skip
  rename_i fn xs kws pos
  match fn, xs, kws, h with
  | .Name n p, [x], [], h =>
    simp only [ckI, Bool.and_eq_true, decide_eq_true_eq] at h
    obtain ⟨⟨rfl, h2⟩, h3⟩ := h
    have n1 := ck_notSt h3
    have q := pi_enum (elts := te) (kk := tk) (tpos := tp) (pos := pos) (p := p) (g.gl h2) (g.mgN (by simp [bltNames])) (pa_cons (he.E g h3) pa_nil (starC n1)) (starC n1)
    have q2 := pi_enumK (elts := te) (kk := tk) (tpos := tp) (pos := pos) (p := p) (g.gl h2) (g.mgN (by simp [bltNames])) (pa_cons (he.E g h3) pa_nil (starC n1)) (starC n1)
    rw [g.hK] at q
    exact ⟨fun pins s σ H R I h => h.elim (q.run pins s σ H R I) (q2.run pins s σ H R I)⟩
theorem snd_iZp {e f : E} (he : Snd G c k e) (hf : Snd G c k f) : Snd G c k (.iZp e f) := snd_it (fun _ x => by cases x <;> rfl) (fun _ xs => by cases xs <;> rfl) (fun _ o => by cases o <;> rfl) fun {sc Wx X x tg} g h ht => by
  have ht' : isTupE tg = true := ht.elim id fun z => by cases z
  obtain ⟨te, tk, tp, rfl⟩ : ∃ te tk tp, tg = .Tuple te tk tp := by cases tg <;> first | (exact ⟨_, _, _, rfl⟩) | (cases ht'; done)
  cases x <;> first | (simp [ckI] at h; done) | skip
  rename_i fn xs kws pos
  match fn, xs, kws, h with
  | .Name n p, [x, y], [], h =>
    simp only [ckI, Bool.and_eq_true, decide_eq_true_eq] at h
    obtain ⟨⟨⟨rfl, h2⟩, h3⟩, h4⟩ := h
    have n1 := ck_notSt h3
    have n2 := ck_notSt h4
    have q := pi_zip (elts := te) (kk := tk) (tpos := tp) (pos := pos) (p := p) (g.gl h2) (g.mgN (by simp [bltNames])) (pa_cons (he.E g h3) (pa_cons (hf.E g h4) pa_nil (starC n2)) (starC n1)) (starC n1) (by rw [starC n2]; rfl)
    rw [g.hK] at q
    exact q
theorem snd_iRv {e : E} (he : Snd G c k e) : Snd G c k (.iRv e) := snd_it (fun _ x => by cases x <;> rfl) (fun _ xs => by cases xs <;> rfl) (fun _ o => by cases o <;> rfl) fun {sc Wx X x tg} g h _ => by
  cases x <;> first | (simp [ckI] at h; done) | skip
  rename_i fn xs kws pos
  match fn, xs, kws, h with
  | .Name n p, [x], [], h =>
    simp only [ckI, Bool.and_eq_true, decide_eq_true_eq] at h
    obtain ⟨⟨rfl, h2⟩, h3⟩ := h
    have n1 := ck_notSt h3
    have q := pi_reversed (tg := tg) (pos := pos) (p := p) (g.gl h2) (g.mgN (by simp [bltNames])) (pa_cons (he.E g h3) pa_nil (starC n1)) (starC n1)
    rw [g.hK] at q
    exact q
theorem snd_iIt {e : E} (he : Snd G c k e) : Snd G c k (.iIt e) := snd_it (fun _ x => by cases x <;> rfl) (fun _ xs => by cases xs <;> rfl) (fun _ o => by cases o <;> rfl) fun {sc Wx X x tg} g h ht => by
  have ht' : isTupE tg = true := ht.elim id fun z => by cases z
  obtain ⟨te, tk, tp, rfl⟩ : ∃ te tk tp, tg = .Tuple te tk tp := by cases tg <;> first | (exact ⟨_, _, _, rfl⟩) | (cases ht'; done)
  cases x <;> first | (simp [ckI] at h; done) | skip
  rename_i fn xs kws pos
  match fn, xs, kws, h with
  | .Attribute o m ap, [], [], h =>
    simp only [ckI, Bool.and_eq_true, decide_eq_true_eq] at h
    obtain ⟨⟨rfl, h2⟩, h3⟩ := h
    exact pi_items (he.E g h3) (attBase_ck h3) h2
theorem snd_iDv {e : E} (he : Snd G c k e) : Snd G c k (.iDv e) := snd_it (fun _ x => by cases x <;> rfl) (fun _ xs => by cases xs <;> rfl) (fun _ o => by cases o <;> rfl) fun {sc Wx X x tg} g h ht => by
  cases x <;> first | (simp [ckI] at h; done) | skip
  rename_i fn xs kws pos
  match fn, xs, kws, h with
  | .Attribute o m ap, [], [], h =>
    simp only [ckI, Bool.and_eq_true, decide_eq_true_eq] at h
    obtain ⟨⟨rfl, h2⟩, h3⟩ := h
    exact pi_values (he.E g h3) (attBase_ck h3) h2
def extH (h : Heap) (n : Nat) (a : Addr) (oe : Obj) : Heap := { h with objs := Array.ofFn (n := n) fun i => if i.val = a then oe else (h.get? i.val).getD { cls := .none, dict := none, data := .freed } }
theorem heap_ix {h : Heap} {b : Addr} {o : Obj} (e : h.objs[b]? = some o) (nf : o.data ≠ .freed) : h.get? b = some o := by
 unfold Heap.get?
 rw [e]
 obtain ⟨c, d, dt, sl⟩ := o
 cases dt <;> first | rfl | exact absurd rfl nf
theorem heap_nf {h : Heap} {b : Addr} {o : Obj} (e : h.get? b = some o) : h.objs[b]? = some o ∧ o.data ≠ .freed := by
 unfold Heap.get? at e
 split at e
 · cases e
 · rename_i hx
   refine ⟨e, fun z => ?_⟩
   obtain ⟨c, d, dt, sl⟩ := o
   simp only at z
   subst z
   exact hx _ _ _ e
theorem extH_at {h : Heap} {n : Nat} {a : Addr} {oe : Obj} (ha : a < n) (nf : oe.data ≠ .freed) : (extH h n a oe).get? a = some oe := by
 refine heap_ix ?_ nf
 show (Array.ofFn _)[a]? = _
 rw [Array.getElem?_ofFn, dif_pos ha]
 simp
theorem extH_keep {h : Heap} {n : Nat} {a b : Addr} {oe o : Obj} (hn : h.objs.size ≤ n) (hb : b = a → o = oe) (e : h.get? b = some o) : (extH h n a oe).get? b = some o := by
 have hl : b < n := Nat.lt_of_lt_of_le (Heap.lt_size e) hn
 refine heap_ix ?_ (heap_nf e).2
 show (Array.ofFn _)[b]? = _
 rw [Array.getElem?_ofFn, dif_pos hl]
 by_cases z : b = a
 · simp only [z, if_true]
   rw [hb z]
 · simp only [z, if_false]
   rw [e]
   rfl
theorem extH_back {h : Heap} {n : Nat} {a b : Addr} {oe o : Obj} (e : (extH h n a oe).get? b = some o) : (b = a ∧ o = oe) ∨ h.get? b = some o := by
 obtain ⟨e1, e2⟩ := heap_nf e
 replace e1 : (Array.ofFn _)[b]? = some o := e1
 rw [Array.getElem?_ofFn] at e1
 split at e1
 · by_cases z : b = a
   · simp only [z, if_true, Option.some.injEq] at e1
     exact .inl ⟨z, e1.symm⟩
   · simp only [z, if_false, Option.some.injEq] at e1
     cases q : h.get? b with
     | some u =>
       rw [q] at e1
       exact .inr (by rw [← e1]; rfl)
     | none =>
       rw [q] at e1
       rw [← e1] at e2
       exact absurd rfl e2
 · cases e1
theorem mod_ext {K : PySem.W.Frag} {mg : Str → Option Value} {h h' : Heap} (m : Mod K mg h) (k : ∀ b o, h.get? b = some o → h'.get? b = some o) : Mod K mg h' where
 kin := m.kin.keeps k
 glob := m.glob.keeps k
 blt := let ⟨mb, q, r⟩ := m.blt; ⟨mb, q.keeps k, r⟩
 nolimit := m.nolimit.keeps k
theorem env0_ext {P : Program} {w : World} {K : PySem.W.Frag} {mg : Str → Option Value} {base : Heap} {A : Around} {outer : List PySem.Env} {s : Shared} {H : Hp} {a : Addr} {oe : Obj} (e0 : Env0 P w K mg base A outer s H) (ha : s.heap.get? a = some oe) (hf : H a = none) (ho : a ∉ frs outer) :
   (∀ b o, base.get? b = some o → (extH base s.heap.objs.size a oe).get? b = some o) ∧ (extH base s.heap.objs.size a oe).get? a = some oe ∧ Env0 P w K mg (extH base s.heap.objs.size a oe) A outer s H := by
 have k : ∀ b o, base.get? b = some o → (extH base s.heap.objs.size a oe).get? b = some o := fun b o e => extH_keep e0.bsz (fun z => by
   subst z
   have q := (e0.bs _ _ e).1
   rw [ha] at q
   cases q
   rfl) e
 refine ⟨k, extH_at (Heap.lt_size ha) (heap_nf ha).2, ⟨e0.frames, mod_ext e0.mod k, fun b o e => ?_, ?_, ?_, e0.frf, e0.hok, e0.bare⟩⟩
 · rcases extH_back e with ⟨rfl, rfl⟩ | z
   · exact ⟨ha, hf⟩
   · exact e0.bs b o z
 · show (Array.ofFn _).size ≤ _
   rw [Array.size_ofFn]
   exact Nat.le_refl _
 · refine funFrames_none e0.funs fun L hL => ?_
   cases q : (extH base s.heap.objs.size a oe).get? L with
   | none => rfl
   | some o =>
     rcases extH_back q with ⟨rfl, _⟩ | z
     · exact absurd hL ho
     · rw [(e0.funs.mem hL).1] at z
       cases z
theorem pe_callHo {i : Nat} {es : E} (hs : Snd G c k es) {sc : Scope} {Wx : WX} {X : Cx} {f : Str} {x : Expr} {xs : List Expr} {p pos : Pos} (g : Good G c k sc Wx X)
   (h : (c.hot && decide (i ∈ c.hs) && decide (f = G.fn i) && glB sc f && ckL G c sc es (x :: xs)) = true) : PE X (.Call (.Name f p) (x :: xs) [] pos) (rCall (G.T.f i) G.C (elen es) (WE Wx) (rd G.T G.C es Wx).L) := by
 simp only [Bool.and_eq_true, decide_eq_true_eq] at h
 obtain ⟨⟨⟨⟨hh, h1⟩, rfl⟩, h2⟩, h3⟩ := h
 obtain ⟨k1, k2, k3⟩ := glB_ok h2
 obtain ⟨m, a, dx, oe, hg⟩ := g.hotg hh
 obtain ⟨fa, ⟨fd, ps, F, hk, hl, hb⟩, hm⟩ := g.fnh i h1
 have hA := hs.L g h3
 have h4 := ckL_noSt h3
 simp only [noSt, List.all_cons, Bool.and_eq_true] at h4
 unfold rCall
 split
 rotate_left
 · exact ⟨fun _ _ _ _ _ _ z => z.elim⟩
 rename_i ha
 refine ⟨fun pins s σ H Q I hw => ?_⟩
 refine wpAny_Call_Name_kw (ld_glob I (g.gl h2) (by rw [g.hmg]; exact hm) ?_ k2)
 refine PySem.W.callWith_K (h₀ := X.base) I.ok.mod.kin (by rw [g.hK]; exact hk) ?_ (starC h4.1) (star_all h4.2)
 refine thn (hA.run pos pins s σ H _ I hw) fun us s1 ⟨vs, H1, I1, r, q⟩ => ?_
 refine ⟨I1.kIn, ?_⟩
 obtain ⟨us2, B, V⟩ := hb (elen es + (G.T.f i).dfl.length - (G.T.f i).ar) (by omega)
 obtain ⟨A1, A2, A3⟩ := hg.at_ I1
 obtain ⟨E1, E2, E3⟩ := env0_ext I1.env0 A1 A2 A3
 have F' : L2H.FnH X.prog X.w X.K X.mg (extH X.base s1.heap.objs.size a oe) (L2N.CX X.prog X.w) k fa fd ps ((G.T.f i).sp { G.C with ex := some (m, a, dx) }) := by
   rw [g.hP, g.hw, g.hK, g.hmg]
   exact F m a dx oe _ hg.ob (by rw [← g.hb]; exact E1) E2
 have hC : ({ G.C with ex := some (m, a, dx) } : Kc) = G.C := by
   have := hg.ex
   cases hh : G.C with
   | mk K cl gl ex =>
     rw [hh] at this
     simp only at this
     rw [this]
 rw [hC] at F'
 have r2 : Vals (vs ++ (G.T.f i).dfl.drop (elen es + (G.T.f i).dfl.length - (G.T.f i).ar)) (us ++ us2) := r.append V
 have hl2 : (us ++ us2).length = ps.length := r2.length.symm.trans (F'.len _ _ _ _ q)
 obtain ⟨pp, hot, hp⟩ := hg.hc
 have P1 := I1.pin pp (List.mem_append_left _ hp)
 have hpin : L2H.PinOk X.stack H1 s1 pp := ⟨P1.1, P1.2.1, fun z => (List.mem_cons.mp (I1.stkSub _ z)).elim P1.2.2.1 P1.2.2.2.1, P1.2.2.2.2⟩
 have bd := B s1 us (by rw [← g.hK]; exact I1.kIn) hl2
 refine wpAny_call (codeAny_mono (F'.run X.A X.stack s1 H1 ⟨us, []⟩ (us ++ us2) _ Q (WE Wx σ) pp hg.room hot hpin E3 bd r2 q) fun r s' hq => ?_)
 match r, hq with
 | .error e, hq => exact L2N.passAt g.tk.takes σ pins H1 s1 e s' I1 hq
 | .ok (.ret u), hq => exact I1.after hq
 | .ok .next, hq => exact False.elim hq
 | .ok .brk, hq => exact False.elim hq
 | .ok .cont, hq => exact False.elim hq
theorem snd_callH {i : Nat} {es : E} (hs : Snd G c k es) : Snd G c k (.callH i es) := by
 refine snd_val (fun _ => rfl) (fun {sc Wx X x} g h => ?_) (fun _ xs => by cases xs <;> rfl) (fun _ o => by cases o <;> rfl) (fun _ x => by cases x <;> rfl)
 cases x <;> first | (simp [ckE] at h; done) | skip
 rename_i fn xs kws pos
 cases fn <;> cases xs <;> cases kws <;> first | (simp [ckE] at h; done) | skip
 simp only [ckE] at h
 exact ⟨pe_callHo hs g h, fun _ => rfl⟩
theorem snd_mthH {cs : List Nat} {a : E} {m : Str} {es : E} : Snd G c k (.mthH cs a m es) := by
 refine snd_plain (fun {sc Wx X x} g h => ?_) (fun {sc Wx X x} g h => ?_) (fun _ xs => by cases xs <;> rfl) (fun _ o => by cases o <;> rfl) (fun _ x => by cases x <;> rfl)
 all_goals (cases x <;> simp [ckE] at h)
theorem snd (e : E) : Snd G c k e := by
 induction e with
 | var i => exact snd_var i
 | int n => exact snd_int n
 | str n => exact snd_str n
 | bl n => exact snd_bl n
 | non => exact snd_non
 | glo n => exact snd_glo n
 | bin o a b ha hb => exact snd_bin ha hb
 | neg a ha => exact snd_neg ha
 | cmp o a b ha hb => exact snd_cmp ha hb
 | chn o p a b d ha hb hd => exact snd_chn ha hb hd
 | nt a ha => exact snd_nt ha
 | and es hs => exact snd_and hs
 | or es hs => exact snd_or hs
 | ife t a b ht ha hb => exact snd_ife ht ha hb
 | tup es hs => exact snd_tup hs
 | lst es hs => exact snd_lst hs
 | nil => exact snd_nil
 | cons e es he hs => exact snd_cons he hs
 | ix a i ha hi => exact snd_ix ha hi
 | sl a lo hi ha hl hh => exact snd_sl ha hl hh
 | call i es hs => exact snd_call hs
 | callH i es hs => exact snd_callH hs
 | blt f es hs => exact snd_blt hs
 | isi a t ha => exact snd_isi ha
 | isC a n m b ha => exact snd_isC ha
 | dd0 a ks z ha => exact snd_dd0 ha
 | att a f ha => exact snd_att ha
 | mth cs a m es ha hs => exact snd_mth ha hs
 | mthH cs a m es ha hs => exact snd_mthH
 | mk n es hs => exact snd_mk hs
 | binit n es hs => exact snd_binit hs
 | bm m a es ha hs => exact snd_bm ha hs
 | join s e he => exact snd_join he
 | dct => exact snd_dct
 | dtt => exact snd_dtt
 | dget d y z hd hy hz => exact snd_dget hd hy hz
 | dsetd d y z hd hy hz => exact snd_dsetd hd hy hz
 | dpop d y hd hy => exact snd_dpop hd hy
 | ditm d hd => exact snd_ditm hd
 | dvl d hd => exact snd_dvl hd
 | lrev e he => exact snd_lrev he
 | sset e he => exact snd_sset he
 | lc js it t e hit ht he => exact snd_lc hit ht he
 | iL e he => exact snd_iL he
 | iT e he => exact snd_iT he
 | iR1 e he => exact snd_iR1 he
 | iR2 e f he hf => exact snd_iR2 he hf
 | iR3 e f d he hf hd => exact snd_iR3 he hf hd
 | iEn e he => exact snd_iEn he
 | iZp e f he hf => exact snd_iZp he hf
 | iIt e he => exact snd_iIt he
 | iDv e he => exact snd_iDv he
 | iDk e he => exact snd_iDk he
 | iSt e he => exact snd_iSt he
 | iRv e he => exact snd_iRv he
 | isx i n => exact snd_isx
 | isxs i ns => exact snd_isxs
 | isv i => exact snd_isv
 | exf i f => exact snd_exf
end
end Q
namespace Q
open PySem L2 PySem.Spec
inductive S where
 | nop | seq (a b : S) | pas
 | exp (e : E) | asg (i : Nat) (e : E) | asgT (is : List Nat) (e : E)
 | aug (i : Nat) (o : Operator) (e : E)
 | ret (e : E) | retN
 | ife (t : E) (a b : S)
 | for (js : List Nat) (it : E) (b : S) | forD (js : List Nat) (it : E) (b : S)
 | whl (t : E) (b : S) | forH (i : Nat) (e : E) (b : S)
 | brk | cnt
 | setf (a : E) (f : Str) (e : E) | setk (d k e : E) | setl (l i e : E)
 | rse0 (c : Nat) | rse (c : Nat) (es : E)
 | tryA (b : S) (c i : Nat) (h : S) | tryO (b : S) (c : Nat) (h : S)
 | tryM (b hs : S) | hnd (c i : Nat) (h r : S) | hend
 | vini (c : Nat) (es : E) | ost (a : E) (f : Str) (e : E)
 | stuck
abbrev Cn.inS (c : Cn) : Cn := { c with hot := true, fs := [], ms := [], mks := [], bi := [], rs := [], ias := [] }
def ipO : Operator → TIp
 | .Add => ipI fun i j => i + j
 | .Sub => ipI fun i j => i - j
 | _ => fun _ _ _ _ => False
mutual
def rs (T : Tb) (cs : List Nat) : S → Kc → WX → TS
 | .nop, _, _ => tNext
 | .pas, _, _ => tNext
 | .seq a b, C, W => tSeq (rs T cs a C W) (rs T cs b C W)
 | .exp e, C, W => tDrop (rd T C e W).E
 | .asg i e, C, W => tAsg (rd T C e W).E (gName i)
 | .asgT is e, C, W => tAsg (rd T C e W).E (gTup C.K is.length (gNs is))
 | .aug i o e, C, W => tAug i (rd T C e W).E (ipO o)
 | .ret e, C, W => tRet (rd T C e W).E
 | .retN, _, _ => tRetN
 | .ife t a b, C, W => tIfS (rd T C t W).T (rs T cs a C W) (rs T cs b C W)
 | .for js it b, C, W => tFor (rd T C it W).I (gTg C.K js) (rs T cs b C W)
 | .forD js it b, C, W => fun D σ H => tLock (tFor (rd T C it W).I (gTg C.K js) (rs T cs b C W)) D σ H ∨ tFor (rd T C it W).I (gTg C.K js) (rs T cs b C W) D σ H
 | .forH i e b, C, W => tFor (rd T C (.iSt e) W).I (gTg C.K [i]) (rs T cs b C W)
 | .whl t b, C, W => tWhile (rd T C t W).T (rs T cs b C W)
 | .brk, _, _ => tBreak
 | .cnt, _, _ => tCont
 | .setf a f e, C, W => sFld C.K (rd T C a W).E (rd T C e W).E f
 | .setk d k e, C, W => sDPut (rd T C d W).E (rd T C k W).E (rd T C e W).E
 | .setl l i e, C, W => tAsg (rd T C e W).E (gSub (rd T C l W).E (rd T C i W).E rSetL)
 | .rse0 c, C, W => fun _ σ H => W (.ref (C.cl c)) none σ H
 | .rse c es, C, W => fun _ σ H => if elen es + 1 = (T.f (T.ini c)).ar then tMkO (C.cl c) ((T.f (T.ini c)).sp C) [] (rd T C es W).L σ H (fun cls d H' => W cls d σ H') else False
 | .tryA b n i h, C, W => fun D σ H => rs T cs b C (wAs C.K (.ref (C.cl n)) i (fun a cls dx D σ H => ∃ m ∈ cs, cls = .ref (C.cl m) ∧ rs T cs h { C with ex := some (m, a, dx) } noX D σ H) W D) D σ H
 | .tryO b n h, C, W => fun D σ H => rs T cs b C (wMany C.K W D [(.ref (C.cl n), fun a cls dx D σ H => ∃ m ∈ cs, cls = .ref (C.cl m) ∧ rs T cs h { C with ex := some (m, a, dx) } noX D σ H)]) D σ H
 | .vini _ es, C, W => tDrop (tVeI C.K (rd T C es W).L)
 | .ost a f e, C, W => tOst C.K f (rd T C a W).E (rd T C e W).E
 | .tryM b hs, C, W => fun D σ H => rs T cs b C (hw T cs hs C W D) D σ H
 | .hnd _ _ _ _, _, _ => fun _ _ _ => False
 | .hend, _, _ => fun _ _ _ => False
 | .stuck, _, _ => fun _ _ _ => False
def hw (T : Tb) (cs : List Nat) : S → Kc → WX → Ends → WX
 | .hnd n i h r, C, W, D => fun cls d t G => ∃ b, PySem.W.exmOne C.K cls (.ref (C.cl n)) = some b ∧ (b = true → ∀ a, G a = none → ∃ m ∈ cs, cls = .ref (C.cl m) ∧ rs T cs h { C with ex := some (m, a, d) } noX (cutE i D) (t.set i (some (.ref a))) G) ∧ (b = false → hw T cs r C W D cls d t G)
 | _, _, W, _ => W
end
def hotF : E → Expr → Bool
 | .iL _, .Name _ _ => true
 | _, _ => false
def isLC : Expr → Bool
 | .ListComp _ _ _ _ => true
 | _ => false
def lcB (sc : Scope) (x : Str) (p : Pos) (l : Nat) : Expr → Bool
 | .ListComp _ _ scope pos => (match sc.names.lookup x with
   | some .local => (p.line == pos.line) && !(scope.names.any fun (n, k) => n == x && (k == .local || k == .cell))
   | some .cell => true
   | _ => false)
 | _ => true
mutual
def ck1 (G : Gt) (c : Cn) (sc : Scope) : S → Stmt → Bool
 | .asg i e, s0 => match s0 with | .Assign [.Name x p] v pos => decide (c.N[i]? = some x) && locB sc x && lcB sc x p pos.line v && ckE G c sc e v && (!isLC v || !c.hot) | _ => false
 | .asgT is e, s0 => match s0 with | .Assign [.Tuple xs _ _] v _ => !c.hot && ckN c sc is xs && !isTupE v && !isLC v && ckE G c sc e v | _ => false
 | .exp e, s0 => match s0 with | .Expr v _ => !isLC v && ckE G c sc e v | _ => false
 | .aug i o e, s0 => match s0 with | .AugAssign (.Name x _) o' v _ => decide (c.N[i]? = some x) && locB sc x && decide (o = o') && (match o with | .Add => true | .Sub => true | _ => false) && ckE G c sc e v | _ => false
 | .ret e, s0 => match s0 with | .Return (some v) _ => ckE G c sc e v | _ => false
 | .retN, s0 => match s0 with | .Return none _ => true | _ => false
 | .ife t a b, s0 => match s0 with | .If z xs ys _ => ckE G c sc t z && ckS G c sc a xs && ckS G c sc b ys | _ => false
 | .for js it b, s0 => match s0 with | .For tg iter xs [] _ => (!c.hot && ckTg c sc js tg && (isTupE tg || freeIt it) && ckI G c sc it iter && ckS G c sc b xs) || (c.hot && hotF it tg && ckTg c sc js tg && ckI G c sc it iter && ckS G c sc b xs) | _ => false
 | .forD js it b, s0 => match s0 with | .For tg iter xs [] _ => !c.hot && ckTg c sc js tg && (isTupE tg || freeIt it) && ckI G c sc it iter && ckS G c sc b xs | _ => false
 | .forH i e b, s0 => match s0 with | .For (.Name x _) iter xs [] _ => c.hot && decide (c.N[i]? = some x) && locB sc x && ckE G c sc e iter && ckS G c sc b xs | _ => false
 | .whl t b, s0 => match s0 with | .While z xs [] _ => ckE G c sc t z && ckS G c sc b xs | _ => false
 | .brk, s0 => match s0 with | .Break _ => true | _ => false
 | .cnt, s0 => match s0 with | .Continue _ => true | _ => false
 | .pas, s0 => match s0 with | .Pass _ => true | _ => false
 | .setf a f e, s0 => match s0 with | .Assign [.Attribute x m _] v _ => !isLC v && decide (f = m) && ckE G c sc a x && ckE G c sc e v | _ => false
 | .setk d k e, s0 => match s0 with | .Assign [.Subscript x y _] v _ => !isLC v && ckE G c sc d x && ckE G c sc k y && ckE G c sc e v | _ => false
 | .setl l i e, s0 => match s0 with | .Assign [.Subscript x y _] v _ => ckE G c sc l x && ckE G c sc i y && ckE G c sc e v | _ => false
 | .rse0 n, s0 => match s0 with | .Raise (some v) none _ => (match cl1 v with | some (x, [y]) => isSt y && !c.hot && decide (n ∈ c.rs) && decide (G.T.ini n = 0) && decide (x = G.cn n) && glB sc x | _ => false) | _ => false
 | .rse n es, s0 => match s0 with | .Raise (some v) none _ => (match cl1 v with | some (x, y :: ys) => !c.hot && decide (n ∈ c.rs) && decide (G.T.ini n ≠ 0) && decide (x = G.cn n) && glB sc x && ckL G c sc es (y :: ys) | _ => false) | _ => false
 | .tryA b n i h, s0 => match s0 with | .Try xs [.ExceptHandler (some t) (some nm) ys _] [] [] _ => (match nmOf t with | some x => !c.hot && decide (n ∈ G.cs) && decide (x = G.cn n) && glB sc x && decide (c.N[i]? = some nm) && decide (sc.names.lookup nm = some .local) && !ys.isEmpty && ckS G c sc b xs && ckS G c.inS sc h ys | none => false) | _ => false
 | .tryO b n h, s0 => match s0 with | .Try xs [.ExceptHandler (some t) none ys _] [] [] _ => (match nmOf t with | some x => !c.hot && decide (n ∈ G.cs) && decide (x = G.cn n) && glB sc x && !ys.isEmpty && ckS G c sc b xs && ckS G c.inS sc h ys | none => false) | _ => false
 | .tryM b hs, s0 => match s0 with | .Try xs (h :: hds) [] [] _ => !c.hot && ckS G c sc b xs && ckH G c sc hs (h :: hds) | _ => false
 | .vini n es, s0 => match s0 with | .Expr v _ => (match meO v with | some (o, m, ap, y :: ys, cp) => (match nmOf o with | some x => decide (G.T.mt n "#vini" = 1) && (ap.endLine == cp.line) && decide ((y :: ys).length < 10) && !c.hot && decide (n ∈ c.rs) && decide (x = G.cn n) && decide (m = ("__init__" : Str)) && glB sc x && ckL G c sc es (y :: ys) | none => false) | _ => false) | _ => false
 | .ost a f e, s0 => match s0 with | .Assign [.Attribute x m _] v _ => !isLC v && decide (f = m) && ckE G c sc a x && ckE G c sc e v | _ => false
 | _, _ => false
def ckH (G : Gt) (c : Cn) (sc : Scope) : S → List ExceptHandler → Bool
 | .hnd n i h r, .ExceptHandler (some (.Name x _)) (some nm) ys _ :: hds => decide (n ∈ G.cs) && decide (x = G.cn n) && glB sc x && decide (c.N[i]? = some nm) && decide (sc.names.lookup nm = some .local) && !ys.isEmpty && ckS G c.inS sc h ys && ckH G c sc r hds
 | .hend, [] => true
 | _, _ => false
def ckS (G : Gt) (c : Cn) (sc : Scope) : S → List Stmt → Bool
 | .nop, [] => true
 | .seq a b, x :: xs => ck1 G c sc a x && ckS G c sc b xs
 | .stuck, _ => true
 | _, _ => false
end
abbrev veT : List Value := [.type "ValueError", .type "Exception", .type "BaseException", .type "object"]
structure ClsF (G : Gx) (k : Nat) (rs : List Nat) : Prop where
 mg : ∀ n ∈ G.cs, G.mg (G.cn n) = some (.ref (G.C.cl n))
 sub : ∀ n ∈ rs, n ∈ G.cs
 kp : ∀ n ∈ rs, PySem.W.keepIn G.C.K (.ref (G.C.cl n)) = true
 bs : ∀ n ∈ rs, PySem.W.subIn G.C.K (.ref (G.C.cl n)) (.type "BaseException") = some true
 ty : ∀ n ∈ rs, PySem.W.typeIn G.C.K (.ref (G.C.cl n)) = some (.type "type")
 /-- made of a text: no __init__ of its own -/
 exI : ∀ n ∈ rs, G.T.ini n = 0 → PySem.W.excIn G.C.K (G.C.cl n) veT "ValueError.__new__" = true
 /-- with its own __init__ -/
 exO : ∀ n ∈ rs, G.T.ini n ≠ 0 → OexC G.C.K (G.C.cl n) ∧ ∃ f k', k' + 1 ≤ k ∧ FnC G k' (G.T.f (G.T.ini n)) f ∧ PySem.W.findIn G.C.K (.ref (G.C.cl n)) "__init__" = some (some (.ref f)) ∧ PySem.W.typeIn G.C.K (.ref f) = some (.type "function")
 /-- its __init__ by name, where it has none of its own -/
 vin : ∀ n ∈ rs, G.T.mt n "#vini" = 1 → ∀ (pl : Sem Bool) (A : Around) (s : Shared) (Q : Value × List Value → Shared → Prop) (E' : Value → Shared → Prop), G.C.K.In s.heap → Q (.builtin "ValueError.__init__", []) { s with toks := s.toks + 1 } → wpAny (model G.P G.w) A (getMethod (.ref (G.C.cl n)) "__init__" pl) Q E' s
 exm : ∀ m ∈ G.cs, ∀ n ∈ G.cs, PySem.W.exmOne G.C.K (.ref (G.C.cl m)) (.ref (G.C.cl n)) = some (G.T.sub m n)
 kit : ∀ m ∈ G.cs, ∀ n ∈ G.cs, PySem.W.kitOne G.C.K (.ref (G.C.cl m)) (.ref (G.C.cl n)) = some (G.T.sub m n)
 exc : ∀ m ∈ G.cs, ExcC G.C.K (G.C.cl m)
 ve : ∀ m ∈ G.cs, PySem.W.kitOne G.C.K (.ref (G.C.cl m)) (.type "ValueError") = some true
structure GoodS (G : Gx) (c : Cn) (k : Nat) (sc : Scope) (Wx : WX) (X : Cx) : Prop where
 g : Good G c k sc Wx X
 fn : ∀ x, X.fn x = true
 st : X.stack = X.env :: X.outer
 fr : X.env.frame = some X.env.locals
 po : PassesOwn (model X.prog X.w) X.A X.env X.xe
 cls : ClsF G k c.rs
def SndH (s : S) : Prop := ∀ {G c k sc Wx X hds}, GoodS G c k sc Wx X → c.hot = false → ckH G c sc s hds = true → HdR X hds (hw G.T G.cs s G.C Wx)
structure SndS (s : S) : Prop where
 one : ∀ {G c k sc Wx X st}, GoodS G c k sc Wx X → ck1 G c sc s st = true → PS X st (rs G.T G.cs s G.C Wx)
 all : ∀ {G c k sc Wx X sts}, GoodS G c k sc Wx X → ckS G c sc s sts = true → PSs X sts (rs G.T G.cs s G.C Wx)
section
variable {G : Gx} {c : Cn} {k : Nat} {sc : Scope} {Wx : WX} {X : Cx}
theorem GoodS.loc (g : GoodS G c k sc Wx X) {x : Str} (h : locB sc x = true) : L2.Loc X.env.scope x := by
 rw [g.g.hsc]; exact locB_ok h
theorem GoodS.ni (g : GoodS G c k sc Wx X) {i : Nat} {x : Str} (h : c.N[i]? = some x) : X.N[i]? = some x := by
 rw [g.g.hN]; exact h
theorem GoodS.nd (g : GoodS G c k sc Wx X) : X.N.Nodup := by
 rw [g.g.hN]; exact g.g.nd
theorem sndS_one {s : S} (h1 : ∀ {G c k sc Wx X st}, GoodS G c k sc Wx X → ck1 G c sc s st = true → PS X st (rs G.T G.cs s G.C Wx)) (h2 : ∀ G c sc sts, ckS G c sc s sts = false) : SndS s :=
 ⟨h1, fun {G c k sc Wx X sts} _ h => by rw [h2] at h; cases h⟩
theorem swF {e : E} {v : Expr} {t : Option Expr} {l : Nat} {env : PySem.Env} (h : ckE G c sc e v = true) (hl : isLC v = false) : swapsWith v t l env = pure false := by
 cases v <;> first | rfl | (cases hl; done) | (cases e <;> simp [ckE, cl1] at h)
theorem swT {v : Expr} {t : Expr} {env : PySem.Env} (hl : isTupE v = false) : swappedStores [t] v env = pure none := by
 cases v <;> first | (cases hl; done) | (cases t <;> rfl)
theorem subA {e : E} {y : Expr} {o : Expr} {sp : Pos} {env : PySem.Env} (h : ckE G c sc e y = true) : ∀ v : Value, assign (.Subscript o y sp) env v = (do
     let ov ← holding [v] (eval o env)
     let iv ← holding [v, ov] (eval y env)
     standAt sp
     holding [v, ov, iv] (setItem ov iv v)
     release [v, ov, iv] []) := fun v => by
 cases y <;> first | rfl | (cases e <;> simp [ckE, cl1] at h)
end
theorem sndS_asg (i : Nat) (e : E) : SndS (.asg i e) := by
 refine sndS_one (fun {G c k sc Wx X st} g h => ?_) (fun G c sc sts => by cases sts <;> rfl)
 cases st <;> first | (simp [ck1] at h; done) | skip
 rename_i tgs v pos
 match tgs, h with
 | [.Name x p], h =>
   simp only [ck1, Bool.and_eq_true, decide_eq_true_eq] at h
   obtain ⟨⟨⟨⟨h1, h2⟩, h3⟩, h4⟩, h7⟩ := h
   cases hl : isLC v with
   | false => exact ps_set (i := i) g.nd (g.ni h1) (g.loc h2) ((snd e).E g.g h4) (swF h4 hl) (.inl (g.fn x))
   | true =>
     cases v <;> first | (cases hl; done) | skip
     rename_i elt gens scope lpos
     simp only [lcB] at h3
     cases hx : sc.names.lookup x with
     | none => rw [hx] at h3; cases h3
     | some kd =>
       rw [hx] at h3
       cases kd <;> first | (cases h3; done) | skip
       · simp only [Bool.and_eq_true, Bool.not_eq_true'] at h3
         obtain ⟨h5, h6⟩ := h3
         have hxl : X.env.scope.names.lookup x = some .local := by rw [g.g.hsc]; exact hx
         cases e <;> first | (simp [ckE, cl1] at h4; done) | skip
         rename_i js it t e
         match gens, h4 with
         | [⟨tg, iter, ifs, 0⟩], h4 =>
           simp only [ckE, Bool.and_eq_true, Bool.not_eq_true', decide_eq_true_eq] at h4
           obtain ⟨⟨⟨⟨⟨⟨⟨_, k1⟩, htp⟩, k2⟩, k3⟩, k4⟩, k5⟩, k6⟩ := h4
           have hh : c.hot = false := by
             rw [hl] at h7
             simpa using h7
           simp only [ckC, Bool.and_eq_true, decide_eq_true_eq, List.all_eq_true] at k2
           obtain ⟨⟨hlen, hbk⟩, hloc⟩ := k2
           have bk := blkOk_by hbk
           refine ⟨fun pins s σ H Z I hq => ?_⟩
           have q := ps_setLcX (te := fun σ0 => (rd G.T G.C e fun cls d _ H' => Wx cls d σ0 H').E) g.g.tk g.fr (i := i) (elt := elt) (ifs := ifs) (py := p) (spos := pos) (own := (tgNs tg).zip js) (g := gTg G.C.K js) (g.g.calm hh) g.nd (g.ni h1) hxl (sw_true I.ok.kind hxl h5 h6) ((snd it).I (tg := tg) g.g k1 (by simpa using htp)) (by rw [g.g.hN, g.g.hsc]; exact bk)
             (fun s H D cl fp => by
               have gb := g.g.blk hh s H scope D cl fp
               rw [← gb.hK]
               refine pg_tg (c := c) (gb.calm hh) gb.hN gb.nd gb.hsc (fun x hx => ?_) k3
               rcases Bool.or_eq_true_iff.mp (hloc x hx) with z | z
               · exact .inr (by rw [gb.hsc]; exact of_decide_eq_true z)
               · exact .inl (by show (scope.names.lookup x == some .cell) = true; rw [of_decide_eq_true z]; rfl))
             (fun s H D cl fp => (snd t).P (g.g.blk hh s H scope D cl fp) k4 k5) (fun σ0 s H D cl fp => (snd e).E (g.g.blkX g.fr hh s H scope D cl fp) k6) (fold_ckI k1)
           rw [zip_snd hlen] at q
           exact Or.elim hq (fun hq => q.run pins s σ H Z I hq) fun hq => (ps_lock q).run pins s σ H Z I hq
       · refine ps_set (i := i) g.nd (g.ni h1) (g.loc h2) ((snd e).E g.g h4) ?_ (.inl (g.fn x))
         have hxc : X.env.kindOf x = some .cell := by
           show X.env.scope.names.lookup x = _
           rw [g.g.hsc]; exact hx
         unfold swapsWith
         simp only [hxc]
         simp [show (NameKind.cell == NameKind.local) = false from by decide]
theorem sndS_asgT (is : List Nat) (e : E) : SndS (.asgT is e) := by
 refine sndS_one (fun {G c k sc Wx X st} g h => ?_) (fun G c sc sts => by cases sts <;> rfl)
 cases st <;> first | (simp [ck1] at h; done) | skip
 rename_i tgs v pos
 match tgs, h with
 | [.Tuple xs tk tp], h =>
   simp only [ck1, Bool.and_eq_true, Bool.not_eq_true'] at h
   obtain ⟨⟨⟨⟨hh, h1⟩, h2⟩, h3⟩, h4⟩ := h
   obtain ⟨l1, l2⟩ := names_len (env := X.env) h1
   have q := ps_asg (pos := pos) ((snd e).E g.g h4) (pg_tup (k := tk) (pos := tp) (g.g.calm hh) (pgs_names g.g.hN g.g.nd g.g.hsc (fun | .Name x _ => some x | _ => none) (fun _ _ => rfl) (fun x _ => .inl (g.fn x)) h1) l1 l2) (by unfold swapsWithSole; exact swF h4 h3) (swT h2) rfl
   rw [g.g.hK] at q
   exact q
theorem sndS_exp (e : E) : SndS (.exp e) := by
 refine sndS_one (fun {G c k sc Wx X st} g h => ?_) (fun G c sc sts => by cases sts <;> rfl)
 cases st <;> first | (simp [ck1] at h; done) | skip
 simp only [ck1, Bool.and_eq_true, Bool.not_eq_true'] at h
 exact ps_expr ((snd e).E g.g h.2) (swF h.2 h.1)
theorem sndS_ret (e : E) : SndS (.ret e) := by
 refine sndS_one (fun {G c k sc Wx X st} g h => ?_) (fun G c sc sts => by cases sts <;> rfl)
 cases st <;> first | (simp [ck1] at h; done) | skip
 rename_i o pos
 cases o <;> first | (simp [ck1] at h; done) | skip
 simp only [ck1] at h
 exact ps_ret ((snd e).E g.g h)
theorem sndS_retN : SndS .retN := by
 refine sndS_one (fun {G c k sc Wx X st} g h => ?_) (fun G c sc sts => by cases sts <;> rfl)
 cases st <;> first | (simp [ck1] at h; done) | skip
 rename_i o pos
 cases o <;> first | (simp [ck1] at h; done) | skip
 exact ps_retN
theorem sndS_brk : SndS .brk := by
 refine sndS_one (fun {G c k sc Wx X st} g h => ?_) (fun G c sc sts => by cases sts <;> rfl)
 cases st <;> first | (simp [ck1] at h; done) | skip
 exact ps_break
theorem sndS_cnt : SndS .cnt := by
 refine sndS_one (fun {G c k sc Wx X st} g h => ?_) (fun G c sc sts => by cases sts <;> rfl)
 cases st <;> first | (simp [ck1] at h; done) | skip
 exact ps_continue
theorem sndS_pas : SndS .pas := by
 refine sndS_one (fun {G c k sc Wx X st} g h => ?_) (fun G c sc sts => by cases sts <;> rfl)
 cases st <;> first | (simp [ck1] at h; done) | skip
 exact ps_pass
theorem sndS_nop : SndS .nop where
 one := fun {G c k sc Wx X st} g h => by cases st <;> simp [ck1] at h
 all := fun {G c k sc Wx X sts} g h => by
   cases sts <;> first | (simp [ckS] at h; done) | skip
   exact pss_nil
theorem sndS_stuck : SndS .stuck where
 one := fun {G c k sc Wx X st} g h => by cases st <;> simp [ck1] at h
 all := fun {G c k sc Wx X sts} g h => ⟨fun _ _ _ _ _ _ z => z.elim⟩
theorem sndS_seq {a b : S} (ha : SndS a) (hb : SndS b) : SndS (.seq a b) where
 one := fun {G c k sc Wx X st} g h => by cases st <;> simp [ck1] at h
 all := fun {G c k sc Wx X sts} g h => by
   cases sts <;> first | (simp [ckS] at h; done) | skip
   simp only [ckS, Bool.and_eq_true] at h
   exact pss_cons (ha.one g h.1) (hb.all g h.2)
theorem sndS_ife {t : E} {a b : S} (ha : SndS a) (hb : SndS b) : SndS (.ife t a b) := by
 refine sndS_one (fun {G c k sc Wx X st} g h => ?_) (fun G c sc sts => by cases sts <;> rfl)
 cases st <;> first | (simp [ck1] at h; done) | skip
 simp only [ck1, Bool.and_eq_true] at h
 exact ps_if ((snd t).T g.g h.1.1) (ha.all g h.1.2) (hb.all g h.2)
theorem sndS_aug (i : Nat) (o : Operator) (e : E) : SndS (.aug i o e) := by
 refine sndS_one (fun {G c k sc Wx X st} g h => ?_) (fun G c sc sts => by cases sts <;> rfl)
 cases st <;> first | (simp [ck1] at h; done) | skip
 rename_i tg o' v pos
 cases tg <;> first | (simp [ck1] at h; done) | skip
 simp only [ck1, Bool.and_eq_true, decide_eq_true_eq] at h
 obtain ⟨⟨⟨⟨h1, h2⟩, rfl⟩, h4⟩, h5⟩ := h
 cases o <;> first | (cases h4; done) | skip
 · exact ps_aug (i := i) g.nd (g.ni h1) (g.loc h2) ((snd e).E g.g h5) ip_add (.inl (g.fn _))
 · exact ps_aug (i := i) g.nd (g.ni h1) (g.loc h2) ((snd e).E g.g h5) ip_sub (.inl (g.fn _))
theorem sndS_whl {t : E} {b : S} (hb : SndS b) : SndS (.whl t b) := by
 refine sndS_one (fun {G c k sc Wx X st} g h => ?_) (fun G c sc sts => by cases sts <;> rfl)
 cases st <;> first | (simp [ck1] at h; done) | skip
 rename_i z xs els pos
 cases els <;> first | (simp [ck1] at h; done) | skip
 simp only [ck1, Bool.and_eq_true] at h
 exact ps_while g.po ((snd t).T g.g h.1) (hb.all g h.2)
theorem for_ps {G : Gx} {c : Cn} {k : Nat} {sc : Scope} {Wx : WX} {X : Cx} {js : List Nat} {it : E} {b : S} (hb : SndS b) {tg iter : Expr} {xs : List Stmt} {pos : Pos} (g : GoodS G c k sc Wx X)
   (h : (!c.hot && ckTg c sc js tg && (isTupE tg || freeIt it) && ckI G c sc it iter && ckS G c sc b xs) = true) : PS X (.For tg iter xs [] pos) (tFor (rd G.T G.C it Wx).I (gTg G.C.K js) (rs G.T G.cs b G.C Wx)) := by
 simp only [Bool.and_eq_true, Bool.not_eq_true'] at h
 obtain ⟨⟨⟨⟨hh, h1⟩, htp⟩, h2⟩, h3⟩ := h
 refine ps_for g.po (g.g.calm hh) ((snd it).I (tg := tg) g.g h2 (by simpa using htp)) ?_ (hb.all g h3) (fold_ckI h2)
 rw [← g.g.hK]
 exact pg_tg (c := c) (g.g.calm hh) g.g.hN g.g.nd g.g.hsc (fun x _ => .inl (g.fn x)) h1
theorem for_psH {G : Gx} {c : Cn} {k : Nat} {sc : Scope} {Wx : WX} {X : Cx} {js : List Nat} {it : E} {b : S} (hb : SndS b) {tg iter : Expr} {xs : List Stmt} {pos : Pos} (g : GoodS G c k sc Wx X)
   (h : (c.hot && hotF it tg && ckTg c sc js tg && ckI G c sc it iter && ckS G c sc b xs) = true) : PS X (.For tg iter xs [] pos) (tFor (rd G.T G.C it Wx).I (gTg G.C.K js) (rs G.T G.cs b G.C Wx)) := by
 simp only [Bool.and_eq_true] at h
 obtain ⟨⟨⟨⟨hh, hf⟩, h1⟩, h2⟩, h3⟩ := h
 cases it <;> first | (cases hf; done) | skip
 cases tg <;> first | (cases hf; done) | skip
 rename_i e x p
 match js, h1 with
 | [i], h1 =>
   simp only [ckTg, Bool.and_eq_true, decide_eq_true_eq] at h1
   obtain ⟨m, a, dx, oe, hg⟩ := g.g.hotg hh
   have q := L2H.ps_forH (pos := pos) (g := gName i) g.po hg.hc (pi_listH ((snd e).E g.g (by simpa only [ckI] using h2))) (pg_name (i := i) (pos := p) g.nd (g.ni h1.1) (g.loc h1.2) (.inl (g.fn x))) (hb.all g h3) (fold_ckI (e := .iL e) h2)
   rw [g.g.hK] at q
   exact q
theorem sndS_for {js : List Nat} {it : E} {b : S} (hb : SndS b) : SndS (.for js it b) := by
 refine sndS_one (fun {G c k sc Wx X st} g h => ?_) (fun G c sc sts => by cases sts <;> rfl)
 cases st <;> first | (simp [ck1] at h; done) | skip
 rename_i tg iter xs els pos
 cases els <;> first | (simp [ck1] at h; done) | skip
 simp only [ck1] at h
 rcases Bool.or_eq_true_iff.mp h with h | h
 · exact for_ps hb g h
 · exact for_psH hb g h
theorem sndS_forD {js : List Nat} {it : E} {b : S} (hb : SndS b) : SndS (.forD js it b) := by
 refine sndS_one (fun {G c k sc Wx X st} g h => ?_) (fun G c sc sts => by cases sts <;> rfl)
 cases st <;> first | (simp [ck1] at h; done) | skip
 rename_i tg iter xs els pos
 cases els <;> first | (simp [ck1] at h; done) | skip
 simp only [ck1] at h
 refine ⟨fun pins s σ H D I hw => ?_⟩
 rcases hw with hw | hw
 · exact (ps_lock (for_ps hb g h)).run pins s σ H D I hw
 · exact (for_ps hb g h).run pins s σ H D I hw
theorem sndS_forH {i : Nat} {e : E} {b : S} (hb : SndS b) : SndS (.forH i e b) := by
 refine sndS_one (fun {G c k sc Wx X st} g h => ?_) (fun G c sc sts => by cases sts <;> rfl)
 cases st <;> first | (simp [ck1] at h; done) | skip
 rename_i tg iter xs els pos
 cases els <;> first | (cases tg <;> simp [ck1] at h; done) | skip
 cases tg <;> first | (simp [ck1] at h; done) | skip
 rename_i x p
 simp only [ck1, Bool.and_eq_true, decide_eq_true_eq] at h
 obtain ⟨⟨⟨⟨hh, h1⟩, h2⟩, h3⟩, h4⟩ := h
 obtain ⟨m, a, dx, oe, hg⟩ := g.g.hotg hh
 exact L2H.ps_forH (g := gName i) g.po hg.hc (pi_strH ((snd e).E g.g h3)) (pg_name (i := i) g.nd (g.ni h1) (g.loc h2) (.inl (g.fn x))) (hb.all g h4) (fold_ckI (e := .iSt e) h3)
theorem sndS_setf (a : E) (f : Str) (e : E) : SndS (.setf a f e) := by
 refine sndS_one (fun {G c k sc Wx X st} g h => ?_) (fun G c sc sts => by cases sts <;> rfl)
 cases st <;> first | (simp [ck1] at h; done) | skip
 rename_i tgs v pos
 match tgs, h with
 | [.Attribute x m p], h =>
   simp only [ck1, Bool.and_eq_true, Bool.not_eq_true', decide_eq_true_eq] at h
   obtain ⟨⟨⟨h0, rfl⟩, h1⟩, h2⟩ := h
   have q := ps_fld (f := f) (pos := pos) (pos' := p) ((snd a).E g.g h1) ((snd e).E g.g h2) (swF h2 h0)
   rw [g.g.hK] at q
   exact q
theorem sndS_ost (a : E) (f : Str) (e : E) : SndS (.ost a f e) := by
 refine sndS_one (fun {G c k sc Wx X st} g h => ?_) (fun G c sc sts => by cases sts <;> rfl)
 cases st <;> first | (simp [ck1] at h; done) | skip
 rename_i tgs v pos
 match tgs, h with
 | [.Attribute x m p], h =>
   simp only [ck1, Bool.and_eq_true, Bool.not_eq_true', decide_eq_true_eq] at h
   obtain ⟨⟨⟨h0, rfl⟩, h1⟩, h2⟩ := h
   have q := ps_ost (f := f) (pos := pos) (p' := p) ((snd a).E g.g h1) ((snd e).E g.g h2) (swF h2 h0)
   rw [g.g.hK] at q
   exact q
theorem sndS_setk (d k e : E) : SndS (.setk d k e) := by
 refine sndS_one (fun {G c k' sc Wx X st} g h => ?_) (fun G c sc sts => by cases sts <;> rfl)
 cases st <;> first | (simp [ck1] at h; done) | skip
 rename_i tgs v pos
 match tgs, h with
 | [.Subscript x y p], h =>
   simp only [ck1, Bool.and_eq_true, Bool.not_eq_true'] at h
   obtain ⟨⟨⟨h0, h1⟩, h2⟩, h3⟩ := h
   exact ps_dput (Nat.lt_of_le_of_lt (Nat.add_le_add_left (show 1 ≤ 65 by decide) _) g.g.units) ((snd d).E g.g h1) ((snd k).E g.g h2) ((snd e).E g.g h3) (swF h3 h0)
theorem sndS_setl (l i e : E) : SndS (.setl l i e) := by
 refine sndS_one (fun {G c k' sc Wx X st} g h => ?_) (fun G c sc sts => by cases sts <;> rfl)
 cases st <;> first | (simp [ck1] at h; done) | skip
 rename_i tgs v pos
 match tgs, h with
 | [.Subscript x y p], h =>
   simp only [ck1, Bool.and_eq_true] at h
   obtain ⟨⟨h1, h2⟩, h3⟩ := h
   exact ps_asg ((snd e).E g.g h3) (pg_sub ((snd l).E g.g h1) ((snd i).E g.g h2) set_list (subA h2)) (by cases v <;> rfl) (by cases v <;> rfl) rfl
end Q
namespace Q
open PySem L2 PySem.Spec
section
variable {X : Cx} {e : Expr} {es : List Expr} {ta : TA} {p pos : Pos}
theorem mk_endN {pins : List (Addr × Obj)} {σ : L2.St} {H1 H2 : Hp} {Q : XK} {hp hp2 h2 : Heap} {g1 g2 : Array GenState} {d1 d2 : Drawn} {t1 t2 : Nat} {os1 os2 : OsState} {a C d : Addr} {fs : List (Str × V)} (T : Raises X (.ref C)) (I1 : Inv X pins σ H1 ⟨hp, g1, d1, t1, os1⟩)
   (ha : hp.objs.size ≤ a) (k : ∀ b o, hp.get? b = some o → hp2.get? b = some o) (un : Un (frs X.stack) [] (upd H1 a (exo a C none)) H2 hp2 h2) (hok : HOk X.prog X.w H2 h2) (ho : os2 = os1) (hb : PyProof.Rows.AllBare g2)
   (ea : H2 a = some (exo a C (some d))) (ed : H2 d = some (exd d fs)) (hd1 : H1 d = none) (q : Q (.ref C) (some d) (upd (del H2 a) d (.xd fs))) : L2N.MkP X pins σ Q (.ref a) ⟨h2, g2, d2, t2, os2⟩ := by
 obtain ⟨t0, G, J, kG, ge, hoe, na⟩ := mk_end0 (d2 := d2) (t2 := t2) I1 ha k un hok ho hb ea ed hd1
 exact ⟨a, _, _, ⟨G, g2, d2, t2, os2⟩, _, .ref C, some d, rfl, J, kG, ge, hoe, ⟨rfl, rfl, fun vs hv => by cases hv; rfl⟩, rfl, rfl, na, rfl, hb, T, q⟩
theorem pmk_oexN {CX : CXT} {x : Str} {C fI : Addr} {k : Nat} {fd : FuncData} {ps : List Str} {sp : Sp} {ds : List Value} {dvs : List V} (T : OexC X.K C) (iC : PySem.W.findIn X.K (.ref C) "__init__" = some (some (.ref fI))) (tI : PySem.W.typeIn X.K (.ref fI) = some (.type "function"))
   (F1 : FnOk X.prog X.w X.K X.mg X.base CX k fI fd ps sp) (hr : Room (k + 1) X.A) (hb : Binds X.K fd ps ds) (hd : Vals dvs ds) (hx : Passes CX X (fun _ _ _ => False)) (hg : Gl X x) (hm : X.mg x = some (.ref C)) (ha : PA X (e :: es) ta)
   (hdb : (x == ("__debug__" : Str)) = false) (he : noSt (e :: es) = true) :
   L2N.PMk X (.Call (.Name x p) (e :: es) [] pos) (tMkO C sp dvs ta) := by
 intro pins s σ H Q I h
 have hn1 := he
 simp only [noSt, List.all_cons, Bool.and_eq_true] at hn1
 obtain ⟨nm, q, N, bs, bm, sn, sub, ab, col, dd, k0, k1, k2, k3, k5, hC, hbm⟩ := T.cls
 refine wpAny_Call_Name_kw (ld_glob I hg hm ?_ hdb)
 refine PySem.W.callWith_K (h₀ := X.base) I.ok.mod.kin T.kC (thn (ha.run pos pins s σ H _ I h) fun us s1 ⟨vs, H1, I1, r1, hz, q1⟩ => ⟨I1.kIn, ?_⟩) (starC hn1.1) (star_all hn1.2)
 show wpAny _ _ (call (.ref C) us) _ _ _
 obtain ⟨hp, g, dr, tk, os⟩ := s1
 have hsz : hp.objs.size ≤ hp.objs.size + 1 := Nat.le_succ _
 have hn : H1 (hp.objs.size + 1) = none := I1.hok.fresh hsz
 have hq := q1 (hp.objs.size + 1) hn
 have kk : ∀ b o, hp.get? b = some o → ((hp.push (PySem.W.kdv_tup us)).push (PySem.HandSPX.excO C hp.objs.size)).get? b = some o := fun b o e => Heap.get?_push_of_some _ (Heap.get?_push_of_some _ e)
 have hget : ((hp.push (PySem.W.kdv_tup us)).push (PySem.HandSPX.excO C hp.objs.size)).get? (hp.objs.size + 1) = some (PySem.HandSPX.excO C hp.objs.size) := by heap_get
 have I2 : Inv X pins σ (upd H1 (hp.objs.size + 1) (exo (hp.objs.size + 1) C none)) ⟨(hp.push (PySem.W.kdv_tup us)).push (PySem.HandSPX.excO C hp.objs.size), g, dr, tk, os⟩ :=
   I1.laid (t' := tk) (a := hp.objs.size + 1) (o := exo (hp.objs.size + 1) C none) (h' := (hp.push (PySem.W.kdv_tup us)).push (PySem.HandSPX.excO C hp.objs.size)) kk hsz (exo_ok hget)
 have r2 : Vals (V.ref (hp.objs.size + 1) :: (vs ++ dvs)) (Value.ref (hp.objs.size + 1) :: (us ++ ds)) := .cons rfl (r1.append hd)
 have hl : (Value.ref (hp.objs.size + 1) :: us ++ ds).length = ps.length := by
   have e := r2.length
   rw [F1.len _ _ _ _ hq] at e
   exact e.symm
 have hus : us.length ≤ sizeLine := by
   rw [← Paired.length r1, sizeLine_eq]
   omega
 refine wpAny_call (PySem.HandSPX.call_own PySem.F.excBase_ValueError (fun Y => PySem.HandSPX.refsVE_contains Y bm hbm) (I1.kIn _ _ hC) (PySem.W.looks_findIn I1.kIn iC) (fun self => PySem.W.bind_fn I1.kIn self tI) hus
   (codeAny_mono (F1.run _ X.stack _ _ ⟨Value.ref (hp.objs.size + 1) :: us, []⟩ (Value.ref (hp.objs.size + 1) :: (us ++ ds)) _ _ (fun _ _ _ => False) (hr.make C us []) (I2.env0.make C us []) (hb _ (Value.ref (hp.objs.size + 1) :: us) I2.kIn hl) r2 hq) fun r s' hq' => ?_))
 cases r with
 | error er => exact hx pins σ _ _ er s' I2 hq'
 | ok fl =>
   cases fl with
   | ret u =>
     obtain ⟨v, H2, os2, bare2, un2, hok2, rv, ev, d, fs, ea, ed, hd1, q2⟩ := hq'
     subst ev
     obtain ⟨h2, g2, d2, t2, os'⟩ := s'
     exact ⟨rv, mk_endN (raises_own T.exC T.tyC) I1 hsz kk un2 hok2 os2 bare2 ea ed hd1 q2⟩
   | next => exact False.elim hq'
   | brk => exact False.elim hq'
   | cont => exact False.elim hq'
theorem pe_vein {x m : Str} {C0 : Addr} {pl : Sem Bool} {p1 p2 : Pos} (hg : Gl X x) (hm : X.mg x = some (.ref C0)) (hdb : (x == ("__debug__" : Str)) = false)
   (hf : ∀ (s : Shared) (Q : Value × List Value → Shared → Prop) (E' : Value → Shared → Prop), X.K.In s.heap → Q (.builtin "ValueError.__init__", []) { s with toks := s.toks + 1 } → wpAny (model X.prog X.w) X.A (getMethod (.ref C0) m pl) Q E' s)
   (ha : PA X (e :: es) ta) (he : noSt (e :: es) = true)
   (hc : eval (.Call (.Attribute (.Name x p1) m p2) (e :: es) [] pos) X.env = (do
     let ov ← eval (.Name x p1) X.env
     standAt p2.atName
     let (f, first) ← holding [ov] (getMethod ov m pl)
     callWith pos f first (backTo pos (starEach (e :: es) X.env)) (backToKw pos (keywordEach [] X.env)))) :
   PE X (.Call (.Attribute (.Name x p1) m p2) (e :: es) [] pos) (tVeI X.K ta) := by
 refine ⟨fun pins s σ H Q I h => ?_⟩
 have hn1 := he
 simp only [noSt, List.all_cons, Bool.and_eq_true] at hn1
 refine PySem.W.methodCall_KW (pl := pl) (ld_glob I hg hm ?_ hdb) hc
 refine hf s _ _ I.kIn ?_
 show wpAny _ _ (callWith pos (Value.builtin "ValueError.__init__") [] (backTo pos (starEach (e :: es) X.env)) []) _ _ _
 refine PyProof.Rows.callWith_method1 (thn (ha.run pos pins _ σ H _ (I.tok _) h) fun us s1 ⟨vs, H1, I1, r1, a, C, ws, ev, hl, T, ea, q⟩ => ?_) (starC hn1.1) (star_all hn1.2)
 subst ev
 cases r1 with
 | @cons _ u0 _ ur ra rw' =>
   obtain rfl : u0 = Value.ref a := ra
   have hlen : ur.length ≤ sizeLine := by
     rw [← Paired.length rw', sizeLine_eq]
     omega
   exact oinit_ok T I1 ea hlen fun s' J => ⟨.non, H1, J, rfl, q⟩
end
theorem boot_VE : bootBuiltins "ValueError" = some (.type "ValueError") := by decide +kernel
def rIsEH (K : Frag) (D a : Addr) (dx : Option Addr) : List V → Hp → VK → Prop := fun xs H Q => ∃ (cs : V) (b : Bool), xs = [.ref a, cs] ∧
 ((∃ cv, (∀ u, RelV cs u → u = cv) ∧ PySem.W.kitOne K (.ref D) cv = some b) ∨ (∃ tp vs us, cs = .ref tp ∧ H tp = some (.tup vs) ∧ Paired ClsV vs us ∧ PySem.W.kitAny K (.ref D) us = some b)) ∧ (∀ d, dx = some d → ∃ fs, H d = some (.xd fs)) ∧ Q (.bl b) H
theorem instX {X : Cx} {a D : Addr} {dx : Option Addr} {oe : Obj} {pins : List (Addr × Obj)} {σ : L2.St} {H : Hp} {s : Shared} (I : Inv X pins σ H s) (hz : L2N.Zn (.ref D) dx oe) (hf : ∃ vs, oe.data = .fields vs) (g : s.heap.get? a = some oe) (hd : ∀ d, dx = some d → ∃ fs, H d = some (.xd fs)) :
   ∃ od, PySem.W.InstAt s.heap a oe D od ∧ ∀ d fs, dx = some d → H d = some (.xd fs) → ∃ (o : Obj) (m : Str → Option Value), od = some o ∧ (∀ f, PySem.W.lookIn f o = some (m f)) ∧ ∀ f, RelO (fs.lookup f) (m f) := by
 obtain ⟨vs, hv⟩ := hf
 obtain ⟨k1, k2, k3⟩ := hz
 cases dx with
 | none =>
   refine ⟨none, ⟨g, k1, by unfold PySem.W.notCls; rw [hv] <;> rfl, by rw [k2]; exact trivial⟩, fun d fs e => by cases e⟩
 | some d =>
   obtain ⟨fs, ea⟩ := hd d rfl
   have hx : ObjOk X.prog X.w H s.heap d (.xd fs) := I.hok d _ ea
   obtain ⟨mA, hns, hr⟩ := hx
   obtain ⟨od, ho, hl⟩ := lookIn_ns hns
   refine ⟨some od, ⟨g, k1, by unfold PySem.W.notCls; rw [hv] <;> rfl, by rw [k2]; exact ho⟩, fun d' fs' e1 e2 => ?_⟩
   cases e1
   rw [ea] at e2
   cases e2
   exact ⟨od, mA, rfl, hl, hr⟩
theorem call_isEH {X : Cx} {a D : Addr} {dx : Option Addr} {oe : Obj} (C : ExcC X.K D) (hz : L2N.Zn (.ref D) dx oe) (hf : ∃ vs, oe.data = .fields vs) (at_ : ∀ {pins σ H s}, Inv X pins σ H s → s.heap.get? a = some oe) : CallR X (.builtin "isinstance") (rIsEH X.K D a dx) := by
 intro pins s σ H xs us Q I r h
 obtain ⟨cs, b, rfl, hcs, hdx, q⟩ := h
 obtain ⟨u1, u2, rfl, r1, r2⟩ := vals2 r
 cases r1
 obtain ⟨od, J, _⟩ := instX I hz hf (at_ I) hdx
 have hcl : (PySem.W.clsIn X.K D).isSome = true := by
   obtain ⟨cd, hc, _⟩ := PySem.W.any_some C.hd
   rw [hc]
   rfl
 have Z := PySem.W.kitx_exc (x := a) (ox := oe) (od := od) hcl C.hg C.hk C.hs C.ha C.hn C.ht C.hm
 rcases hcs with ⟨cv, hcv, e⟩ | ⟨tp, vs, ws, rfl, hT, pc, e⟩
 · have ec := hcv _ r2
   subst ec
   exact PySem.W.kia_one Z I.kIn J e (fun z => nomatch z) fun tk => ⟨.bl b, H, I.tok tk, rfl, q⟩
 · cases (show u2 = Value.ref tp from r2)
   obtain ⟨_, its, rv, o, h1, h2, n, h3⟩ := (show ObjOk X.prog X.w H s.heap tp (.tup vs) from I.hok tp _ hT)
   have e3 := ClsV.all pc rv
   subst e3
   obtain ⟨oc, od, dt, sl⟩ := o
   simp only at h2 h3
   subst h2 h3
   exact PySem.W.kia_tup Z I.kIn J h1 e (fun z => nomatch z) fun tk => ⟨.bl b, H, I.tok tk, rfl, q⟩
theorem pe_exf {X : Cx} {a D : Addr} {dx : Option Addr} {oe : Obj} {e : Expr} {te : TE} {pos : Pos} {n : Str} (C : ExcC X.K D) (hz : L2N.Zn (.ref D) dx oe) (hf : ∃ vs, oe.data = .fields vs) (at_ : ∀ {pins σ H s}, Inv X pins σ H s → s.heap.get? a = some oe)
   (he : PE X e te) (hb : attributeBase e n X.env (eval e X.env) = eval e X.env) :
   PE X (.Attribute e n pos) (fun σ H Q => te σ H fun x H1 => x = .ref a ∧ ∃ d fs v, dx = some d ∧ H1 d = some (.xd fs) ∧ fs.lookup n = some v ∧ PySem.W.findIn X.K (.ref D) n = some none ∧ Q v H1) := by
 refine ⟨fun pins s σ H Q I h => ?_⟩
 refine attr_of hb (thn (he.run pins s σ H _ I h) fun u s1 hh => ?_)
 obtain ⟨x, H1, I1, rx, ex, d, fs, v, ed, ea, l, hno, q⟩ := hh
 subst ex
 obtain rfl : u = Value.ref a := rx
 obtain ⟨od, J, hl⟩ := instX I1 hz hf (at_ I1) (fun d' e => ⟨fs, by rw [ed] at e; cases e; exact ea⟩)
 obtain ⟨o, m, rfl, hl2, hr⟩ := hl d fs ed ea
 obtain ⟨u, hu, ru⟩ := RelO.some_of (v := v) (o := m n) (by rw [← l]; exact hr n)
 exact HandSPX.exc_get I1.kIn J C.hg C.hk C.hs (PySem.W.findObj_own C.hd hno rfl (by rw [hl2, hu])) (handed_of ru) ⟨v, H1, I1.tok _, ru, q⟩
theorem kitAny_any {K : PySem.W.Frag} {t : Value} {cl : Nat → Addr} {f : Nat → Bool} : ∀ (ns : List Nat), (∀ n ∈ ns, PySem.W.kitOne K t (.ref (cl n)) = some (f n)) → PySem.W.kitAny K t (ns.map fun n => .ref (cl n)) = some (ns.any f)
 | [], _ => kitAny_nil
 | n :: ns, h => by
   refine kitAny_cons (b := f n) (h n List.mem_cons_self) (fun z => ?_) (fun z => by rw [List.any_cons, z]; rfl)
   rw [List.any_cons, z, Bool.false_or]
   exact kitAny_any ns fun m hm => h m (List.mem_cons_of_mem _ hm)
theorem pairs_cl {cl : Nat → Addr} : ∀ ns : List Nat, Paired ClsV (ns.map fun n => V.ref (cl n)) (ns.map fun n => Value.ref (cl n))
 | [] => .nil
 | n :: ns => .cons (.own _) (pairs_cl ns)
theorem PE.imp {X : Cx} {e : Expr} {t t' : TE} (h : PE X e t) (i : ∀ σ H Q, t' σ H Q → t σ H Q) : PE X e t' := ⟨fun pins s σ H Q I q => h.run pins s σ H Q I (i σ H Q q)⟩
theorem PS.imp {X : Cx} {st : Stmt} {t t' : TS} (h : PS X st t) (i : ∀ Z σ H, t' Z σ H → t Z σ H) : PS X st t' := ⟨fun pins s σ H Z I q => h.run pins s σ H Z I (i Z σ H q)⟩
section
variable {G : Gx} {c : Cn} {sc : Scope} {Wx : WX} {X : Cx} {k m : Nat} {a : Addr} {dx : Option Addr} {oe : Obj} {rs : List Nat}
theorem pa_cs (hsc : X.env.scope = sc) (hmg : X.mg = G.mg) (cl : ClsF G k rs) : ∀ (ns : List Nat) (ys : List Expr), ckCs G.toGt sc ns ys = true → (∀ n ∈ ns, n ∈ G.cs) ∧ PA X ys (fun _ H Q => Q (ns.map fun n => V.ref (G.C.cl n)) H)
 | [], [], _ => ⟨fun _ z => (List.not_mem_nil z).elim, pa_nil⟩
 | n :: ns, .Name y py :: ys, h => by
   simp only [ckCs, Bool.and_eq_true, decide_eq_true_eq] at h
   obtain ⟨⟨⟨h1, rfl⟩, h3⟩, h4⟩ := h
   obtain ⟨i1, i2⟩ := pa_cs hsc hmg cl ns ys h4
   refine ⟨fun z hz => (List.mem_cons.mp hz).elim (fun q => by rw [q]; exact h1) (i1 z), ?_⟩
   exact ⟨fun p pins s σ H Q I q => (pa_cons (pe_glob (v := .ref (G.C.cl n)) (by show X.env.scope.names.lookup _ = _; rw [hsc]; exact (glB_ok h3).1) (by rw [hmg]; exact cl.mg n h1) rfl (glB_ok h3).2.1) i2).run p pins s σ H Q I q⟩
theorem hot_isx (hg : HotG G k X m a dx oe) (cl : ClsF G k rs) (hK : X.K = G.C.K) (hmg : X.mg = G.mg) (hN : X.N = c.N) (hsc : X.env.scope = sc) (blt : ∀ x ∈ bltNames, G.mg x = none) {e : E} {x : Expr} (he : isxE e = true) (h : ckE G.toGt c sc e x = true) : PE X x (rd G.T G.C e Wx).E := by
 obtain ⟨hm, hz, hf⟩ := hg.ob
 have gl : ∀ {y : Str}, glB sc y = true → Gl X y := fun {y} z => by
   show X.env.scope.names.lookup y = _
   rw [hsc]
   exact (glB_ok z).1
 have mgN : ∀ {y : Str}, y ∈ bltNames → X.mg y = none := fun {y} z => by rw [hmg]; exact blt y z
 have pv : ∀ {i : Nat} {x : Str} {pos : Pos}, vName c sc i x = true → PE X (.Name x pos) (tVar i) := fun {i x pos} h => by
   simp only [vName, Bool.and_eq_true, decide_eq_true_eq] at h
   obtain ⟨⟨h1, h2⟩, h3⟩ := h
   obtain ⟨h4, h5⟩ := nmB_ok h3
   exact pe_var (i := i) (by rw [hN]; exact h1) (by rw [hsc]; exact visB_ok h2) h4 h5
 have ec : ExcC X.K (G.C.cl m) := by rw [hK]; exact cl.exc m hm
 have ci := call_isEH (X := X) (a := a) (D := G.C.cl m) (oe := oe) ec hz hf (fun I => (hg.at_ I).1)
 cases e <;> first | (cases he; done) | skip
 · rename_i i n
   simp only [ckE, Bool.and_eq_true] at h
   obtain ⟨_, h⟩ := h
   split at h
   · rename_i nm x1 m1 q0
     split at h
     · rename_i x y q1 q2
       obtain ⟨p0, pos, rfl⟩ := cl1_eq q0
       obtain ⟨p1, rfl⟩ := nmOf_eq q1
       obtain ⟨p2, rfl⟩ := nmOf_eq q2
       simp only [Bool.and_eq_true, decide_eq_true_eq] at h
       obtain ⟨⟨⟨⟨⟨h1, rfl⟩, rfl⟩, h5⟩, h6⟩, h7⟩ := h
       refine PE.imp (pe_callB ci (gl h5) (mgN (by simp [bltNames])) PyProof.Rows.boot_isinstance (pa_cons (pv h7) (pa_cons (pe_glob (v := .ref (G.C.cl n)) (gl h6) (by rw [hmg]; exact cl.mg n h1) rfl (glB_ok h6).2.1) pa_nil))) ?_
       rintro σ H Q ⟨m', a', dx', e1, e2, _, e4, e5⟩
       have e6 := hg.ex.symm.trans e1
       cases e6
       refine ⟨_, e2, .ref (G.C.cl n), _, rfl, .inl ⟨Value.ref (G.C.cl n), fun u r => by cases r; rfl, by rw [hK]; exact cl.kit m hm n h1⟩, e4, ?_⟩
       have q := e5 H (fun _ _ z => z)
       rw [show ([n].any (G.T.sub m)) = G.T.sub m n by simp] at q
       exact q
     · cases h
   · cases h
 · rename_i i ns
   simp only [ckE, Bool.and_eq_true] at h
   obtain ⟨_, h⟩ := h
   split at h
   · rename_i nm x1 m1 q0
     split at h
     · rename_i x ys q1 q2
       obtain ⟨p0, pos, rfl⟩ := cl1_eq q0
       obtain ⟨p1, rfl⟩ := nmOf_eq q1
       obtain ⟨tc, p2, rfl⟩ := tpOf_eq q2
       simp only [Bool.and_eq_true, decide_eq_true_eq] at h
       obtain ⟨⟨⟨rfl, h4⟩, h5⟩, h7⟩ := h
       obtain ⟨hn, hy⟩ := pa_cs (X := X) hsc hmg cl ns ys h4
       refine PE.imp (pe_callB ci (gl h5) (mgN (by simp [bltNames])) PyProof.Rows.boot_isinstance (pa_cons (pv h7) (pa_cons (pe_tup hy) pa_nil))) ?_
       rintro σ H Q ⟨m', a', dx', e1, e2, e3, e4, e5⟩
       have e6 := hg.ex.symm.trans e1
       cases e6
       refine ⟨_, e2, by rw [List.length_map]; exact e3, fun p hp => ⟨.ref p, _, rfl, .inr ⟨p, _, _, rfl, upd_same, pairs_cl ns, kitAny_any (f := G.T.sub m) ns fun n hn' => by rw [hK]; exact cl.kit m hm n (hn n hn')⟩, fun d ed => ?_, e5 _ fun b o z => ?_⟩⟩
       · obtain ⟨fs, z⟩ := e4 d ed
         exact ⟨fs, by rw [upd_ne (ne_of_none z hp)]; exact z⟩
       · rw [upd_ne (ne_of_none z hp)]
         exact z
     · cases h
   · cases h
 · rename_i i
   simp only [ckE, Bool.and_eq_true] at h
   obtain ⟨_, h⟩ := h
   split at h
   · rename_i nm x1 m1 q0
     split at h
     · rename_i x y q1 q2
       obtain ⟨p0, pos, rfl⟩ := cl1_eq q0
       obtain ⟨p1, rfl⟩ := nmOf_eq q1
       obtain ⟨p2, rfl⟩ := nmOf_eq q2
       simp only [Bool.and_eq_true, decide_eq_true_eq] at h
       obtain ⟨⟨⟨⟨rfl, rfl⟩, h5⟩, h6⟩, h7⟩ := h
       refine PE.imp (pe_callB ci (gl h5) (mgN (by simp [bltNames])) PyProof.Rows.boot_isinstance (pa_cons (pv h7) (pa_cons (pe_bltn (v := .ty "ValueError") (gl h6) (mgN (by simp [bltNames])) boot_VE rfl (by decide) (by decide)) pa_nil))) ?_
       rintro σ H Q ⟨m', a', dx', e1, e2, e4, e5⟩
       have e6 := hg.ex.symm.trans e1
       cases e6
       exact ⟨_, e2, .ty "ValueError", _, rfl, .inl ⟨Value.type "ValueError", fun u r => by cases r; rfl, by rw [hK]; exact cl.ve m hm⟩, e4, e5⟩
     · cases h
   · cases h
 · rename_i i f
   cases x <;> first | (simp [ckE] at h; done) | skip
   rename_i o nm pos
   cases o <;> first | (simp [ckE] at h; done) | skip
   simp only [ckE, Bool.and_eq_true, decide_eq_true_eq] at h
   obtain ⟨⟨_, rfl⟩, h7⟩ := h
   refine PE.imp (pe_exf ec hz hf (fun I => (hg.at_ I).1) (pv h7) rfl) ?_
   rintro σ H Q ⟨m', a', d, fs, v, e1, e2, e3, e4, e5, q⟩
   have e6 := hg.ex.symm.trans e1
   cases e6
   exact ⟨_, e2, rfl, d, fs, v, rfl, e3, e4, by rw [hK]; exact e5, q⟩
end
def Gx.hotX (G : Gx) (m : Nat) (a : Addr) (dx : Option Addr) : Gx := { G with C := { G.C with ex := some (m, a, dx) } }
theorem ClsF.hot {G : Gx} {k : Nat} {rs : List Nat} (h : ClsF G k rs) (m : Nat) (a : Addr) (dx : Option Addr) : ClsF (G.hotX m a dx) k [] where
 mg := h.mg
 sub := fun _ z => nomatch z
 kp := fun _ z => nomatch z
 bs := fun _ z => nomatch z
 ty := fun _ z => nomatch z
 exI := fun _ z => nomatch z
 exO := fun _ z => nomatch z
 vin := fun _ z => nomatch z
 exm := h.exm
 kit := h.kit
 exc := h.exc
 ve := h.ve
theorem suite_good {G : Gx} {c : Cn} {sc : Scope} {Wx : WX} {X : Cx} {k : Nat} {m : Nat} {a : Addr} {dx : Option Addr} {oe : Obj} {pn : List (Addr × Obj)} (g : GoodS G c k sc Wx X) (hh : c.hot = false) (hm : m ∈ G.cs) (hz : L2N.Zn (.ref (G.C.cl m)) dx oe) (hf : ∃ vs, oe.data = .fields vs) :
   GoodS (G.hotX m a dx) c.inS k sc noX (X.suite a ((a, oe) :: pn)) :=
 let hg : HotG (G.hotX m a dx) k (X.suite a ((a, oe) :: pn)) m a dx oe :=
   { ex := rfl
     ob := ⟨hm, hz, hf⟩
     at_ := fun I => by
       have P1 := I.pin (a, oe) (List.mem_append_left _ List.mem_cons_self)
       exact ⟨P1.1, P1.2.1, fun z => (List.mem_cons.mp (I.stkSub _ z)).elim P1.2.2.1 P1.2.2.2.1⟩
     hc := by
       obtain ⟨vs, hv⟩ := hf
       exact ⟨(a, oe), ⟨rfl, vs, hv, hz.2.2 vs hv⟩, List.mem_cons_self⟩
     room := ⟨(g.g.room hh).dp, (g.g.room hh).un⟩
     src := .inr List.mem_cons_self }
 {
 g := { hP := g.g.hP, hw := g.g.hw, hK := g.g.hK, hmg := g.g.hmg, hb := g.g.hb, hN := g.g.hN, nd := g.g.nd, hsc := g.g.hsc
        calm := fun z => by cases z
        room := fun z => by cases z
        units := g.g.units
        tk := g.g.tk.none rfl rfl
        blt := g.g.blt
        glo := g.g.glo
        fns := fun i z => (List.not_mem_nil z).elim
        fnh := fun i hi => by
          obtain ⟨f, h, e⟩ := g.g.fnh i hi
          exact ⟨f, ⟨h.ex⟩, e⟩
        mts := fun i z => (List.not_mem_nil z).elim
        mks := fun i z => (List.not_mem_nil z).elim
        bis := fun i z => (List.not_mem_nil z).elim
        ias := fun i z => (List.not_mem_nil z).elim
        hotg := fun _ => ⟨m, a, dx, oe, hg⟩
        isx := fun _ {_ _ _ _ _ _ _} hg' a1 a2 a3 a4 e x he hx => hot_isx (c := c.inS) hg' (g.cls.hot m a dx) a1 a2 a3 a4 g.g.blt he hx }
 fn := g.fn
 st := g.st
 fr := g.fr
 po := PassesOwn.never
 cls := g.cls.hot m a dx }
theorem GoodS.tr {G : Gx} {c : Cn} {sc : Scope} {Wx : WX} {X : Cx} {k : Nat} (g : GoodS G c k sc Wx X) (hh : c.hot = false) {W : WX} {pn : List (Addr × Obj)} {xe : Value → Shared → Prop} (tk : L2N.Takes (X.tr pn xe) W) (po : PassesOwn (model X.prog X.w) X.A X.env xe) : GoodS G c k sc W (X.tr pn xe) where
 g := { hP := g.g.hP, hw := g.g.hw, hK := g.g.hK, hmg := g.g.hmg, hb := g.g.hb, hN := g.g.hN, nd := g.g.nd, hsc := g.g.hsc, calm := g.g.calm, room := g.g.room, units := g.g.units, tk := Fl.of g.st g.fr tk, blt := g.g.blt, glo := g.g.glo, fns := g.g.fns, fnh := g.g.fnh, mts := g.g.mts, mks := g.g.mks, bis := g.g.bis, ias := g.g.ias, hotg := fun z => (by rw [hh] at z; cases z), isx := fun z => by rw [hh] at z; cases z }
 fn := g.fn
 st := g.st
 fr := g.fr
 po := po
 cls := g.cls
theorem passN {X : Cx} : Passes (L2N.CX X.prog X.w) X (fun _ _ _ => False) := L2N.passes_call (W := fun _ _ _ _ => False) (fun u s' ⟨_, _, _, _, _, _, _, _, _, _, _, _, _, _, _, _, z⟩ => z.elim) (fun _ _ _ _ h => h)
theorem sndS_rse0 (n : Nat) : SndS (.rse0 n) := by
 refine sndS_one (fun {G c k sc Wx X st} g h => ?_) (fun G c sc sts => by cases sts <;> rfl)
 cases st <;> first | (simp [ck1] at h; done) | skip
 rename_i e cs pos
 cases e with
 | none => simp [ck1] at h
 | some e =>
  cases cs with
  | some cs => simp [ck1] at h
  | none =>
   simp only [ck1] at h
   split at h
   rotate_left
   · cases h
   rename_i x y q1
   obtain ⟨p, p3, rfl⟩ := cl1_eq q1
   simp only [Bool.and_eq_true, Bool.not_eq_true', decide_eq_true_eq] at h
   obtain ⟨⟨⟨⟨⟨hst, hh⟩, h1⟩, hi⟩, rfl⟩, h3⟩ := h
   obtain ⟨m, j, p2, rfl⟩ := isSt_eq hst
   have hc := g.cls.sub n h1
   exact L2N.ps_raise (g.g.calm hh) g.g.tk.takes (L2N.pmk_own (C := G.C.cl n) (bmB := veT) PySem.F.excBase_ValueError (by rw [g.g.hK]; exact g.cls.exI n h1 hi) (by rw [g.g.hmg]; exact g.cls.mg n hc) (by rw [g.g.hK]; exact g.cls.kp n h1)
     (raises_own (by rw [g.g.hK]; exact g.cls.bs n h1) (by rw [g.g.hK]; exact g.cls.ty n h1)) (g.g.gl h3) (glB_ok h3).2.1)
theorem sndS_rse (n : Nat) (es : E) : SndS (.rse n es) := by
 refine sndS_one (fun {G c k sc Wx X st} g h => ?_) (fun G c sc sts => by cases sts <;> rfl)
 cases st <;> first | (simp [ck1] at h; done) | skip
 rename_i e cs pos
 cases e with
 | none => simp [ck1] at h
 | some e =>
  cases cs with
  | some cs => simp [ck1] at h
  | none =>
   simp only [ck1] at h
   split at h
   rotate_left
   · cases h
   rename_i x y ys q1
   obtain ⟨p, p3, rfl⟩ := cl1_eq q1
   simp only [Bool.and_eq_true, Bool.not_eq_true', decide_eq_true_eq] at h
   obtain ⟨⟨⟨⟨⟨hh, h1⟩, hi⟩, rfl⟩, h3⟩, h4⟩ := h
   have hc := g.cls.sub n h1
   obtain ⟨ho, f, k', hk, ⟨fd, ps, F, kp, hl, hd⟩, fI, tI⟩ := g.cls.exO n h1 hi
   obtain ⟨us, hbi, hv⟩ := hd (G.T.f (G.T.ini n)).dfl.length (Nat.le_refl _)
   rw [List.drop_length] at hv
   have q := L2N.ps_raise (pos := pos) (g.g.calm hh) g.g.tk.takes (pmk_oexN (X := X) (CX := L2N.CX X.prog X.w) (k := k') (fd := fd) (ps := ps) (sp := (G.T.f (G.T.ini n)).sp G.C) (ds := us) (dvs := []) (C := G.C.cl n) (fI := f) (p := p) (pos := p3)
     (by rw [g.g.hK]; exact ho) (by rw [g.g.hK]; exact fI) (by rw [g.g.hK]; exact tI) (by rw [g.g.hP, g.g.hw, g.g.hK, g.g.hmg, g.g.hb]; exact F) ((g.g.room hh).mono hk) (by rw [g.g.hK]; exact hbi) hv passN (g.g.gl h3) (by rw [g.g.hmg]; exact g.cls.mg n hc) ((snd es).L g.g h4) (glB_ok h3).2.1 (ckL_noSt h4))
   refine PS.imp q fun Z σ H hq => ?_
   simp only [rs] at hq
   split at hq
   · exact hq
   · exact hq.elim
theorem sndS_vini (n : Nat) (es : E) : SndS (.vini n es) := by
 refine sndS_one (fun {G c k sc Wx X st} g h => ?_) (fun G c sc sts => by cases sts <;> rfl)
 cases st <;> first | (simp [ck1] at h; done) | skip
 rename_i e pos
 simp only [ck1] at h
 split at h
 rotate_left
 · cases h
 rename_i o m ap y ys cp q1
 split at h
 rotate_left
 · cases h
 rename_i x q2
 obtain rfl := meO_eq q1
 obtain ⟨p1, rfl⟩ := nmOf_eq q2
 simp only [Bool.and_eq_true, Bool.not_eq_true', decide_eq_true_eq] at h
 obtain ⟨⟨⟨⟨⟨⟨⟨⟨hi, h1⟩, h2⟩, hh⟩, h4⟩, rfl⟩, rfl⟩, h6⟩, h7⟩ := h
 have hc := g.cls.sub n h4
 have q := ps_expr (pos := pos) (pe_vein (X := X) (p1 := p1) (p2 := ap) (pos := cp) (pl := _) (g.g.gl h6) (by rw [g.g.hmg]; exact g.cls.mg n hc) (glB_ok h6).2.1 (fun s Q E' hin q => by
     rw [g.g.hP, g.g.hw]
     exact g.cls.vin n h4 hi _ _ _ _ _ (by rw [← g.g.hK]; exact hin) q) ((snd es).L g.g h7) (ckL_noSt h7) (meth_ev (o := .Name (G.cn n) p1) rfl (ckL_noSt h7) h2 h1)) rfl
 rw [g.g.hK] at q
 exact q
theorem sndS_tryA {b h : S} (n i : Nat) (hb : SndS b) (hh : SndS h) : SndS (.tryA b n i h) := by
 refine sndS_one (fun {G c k sc Wx X st} g hc => ?_) (fun G c sc sts => by cases sts <;> rfl)
 cases st <;> first | (simp [ck1] at hc; done) | skip
 rename_i xs hs els fin pos
 cases els <;> cases fin <;> first | (simp [ck1] at hc; done) | skip
 match hs, hc with
 | [.ExceptHandler (some t) (some nm) ys p2], hc =>
   simp only [ck1] at hc
   split at hc
   rotate_left
   · cases hc
   rename_i x q1
   obtain ⟨np, rfl⟩ := nmOf_eq q1
   simp only [Bool.and_eq_true, Bool.not_eq_true', decide_eq_true_eq] at hc
   obtain ⟨⟨⟨⟨⟨⟨⟨⟨hh0, h1⟩, rfl⟩, h3⟩, h4⟩, h5⟩, h6⟩, h7⟩, h8⟩ := hc
   match ys, h6, h8 with
   | y :: ys, _, h8 =>
     have ts : ∀ (a : Addr) (oe : Obj) (cls : Value) (d : Option Addr) (pn : List (Addr × Obj)), L2N.Zn cls d oe → (∃ vs, oe.data = .fields vs) → PSs (X.suite a ((a, oe) :: pn)) (y :: ys)
         (fun Z σ H => ∃ m ∈ G.cs, cls = .ref (G.C.cl m) ∧ rs G.T G.cs h { G.C with ex := some (m, a, d) } noX Z σ H) := fun a oe cls d pn hz hf =>
       ⟨fun pins s σ H Z I hq => by
         obtain ⟨m, hm, rfl, hq⟩ := hq
         exact (hh.all (suite_good g hh0 hm hz hf) h8).run pins s σ H Z I hq⟩
     have q := L2N.ps_try_as (pos := pos) (pos' := p2) (np := np) (c := .ref (G.C.cl n)) (i := i) (Wout := Wx) g.st g.fr g.nd (g.ni h4) (by show X.env.scope.names.lookup nm = _; rw [g.g.hsc]; exact h5) ⟨g.g.gl h3, (glB_ok h3).2.1, .inl (by rw [g.g.hmg]; exact g.cls.mg n h1)⟩ g.g.tk.takes
       (tb := fun W => rs G.T G.cs b G.C W) (fun W pn xe tk po => hb.all (g.tr hh0 tk po) h7) ts
     rw [g.g.hK] at q
     exact q
theorem sndS_tryO {b h : S} (n : Nat) (hb : SndS b) (hh : SndS h) : SndS (.tryO b n h) := by
 refine sndS_one (fun {G c k sc Wx X st} g hc => ?_) (fun G c sc sts => by cases sts <;> rfl)
 cases st <;> first | (simp [ck1] at hc; done) | skip
 rename_i xs hs els fin pos
 cases els <;> cases fin <;> first | (simp [ck1] at hc; done) | skip
 match hs, hc with
 | [.ExceptHandler (some t) none ys p2], hc =>
   simp only [ck1] at hc
   split at hc
   rotate_left
   · cases hc
   rename_i x q1
   obtain ⟨np, rfl⟩ := nmOf_eq q1
   simp only [Bool.and_eq_true, Bool.not_eq_true', decide_eq_true_eq] at hc
   obtain ⟨⟨⟨⟨⟨⟨hh0, h1⟩, rfl⟩, h3⟩, h6⟩, h7⟩, h8⟩ := hc
   match ys, h6, h8 with
   | y :: ys, _, h8 =>
     have ts : ∀ (a : Addr) (oe : Obj) (cls : Value) (d : Option Addr) (pn : List (Addr × Obj)), L2N.Zn cls d oe → (∃ vs, oe.data = .fields vs) → PSs (X.suite a ((a, oe) :: pn)) (y :: ys)
         (fun Z σ H => ∃ m ∈ G.cs, cls = .ref (G.C.cl m) ∧ rs G.T G.cs h { G.C with ex := some (m, a, d) } noX Z σ H) := fun a oe cls d pn hz hf =>
       ⟨fun pins s σ H Z I hq => by
         obtain ⟨m, hm, rfl, hq⟩ := hq
         exact (hh.all (suite_good g hh0 hm hz hf) h8).run pins s σ H Z I hq⟩
     have q := L2N.ps_try_many (pos := pos) (Wout := Wx) g.st g.fr g.g.tk.takes
       (tb := fun W => rs G.T G.cs b G.C W) (fun W pn xe tk po => hb.all (g.tr hh0 tk po) h7) (.cons (pos' := p2) (np := np) (c := .ref (G.C.cl n)) ⟨g.g.gl h3, (glB_ok h3).2.1, .inl (by rw [g.g.hmg]; exact g.cls.mg n h1)⟩ ts .nil)
     rw [g.g.hK] at q
     exact q
theorem sndS_tryM {b hs : S} (hb : SndS b) (hh : SndH hs) : SndS (.tryM b hs) := by
 refine sndS_one (fun {G c k sc Wx X st} g hc => ?_) (fun G c sc sts => by cases sts <;> rfl)
 cases st <;> first | (simp [ck1] at hc; done) | skip
 rename_i xs hds els fin pos
 match hds, els, fin, hc with
 | h :: hds, [], [], hc =>
   simp only [ck1, Bool.and_eq_true, Bool.not_eq_true'] at hc
   obtain ⟨⟨hot, h1⟩, h2⟩ := hc
   exact ps_clauses (pos := pos) (tb := fun W => rs G.T G.cs b G.C W) g.st g.fr (fun W pn xe tk po => hb.all (g.tr hot tk po) h1) (hh g hot h2)
theorem sndH_end : SndH .hend := fun {G c k sc Wx X hds} g hot hc => by
 cases hds with
 | nil => exact hd_out g.st g.fr g.g.tk.takes
 | cons h hds => cases hc
theorem sndH_hnd {h r : S} (n i : Nat) (hh : SndS h) (hr : SndH r) : SndH (.hnd n i h r) := fun {G c k sc Wx X hds} g hot hc => by
 cases hds with
 | nil => simp [ckH] at hc
 | cons z hds =>
   obtain ⟨ty, nm, ys, p2⟩ := z
   cases ty with
   | none => simp [ckH] at hc
   | some ty =>
     cases ty <;> first | (simp [ckH] at hc; done) | skip
     rename_i x np
     cases nm with
     | none => simp [ckH] at hc
     | some nm =>
       cases ys with
       | nil => simp [ckH] at hc
       | cons y ys =>
         simp only [ckH, Bool.and_eq_true, Bool.not_eq_true', decide_eq_true_eq] at hc
         obtain ⟨⟨⟨⟨⟨⟨⟨h1, rfl⟩, h3⟩, h4⟩, h5⟩, _⟩, h7⟩, h8⟩ := hc
         have q := hd_as (np := np) (p2 := p2) (v := .ref (G.C.cl n)) (ts := fun a cls d Z t B => ∃ m ∈ G.cs, cls = .ref (G.C.cl m) ∧ rs G.T G.cs h { G.C with ex := some (m, a, d) } noX Z t B) g.st g.fr g.nd (g.ni h4) (by show X.env.scope.names.lookup nm = _; rw [g.g.hsc]; exact h5)
           ⟨g.g.gl h3, (glB_ok h3).2.1, .inl (by rw [g.g.hmg]; exact g.cls.mg n h1)⟩ (fun a o cls d pn hz hu => ⟨fun pins s t B Z J ⟨m, hm, e, hq⟩ => by subst e; exact (hh.all (suite_good g hot hm hz hu) h7).run pins s t B Z J hq⟩) (hr g hot h8)
         rw [g.g.hK] at q
         exact q
theorem sndH_no {s : S} (h : ∀ G c sc hds, ckH G c sc s hds = false) : SndH s := fun {G c k sc Wx X hds} _ _ hc => by rw [h] at hc; cases hc
theorem sndS_no {s : S} (h1 : ∀ G c sc st, ck1 G c sc s st = false) (h2 : ∀ G c sc sts, ckS G c sc s sts = false) : SndS s := ⟨fun {G c k sc Wx X st} _ h => (by rw [h1] at h; cases h), fun {G c k sc Wx X sts} _ h => by rw [h2] at h; cases h⟩
theorem sndSH (s : S) : SndS s ∧ SndH s := by
 induction s with
 | nop => exact ⟨sndS_nop, sndH_no fun _ _ _ hds => by cases hds <;> rfl⟩
 | stuck => exact ⟨sndS_stuck, sndH_no fun _ _ _ hds => by cases hds <;> rfl⟩
 | seq a b ha hb => exact ⟨sndS_seq ha.1 hb.1, sndH_no fun _ _ _ hds => by cases hds <;> rfl⟩
 | pas => exact ⟨sndS_pas, sndH_no fun _ _ _ hds => by cases hds <;> rfl⟩
 | exp e => exact ⟨sndS_exp e, sndH_no fun _ _ _ hds => by cases hds <;> rfl⟩
 | asg i e => exact ⟨sndS_asg i e, sndH_no fun _ _ _ hds => by cases hds <;> rfl⟩
 | asgT is e => exact ⟨sndS_asgT is e, sndH_no fun _ _ _ hds => by cases hds <;> rfl⟩
 | aug i o e => exact ⟨sndS_aug i o e, sndH_no fun _ _ _ hds => by cases hds <;> rfl⟩
 | ret e => exact ⟨sndS_ret e, sndH_no fun _ _ _ hds => by cases hds <;> rfl⟩
 | retN => exact ⟨sndS_retN, sndH_no fun _ _ _ hds => by cases hds <;> rfl⟩
 | ife t a b ha hb => exact ⟨sndS_ife ha.1 hb.1, sndH_no fun _ _ _ hds => by cases hds <;> rfl⟩
 | «for» js it b hb => exact ⟨sndS_for hb.1, sndH_no fun _ _ _ hds => by cases hds <;> rfl⟩
 | forD js it b hb => exact ⟨sndS_forD hb.1, sndH_no fun _ _ _ hds => by cases hds <;> rfl⟩
 | forH i e b hb => exact ⟨sndS_forH hb.1, sndH_no fun _ _ _ hds => by cases hds <;> rfl⟩
 | whl t b hb => exact ⟨sndS_whl hb.1, sndH_no fun _ _ _ hds => by cases hds <;> rfl⟩
 | brk => exact ⟨sndS_brk, sndH_no fun _ _ _ hds => by cases hds <;> rfl⟩
 | cnt => exact ⟨sndS_cnt, sndH_no fun _ _ _ hds => by cases hds <;> rfl⟩
 | setf a f e => exact ⟨sndS_setf a f e, sndH_no fun _ _ _ hds => by cases hds <;> rfl⟩
 | setk d k e => exact ⟨sndS_setk d k e, sndH_no fun _ _ _ hds => by cases hds <;> rfl⟩
 | setl l i e => exact ⟨sndS_setl l i e, sndH_no fun _ _ _ hds => by cases hds <;> rfl⟩
 | rse0 c => exact ⟨sndS_rse0 c, sndH_no fun _ _ _ hds => by cases hds <;> rfl⟩
 | rse c es => exact ⟨sndS_rse c es, sndH_no fun _ _ _ hds => by cases hds <;> rfl⟩
 | tryA b c i h hb hh => exact ⟨sndS_tryA c i hb.1 hh.1, sndH_no fun _ _ _ hds => by cases hds <;> rfl⟩
 | tryO b c h hb hh => exact ⟨sndS_tryO c hb.1 hh.1, sndH_no fun _ _ _ hds => by cases hds <;> rfl⟩
 | vini c es => exact ⟨sndS_vini c es, sndH_no fun _ _ _ hds => by cases hds <;> rfl⟩
 | ost a f e => exact ⟨sndS_ost a f e, sndH_no fun _ _ _ hds => by cases hds <;> rfl⟩
 | tryM b hs hb hh => exact ⟨sndS_tryM hb.1 hh.2, sndH_no fun _ _ _ hds => by cases hds <;> rfl⟩
 | hnd c i h r hh hr => exact ⟨sndS_no (fun _ _ _ st => by cases st <;> rfl) (fun _ _ _ sts => by cases sts <;> rfl), sndH_hnd c i hh.1 hr.2⟩
 | hend => exact ⟨sndS_no (fun _ _ _ st => by cases st <;> rfl) (fun _ _ _ sts => by cases sts <;> rfl), sndH_end⟩
theorem sndS (s : S) : SndS s := (sndSH s).1
end Q
namespace Q
open PySem L2 PySem.Spec
def spB (T : Tb) (cs : List Nat) (n N : Nat) (s : S) (C : Kc) : Sp := fun vs H Q E => vs.length = n ∧
 rs T cs s C (fun cls d _ H' => E cls d H') { nx := fun _ H' => Q .non H', rt := Q } (vs.map some ++ List.replicate (N - vs.length) none) H
structure DefT (G : Gt) (c : Cn) (ps : List Str) (sc : Scope) (body : List Stmt) (s : S) (hot : Bool) : Prop where
 sco : FnScope c.N ps sc
 ck : ckS G c sc s body = true
 hot : c.hot = hot
structure WorldT (G : Gx) (k : Nat) (rs : List Nat) : Prop where
 cls : ClsF G k rs
 ex : G.C.ex = none
 blt : ∀ x ∈ bltNames, G.mg x = none
 glo : ∀ n ∈ G.gs, GlF G n
structure CallsT (G : Gx) (c : Cn) (k : Nat) : Prop where
 fns : ∀ i ∈ c.fs, FnI G k i := by exact fun _ z => nomatch z
 fnh : ∀ i ∈ c.hs, FnIH G k i := by exact fun _ z => nomatch z
 mts : ∀ p ∈ c.ms, MtI G k p.1 p.2 := by exact fun _ z => nomatch z
 mks : ∀ n ∈ c.mks, MkI G k n := by exact fun _ z => nomatch z
 bis : ∀ n ∈ c.bi, BiI G k n := by exact fun _ z => nomatch z
 ias : ∀ p ∈ c.ias, IaI G p := by exact fun _ z => nomatch z
theorem def_ok {G : Gx} {c : Cn} {k : Nat} {x qual : Str} {params : Arguments} {body : List Stmt} {sc : Scope} {dvs : List V} {f : Addr} {fd : FuncData} {ps : List Str} {s : S}
   (hF : FunD G.C.K x qual params body sc dvs [] f fd) (t : DefT G c ps sc body s false) (w : WorldT G k c.rs) (cl : CallsT G c k) :
   FnOk G.P G.w G.C.K G.mg G.base (L2N.CX G.P G.w) (k + 1) f fd ps (spB G.T G.cs ps.length c.N.length s G.C) := by
 refine hF.ok t.sco (fun vs H Q E h => h.1) fun cdv A outer s0 H vs Q E hr h => ?_
 have hu := hr.un
 have g : GoodS G c k sc (fun cls d _ H => E cls d H) (cxOf (L2N.CX G.P G.w) G.P G.w G.C.K G.mg G.base c.N qual sc f cdv A outer s0 H E) :=
   { g := { hP := rfl, hw := rfl, hK := rfl, hmg := rfl, hb := rfl, hN := rfl, nd := t.sco.nd, hsc := rfl
            calm := fun _ => rfl
            room := fun _ => hr
            units := Nat.lt_of_le_of_lt (Nat.le_trans (Nat.add_le_add_left (show 65 ≤ 200 by decide) _) (Nat.add_le_add_right (Nat.le_add_right _ _) _)) hu
            tk := Fl.of rfl rfl (L2N.takes_of rfl rfl rfl rfl)
            blt := w.blt
            glo := w.glo
            fns := cl.fns
            fnh := cl.fnh
            mts := cl.mts
            mks := cl.mks
            bis := cl.bis
            ias := cl.ias
            hotg := fun z => by rw [t.hot] at z; cases z
            isx := fun z => by rw [t.hot] at z; cases z }
     fn := fun _ => rfl
     po := passes_of rfl
     st := rfl
     fr := rfl
     cls := w.cls }
 exact ⟨_, (sndS s).all g t.ck, h.2⟩
theorem ClsF.hotB {G : Gx} {k : Nat} {rs : List Nat} (h : ClsF G k rs) (m : Nat) (a : Addr) (dx : Option Addr) (base : Heap) : ClsF { G with C := { G.C with ex := some (m, a, dx) }, base := base } k [] where
 mg := h.mg
 sub := fun _ z => nomatch z
 kp := fun _ z => nomatch z
 bs := fun _ z => nomatch z
 ty := fun _ z => nomatch z
 exI := fun _ z => nomatch z
 exO := fun _ z => nomatch z
 vin := fun _ z => nomatch z
 exm := h.exm
 kit := h.kit
 exc := h.exc
 ve := h.ve
theorem defH_ok {G : Gx} {c : Cn} {k : Nat} {x qual : Str} {params : Arguments} {body : List Stmt} {sc : Scope} {dvs : List V} {f : Addr} {fd : FuncData} {ps : List Str} {s : S} {R : Row} {rs0 : List Nat}
   (hF : FunD G.C.K x qual params body sc dvs [] f fd) (t : DefT G c ps sc body s true) (w : WorldT G k rs0) (cl : CallsT G c k) (nf : c.fs = [] ∧ c.ms = [] ∧ c.mks = [] ∧ c.bi = [] ∧ c.rs = [])
   (hR : R.sp = spB G.T G.cs ps.length c.N.length s) (ar : R.ar = ps.length) (hb : ∀ n, n ≤ R.dfl.length → ∃ us, Binds G.C.K fd ps us ∧ Vals (R.dfl.drop n) us) : FnCH G (k + 1) R f := by
 refine ⟨fd, ps, fun m a dx oe base ob kb ha => ?_, hF.kp, ar.symm, hb⟩
 obtain ⟨oc, od, dV, kV, doc, pm, an, cdv, ct, osl, e, l, cd, _, _⟩ := hF.ex
 subst e
 rw [hR]
 refine L2H.fn_ofH l cd t.sco (fun vs H Q E h => h.1) fun A outer s0 H vs Q E p hot hr h => ?_
 let G' : Gx := { G with C := { G.C with ex := some (m, a, dx) }, base := base }
 have cls : ClsF G' k [] := w.cls.hotB m a dx base
 have hg : HotG G' k (L2H.cxH (L2N.CX G.P G.w) G.P G.w G.C.K G.mg base c.N qual sc f cdv A outer s0 H E p) m a dx oe :=
   { ex := rfl
     ob := ob
     at_ := fun {pins σ H1 s1} I => by
       have q := I.bs a oe ha
       refine ⟨q.1, q.2, fun z => ?_⟩
       have y := (I.env0.funs.mem z).1
       rw [show (L2H.cxH (L2N.CX G.P G.w) G.P G.w G.C.K G.mg base c.N qual sc f cdv A outer s0 H E p).base = base from rfl, ha] at y
       cases y
     hc := ⟨p, hot, List.mem_singleton.mpr rfl⟩
     room := hr
     src := .inl ha }
 obtain ⟨n1, n2, n3, n4, n5⟩ := nf
 have g : GoodS G' c k sc (fun cls d _ H => E cls d H) (L2H.cxH (L2N.CX G.P G.w) G.P G.w G.C.K G.mg base c.N qual sc f cdv A outer s0 H E p) :=
   { g := { hP := rfl, hw := rfl, hK := rfl, hmg := rfl, hb := rfl, hN := rfl, nd := t.sco.nd, hsc := rfl
            calm := fun z => by rw [t.hot] at z; cases z
            room := fun z => by rw [t.hot] at z; cases z
            units := Nat.lt_of_le_of_lt (Nat.le_trans (Nat.add_le_add_left (show 65 ≤ 200 by decide) _) (Nat.add_le_add_right (Nat.le_add_right _ _) _)) hr.un
            tk := Fl.of rfl rfl (L2N.takes_of rfl rfl rfl rfl)
            blt := w.blt
            glo := w.glo
            fns := fun i z => by rw [n1] at z; exact (List.not_mem_nil z).elim
            fnh := fun i hi => by
              obtain ⟨f', ⟨fd', ps', q1, q2⟩, q3⟩ := cl.fnh i hi
              exact ⟨f', ⟨fd', ps', fun m' a' dx' oe' base' ob' kb' ha' => q1 m' a' dx' oe' base' ob' (fun b o z => kb' b o (kb b o z)) ha', q2⟩, q3⟩
            mts := fun i z => by rw [n2] at z; exact (List.not_mem_nil z).elim
            mks := fun i z => by rw [n3] at z; exact (List.not_mem_nil z).elim
            bis := fun i z => by rw [n4] at z; exact (List.not_mem_nil z).elim
            ias := cl.ias
            hotg := fun _ => ⟨m, a, dx, oe, hg⟩
            isx := fun _ {_ _ _ _ _ _ _} hg' a1 a2 a3 a4 e x he hx => hot_isx hg' cls a1 a2 a3 a4 w.blt he hx }
     fn := fun _ => rfl
     po := passes_of rfl
     st := rfl
     fr := rfl
     cls := by rw [n5]; exact cls }
 exact ⟨_, (sndS s).all g t.ck, h.2⟩
theorem FnC.up {G : Gx} {j k : Nat} {R : Row} {f : Addr} (h : FnC G j R f) (hk : j ≤ k) : FnC G k R f := by
 obtain ⟨fd, ps, h1, h2⟩ := h.ex
 exact ⟨fd, ps, h1.mono hk, h2⟩
theorem FnCH.up {G : Gx} {j k : Nat} {R : Row} {f : Addr} (h : FnCH G j R f) (hk : j ≤ k) : FnCH G k R f := by
 obtain ⟨fd, ps, h1, h2⟩ := h.ex
 exact ⟨fd, ps, fun m a dx oe base q1 q2 q3 => ⟨(h1 m a dx oe base q1 q2 q3).len, fun A outer s H args us vs Q E p hr => (h1 m a dx oe base q1 q2 q3).run A outer s H args us vs Q E p (hr.mono hk)⟩, h2⟩
def spLawB (K : Frag) : Sp := fun vs H Q _ => ∃ (a : Addr) (ns : List Int), vs = [.ref a] ∧ SqL K H a (ns.map V.int) ∧ ns.length ≤ 63 ∧ (∀ z ∈ ns, Builtin.Int.intBits z ≤ 1048576) ∧ ∀ H', Q (.bl true) H'
theorem walk_k {l : PySem.W.OpenLaw} {k : Nat} {q : Program} {loose : List Str} {XP : (Str → Option Value) → Heap → Prop} {YP : World → Heap → Prop} {d : DefRec} {K : Params → Frag} (x : Str) (hn : l.most = some 63) (hdf : d.params.defaults = []) (hr : Room k callerA)
   (hY : ∀ (w : World) (h : Heap), YP w h → (K w.params).In h)
   (F : ∀ (w : World) (mg : Str → Option Value) (fa : Addr) (h : Heap), (K w.params).In h → h.Ns mainGlobals mg → mg d.name = some (.ref fa) →
     ∃ fd : FuncData, (∀ (s : Shared) (u : Value), BindsTo s fd ⟨[u], []⟩ [(x, u)]) ∧ ∀ base : Heap, (K w.params).In base → base.Ns mainGlobals mg → FnOk l.prog w (K w.params) mg base (L2N.CX l.prog w) k fa fd [x] (spLawB (K w.params))) :
   PySem.W.WalkO q loose XP YP l.row.toRowW d [] (fun f vs => PySem.call f vs) :=
 L2.walk_ofB (n := 63) (k := k) (x := x) (CX := fun w => L2N.CX l.prog w) (sp := fun w => spLawB (K w.params)) hn (by decide) hdf hr hY F (fun _ _ a ns hl hb _ hS => ⟨a, ns, rfl, hS, hl, hb, fun _ => rfl⟩) fun _ _ _ _ _ z => by
   obtain ⟨_, _, _, _, _, _, _, _, _, _, _, _, z⟩ := z
   exact z
end Q
namespace Q
open PySem L2 PySem.Spec
theorem sm_refl (H : Hp) : Same H H := fun _ _ e => e
theorem sm_trans {H H' H'' : Hp} (a : Same H H') (b : Same H' H'') : Same H H'' := fun x o e => b x o (a x o e)
theorem sm_rd {H H' : Hp} (e : Same H H') {a : Addr} {u : HO} (h : L2.Rd H a u) : L2.Rd H' a u := by
 rcases h with h | ⟨o, h⟩
 · exact .inl (e a _ h)
 · exact .inr ⟨o, e a _ h⟩
theorem sm_sqT {K : Frag} {H H' : Hp} (e : Same H H') {a : Addr} {xs : List V} (h : SqT K H a xs) : SqT K H' a xs := by
 rcases h with h | h
 · exact .inl (sm_rd e h)
 · exact .inr h
theorem sm_sqL {K : Frag} {H H' : Hp} (e : Same H H') {a : Addr} {xs : List V} (h : SqL K H a xs) : SqL K H' a xs := by
 rcases h with h | h
 · exact .inl (sm_rd e h)
 · exact .inr h
theorem sm_new {H : Hp} {p : Addr} {o : HO} (h : H p = none) : Same H (upd H p o) := fun a u e => by
 rw [upd_ne (fun z => by rw [z, h] at e; cases e)]
 exact e
def tupB : HO → Bool
 | .tup _ => true
 | .frz _ (.tup _) => true
 | _ => false
def nTup (H : Hp) (a : Addr) : Prop := ∀ u, H a = some u → tupB u = false
def dicB : HO → Bool
 | .dK _ => true
 | .dT _ => true
 | _ => false
def Lk (B B' : Hp) : Prop := ∀ a, B a = B' a ∨ ∃ u, dicB u = true ∧ ((B a = some u ∧ ∃ o, B' a = some (.frz o u)) ∨ (B' a = some u ∧ ∃ o, B a = some (.frz o u)))
theorem Lk.symm {B B' : Hp} (h : Lk B B') : Lk B' B := fun a => (h a).imp Eq.symm fun ⟨u, hu, z⟩ => ⟨u, hu, z.symm⟩
theorem Lk.eq {B B' : Hp} (h : Lk B B') {a : Addr} {u : HO} (e : B a = some u) (hu : dicB u = false) (hf : ∀ o w, u ≠ .frz o w) : B' a = some u := by
 rcases h a with z | ⟨w, hw, ⟨z, _⟩ | ⟨_, o, z⟩⟩
 · rw [← z]; exact e
 · rw [e] at z
   cases z
   rw [hu] at hw; cases hw
 · rw [e] at z
   cases z
   exact absurd rfl (hf o w)
theorem lk_rd {B B' : Hp} (h : Lk B B') {a : Addr} {u : HO} (hf : ∀ o w, u ≠ .frz o w) (r : L2.Rd B a u) : L2.Rd B' a u := by
 rcases h a with z | ⟨w, hw, ⟨z, o, z'⟩ | ⟨z', o, z⟩⟩
 · rcases r with r | ⟨o, r⟩
   · exact .inl (by rw [← z]; exact r)
   · exact .inr ⟨o, by rw [← z]; exact r⟩
 · rcases r with r | ⟨o', r⟩
   · rw [z] at r
     cases r
     exact .inr ⟨o, z'⟩
   · rw [z] at r
     cases r
     cases hw
 · rcases r with r | ⟨o', r⟩
   · rw [z] at r
     cases r
     exact absurd rfl (hf _ _)
   · rw [z] at r
     cases r
     exact .inl z'
theorem lk_sqT {K : Frag} {B B' : Hp} (e : Lk B B') {a : Addr} {xs : List V} (h : SqT K B a xs) : SqT K B' a xs := h.imp_left (lk_rd e fun _ _ z => nomatch z)
theorem lk_sqL {K : Frag} {B B' : Hp} (e : Lk B B') {a : Addr} {xs : List V} (h : SqL K B a xs) : SqL K B' a xs := h.imp_left (lk_rd e fun _ _ z => nomatch z)
structure Vw where
 rel : Hp → V → Prop
 mono : ∀ {B B' : Hp} {v : V}, Same B B' → rel B v → rel B' v
 lk : ∀ {B B' : Hp} {v : V}, Lk B B' → rel B v → rel B' v
structure Ow where
 rel : Hp → Hp → V → List Addr → Prop
 mono : ∀ {B B' H H' : Hp} {v : V} {fp : List Addr}, Same B B' → (∀ a ∈ fp, H' a = H a) → rel B H v fp → rel B' H' v fp
 al : ∀ {B H : Hp} {v : V} {fp : List Addr}, rel B H v fp → ∀ a ∈ fp, (H a).isSome = true
 nt : ∀ {B H : Hp} {v : V} {fp : List Addr}, rel B H v fp → ∀ a ∈ fp, nTup H a
 lk : ∀ {B B' H H' : Hp} {v : V} {fp : List Addr}, Lk B B' → (∀ a ∈ fp, H' a = H a) → rel B H v fp → rel B' H' v fp
 vw : Vw
 sub : ∀ {B B' H : Hp} {v : V} {fp : List Addr}, Same B B' → (∀ a ∈ fp, B' a = H a) → rel B H v fp → vw.rel B' v
abbrev VwL (B : Hp) : List V → List Vw → Prop := Paired fun v w => w.rel B v
theorem VwL.mono {B B' : Hp} (e : Same B B') : ∀ {vs : List V} {ws : List Vw}, VwL B vs ws → VwL B' vs ws
 | _, _, .nil => .nil
 | _, _, .cons (b := w) h l => .cons (w.mono e h) (VwL.mono e l)
theorem VwL.lk {B B' : Hp} (e : Lk B B') : ∀ {vs : List V} {ws : List Vw}, VwL B vs ws → VwL B' vs ws
 | _, _, .nil => .nil
 | _, _, .cons (b := w) h l => .cons (w.lk e h) (VwL.lk e l)
abbrev VwF {κ : Type} (B : Hp) : List (κ × V) → List (κ × Vw) → Prop := Paired fun v w => v.1 = w.1 ∧ w.2.rel B v.2
theorem VwF.mono {κ : Type} {B B' : Hp} (e : Same B B') : ∀ {vs : List (κ × V)} {ws : List (κ × Vw)}, VwF B vs ws → VwF B' vs ws
 | _, _, .nil => .nil
 | _, _, .cons (b := w) h l => .cons ⟨h.1, w.2.mono e h.2⟩ (VwF.mono e l)
theorem VwF.lk {κ : Type} {B B' : Hp} (e : Lk B B') : ∀ {vs : List (κ × V)} {ws : List (κ × Vw)}, VwF B vs ws → VwF B' vs ws
 | _, _, .nil => .nil
 | _, _, .cons (b := w) h l => .cons ⟨h.1, w.2.lk e h.2⟩ (VwF.lk e l)
def vC (v : V) : Vw := ⟨fun _ u => u = v, fun _ h => h, fun _ h => h⟩
abbrev vNon : Unit → Vw := fun _ => vC .non
abbrev vBl (b : Bool) : Vw := vC (.bl b)
abbrev vInt (i : Int) : Vw := vC (.int i)
abbrev vStr (s : Str) : Vw := vC (.str s)
def vOpt {α : Type} (τ : α → Vw) : Option α → Vw
 | none => vC .non
 | some x => τ x
section
variable (C : Kc)
def vTup (C : Kc) (ws : List Vw) : Vw := ⟨fun B v => ∃ p vs, v = .ref p ∧ B p = some (.tup vs) ∧ VwL B vs ws, fun e ⟨p, vs, h1, h2, h3⟩ => ⟨p, vs, h1, e _ _ h2, h3.mono e⟩, fun e ⟨p, vs, h1, h2, h3⟩ => ⟨p, vs, h1, e.eq h2 rfl (fun _ _ z => nomatch z), h3.lk e⟩⟩
def vLs (ws : List Vw) : Vw := ⟨fun B v => ∃ p vs, v = .ref p ∧ SqL C.K B p vs ∧ VwL B vs ws, fun e ⟨p, vs, h1, h2, h3⟩ => ⟨p, vs, h1, sm_sqL e h2, h3.mono e⟩, fun e ⟨p, vs, h1, h2, h3⟩ => ⟨p, vs, h1, lk_sqL e h2, h3.lk e⟩⟩
def vDc (ws : List (Key × Vw)) : Vw := ⟨fun B v => ∃ p vs, v = .ref p ∧ L2.Rd B p (.dK vs) ∧ VwF B vs ws, fun e ⟨p, vs, h1, h2, h3⟩ => ⟨p, vs, h1, sm_rd e h2, h3.mono e⟩, fun e ⟨p, vs, h1, h2, h3⟩ => ⟨p, vs, h1, lk_rd e (fun _ _ z => nomatch z) h2, h3.lk e⟩⟩
def vDt (ws : List (List Key × Vw)) : Vw := ⟨fun B v => ∃ p vs, v = .ref p ∧ L2.Rd B p (.dT vs) ∧ VwF B vs ws, fun e ⟨p, vs, h1, h2, h3⟩ => ⟨p, vs, h1, sm_rd e h2, h3.mono e⟩, fun e ⟨p, vs, h1, h2, h3⟩ => ⟨p, vs, h1, lk_rd e (fun _ _ z => nomatch z) h2, h3.lk e⟩⟩
def vIn (c : Nat) (ws : List (Str × Vw)) : Vw := ⟨fun B v => ∃ p dx vs, v = .ref p ∧ B p = some (.ins (C.cl c) dx vs) ∧ VwF B vs ws, fun e ⟨p, dx, vs, h1, h2, h3⟩ => ⟨p, dx, vs, h1, e _ _ h2, h3.mono e⟩, fun e ⟨p, dx, vs, h1, h2, h3⟩ => ⟨p, dx, vs, h1, e.eq h2 rfl (fun _ _ z => nomatch z), h3.lk e⟩⟩
abbrev vL {α : Type} (τ : α → Vw) (xs : List α) : Vw := vLs C (xs.map τ)
end
def oV (w : Vw) : Ow where
 rel := fun B _ v fp => w.rel B v ∧ fp = []
 mono := fun e _ h => ⟨w.mono e h.1, h.2⟩
 al := fun h a ha => by rw [h.2] at ha; cases ha
 nt := fun h a ha => by rw [h.2] at ha; cases ha
 lk := fun e _ h => ⟨w.lk e h.1, h.2⟩
 vw := w
 sub := fun e _ h => w.mono e h.1
def OwL (B H : Hp) : List V → List Ow → List Addr → Prop
 | [], [], fp => fp = []
 | v :: vs, o :: os, fp => ∃ f g, fp = f ++ g ∧ o.rel B H v f ∧ OwL B H vs os g
 | _, _, _ => False
theorem OwL.mono {B B' H H' : Hp} (e : Same B B') : ∀ {vs : List V} {os : List Ow} {fp : List Addr}, (∀ a ∈ fp, H' a = H a) → OwL B H vs os fp → OwL B' H' vs os fp
 | [], [], _, _, h => h
 | v :: vs, o :: os, fp, n, ⟨f, g, h1, h2, h3⟩ => by
   subst h1
   exact ⟨f, g, rfl, o.mono e (fun a ha => n a (List.mem_append_left _ ha)) h2, OwL.mono e (fun a ha => n a (List.mem_append_right _ ha)) h3⟩
theorem OwL.lk {B B' H H' : Hp} (e : Lk B B') : ∀ {vs : List V} {os : List Ow} {fp : List Addr}, (∀ a ∈ fp, H' a = H a) → OwL B H vs os fp → OwL B' H' vs os fp
 | [], [], _, _, h => h
 | v :: vs, o :: os, fp, n, ⟨f, g, h1, h2, h3⟩ => by
   subst h1
   exact ⟨f, g, rfl, o.lk e (fun a ha => n a (List.mem_append_left _ ha)) h2, OwL.lk e (fun a ha => n a (List.mem_append_right _ ha)) h3⟩
theorem OwL.al {B H : Hp} : ∀ {vs : List V} {os : List Ow} {fp : List Addr}, OwL B H vs os fp → ∀ a ∈ fp, (H a).isSome = true
 | [], [], _, h, a, ha => by rw [show _ = [] from h] at ha; cases ha
 | v :: vs, o :: os, fp, ⟨f, g, h1, h2, h3⟩, a, ha => by
   subst h1
   exact (List.mem_append.mp ha).elim (o.al h2 a) (OwL.al h3 a)
theorem OwL.nt {B H : Hp} : ∀ {vs : List V} {os : List Ow} {fp : List Addr}, OwL B H vs os fp → ∀ a ∈ fp, nTup H a
 | [], [], _, h, a, ha => by rw [show _ = [] from h] at ha; cases ha
 | v :: vs, o :: os, fp, ⟨f, g, h1, h2, h3⟩, a, ha => by
   subst h1
   exact (List.mem_append.mp ha).elim (o.nt h2 a) (OwL.nt h3 a)
theorem OwL.sub {B B' H : Hp} (e : Same B B') : ∀ {vs : List V} {os : List Ow} {fp : List Addr}, (∀ a ∈ fp, B' a = H a) → OwL B H vs os fp → VwL B' vs (os.map Ow.vw)
 | [], [], _, _, _ => .nil
 | v :: vs, o :: os, fp, n, ⟨f, g, h1, h2, h3⟩ => by
   subst h1
   exact .cons (o.sub e (fun a ha => n a (List.mem_append_left _ ha)) h2) (OwL.sub e (fun a ha => n a (List.mem_append_right _ ha)) h3)
theorem OwL.len {B H : Hp} : ∀ {vs : List V} {os : List Ow} {fp : List Addr}, OwL B H vs os fp → vs.length = os.length
 | [], [], _, _ => rfl
 | v :: vs, o :: os, fp, ⟨f, g, h1, h2, h3⟩ => by rw [List.length_cons, List.length_cons, OwL.len h3]
theorem OwL.append {B H : Hp} : ∀ {vs ws : List V} {os ps : List Ow} {fp fq : List Addr}, OwL B H vs os fp → OwL B H ws ps fq → OwL B H (vs ++ ws) (os ++ ps) (fp ++ fq)
 | [], ws, [], ps, fp, fq, h, h' => by rw [show fp = [] from h]; exact h'
 | v :: vs, ws, o :: os, ps, fp, fq, ⟨f, g, h1, h2, h3⟩, h' => by
   subst h1
   exact ⟨f, g ++ fq, by rw [List.append_assoc], h2, OwL.append h3 h'⟩
theorem owl_oV {B H : Hp} : ∀ {vs : List V} {ws : List Vw}, VwL B vs ws → OwL B H vs (ws.map oV) []
 | _, _, .nil => rfl
 | _, _, .cons h l => ⟨[], [], rfl, ⟨h, rfl⟩, owl_oV l⟩
abbrev OwF {κ : Type} (B H : Hp) (vs : List (κ × V)) (os : List (κ × Ow)) (fp : List Addr) : Prop := vs.map (·.1) = os.map (·.1) ∧ OwL B H (vs.map (·.2)) (os.map (·.2)) fp
theorem vwF_of {κ : Type} {B : Hp} : ∀ {vs : List (κ × V)} {ws : List (κ × Vw)}, vs.map (·.1) = ws.map (·.1) → VwL B (vs.map (·.2)) (ws.map (·.2)) → VwF B vs ws
 | [], [], _, _ => .nil
 | [], _ :: _, h, _ => by simp at h
 | _ :: _, [], h, _ => by simp at h
 | (k, v) :: vs, (j, w) :: ws, h, .cons a b => by
   simp only [List.map_cons, List.cons.injEq] at h
   exact .cons ⟨h.1, a⟩ (vwF_of h.2 b)
section
variable (C : Kc)
def oLs (os : List Ow) : Ow where
 rel := fun B H v fp => ∃ p vs f, v = .ref p ∧ H p = some (.lst vs) ∧ OwL B H vs os f ∧ fp = p :: f
 mono := fun e n ⟨p, vs, f, h1, h2, h3, h4⟩ => by
   subst h4
   exact ⟨p, vs, f, h1, by rw [n p List.mem_cons_self]; exact h2, OwL.mono e (fun a ha => n a (List.mem_cons_of_mem _ ha)) h3, rfl⟩
 al := fun ⟨p, vs, f, h1, h2, h3, h4⟩ a ha => by
   subst h4
   rcases List.mem_cons.mp ha with rfl | ha
   · rw [h2]; rfl
   · exact OwL.al h3 a ha
 nt := fun ⟨p, vs, f, h1, h2, h3, h4⟩ a ha us z => by
   subst h4
   rcases List.mem_cons.mp ha with rfl | ha
   · rw [h2] at z; cases z; rfl
   · exact OwL.nt h3 a ha us z
 lk := fun e n ⟨p, vs, f, h1, h2, h3, h4⟩ => by
   subst h4
   exact ⟨p, vs, f, h1, by rw [n p List.mem_cons_self]; exact h2, OwL.lk e (fun a ha => n a (List.mem_cons_of_mem _ ha)) h3, rfl⟩
 vw := vLs C (os.map Ow.vw)
 sub := fun e n ⟨p, vs, f, h1, h2, h3, h4⟩ => by
   subst h4
   exact ⟨p, vs, h1, .inl (.inl (by rw [n p List.mem_cons_self]; exact h2)), OwL.sub e (fun a ha => n a (List.mem_cons_of_mem _ ha)) h3⟩
def oTup (C : Kc) (os : List Ow) : Ow where
 rel := fun B H v fp => ∃ p vs, v = .ref p ∧ B p = some (.tup vs) ∧ OwL B H vs os fp
 mono := fun e n ⟨p, vs, h1, h2, h3⟩ => ⟨p, vs, h1, e _ _ h2, OwL.mono e n h3⟩
 al := fun ⟨p, vs, h1, h2, h3⟩ a ha => OwL.al h3 a ha
 nt := fun ⟨p, vs, h1, h2, h3⟩ a ha => OwL.nt h3 a ha
 lk := fun e n ⟨p, vs, h1, h2, h3⟩ => ⟨p, vs, h1, e.eq h2 rfl (fun _ _ z => nomatch z), OwL.lk e n h3⟩
 vw := vTup C (os.map Ow.vw)
 sub := fun e n ⟨p, vs, h1, h2, h3⟩ => ⟨p, vs, h1, e _ _ h2, OwL.sub e n h3⟩
def oDc (os : List (Key × Ow)) : Ow where
 rel := fun B H v fp => ∃ p vs f, v = .ref p ∧ H p = some (.dK vs) ∧ OwF B H vs os f ∧ fp = p :: f
 mono := fun e n ⟨p, vs, f, h1, h2, h3, h4⟩ => by
   subst h4
   exact ⟨p, vs, f, h1, by rw [n p List.mem_cons_self]; exact h2, ⟨h3.1, OwL.mono e (fun a ha => n a (List.mem_cons_of_mem _ ha)) h3.2⟩, rfl⟩
 al := fun ⟨p, vs, f, h1, h2, h3, h4⟩ a ha => by
   subst h4
   rcases List.mem_cons.mp ha with rfl | ha
   · rw [h2]; rfl
   · exact OwL.al h3.2 a ha
 nt := fun ⟨p, vs, f, h1, h2, h3, h4⟩ a ha us z => by
   subst h4
   rcases List.mem_cons.mp ha with rfl | ha
   · rw [h2] at z; cases z; rfl
   · exact OwL.nt h3.2 a ha us z
 lk := fun e n ⟨p, vs, f, h1, h2, h3, h4⟩ => by
   subst h4
   exact ⟨p, vs, f, h1, by rw [n p List.mem_cons_self]; exact h2, ⟨h3.1, OwL.lk e (fun a ha => n a (List.mem_cons_of_mem _ ha)) h3.2⟩, rfl⟩
 vw := vDc (os.map fun q => (q.1, q.2.vw))
 sub := fun e n ⟨p, vs, f, h1, h2, h3, h4⟩ => by
   subst h4
   refine ⟨p, vs, h1, .inl (by rw [n p List.mem_cons_self]; exact h2), vwF_of (by rw [h3.1, List.map_map]; rfl) ?_⟩
   have := OwL.sub e (fun a ha => n a (List.mem_cons_of_mem _ ha)) h3.2
   rw [List.map_map] at this ⊢
   exact this
def oDt (os : List (List Key × Ow)) : Ow where
 rel := fun B H v fp => ∃ p vs f, v = .ref p ∧ H p = some (.dT vs) ∧ OwF B H vs os f ∧ fp = p :: f
 mono := fun e n ⟨p, vs, f, h1, h2, h3, h4⟩ => by
   subst h4
   exact ⟨p, vs, f, h1, by rw [n p List.mem_cons_self]; exact h2, ⟨h3.1, OwL.mono e (fun a ha => n a (List.mem_cons_of_mem _ ha)) h3.2⟩, rfl⟩
 al := fun ⟨p, vs, f, h1, h2, h3, h4⟩ a ha => by
   subst h4
   rcases List.mem_cons.mp ha with rfl | ha
   · rw [h2]; rfl
   · exact OwL.al h3.2 a ha
 nt := fun ⟨p, vs, f, h1, h2, h3, h4⟩ a ha us z => by
   subst h4
   rcases List.mem_cons.mp ha with rfl | ha
   · rw [h2] at z; cases z; rfl
   · exact OwL.nt h3.2 a ha us z
 lk := fun e n ⟨p, vs, f, h1, h2, h3, h4⟩ => by
   subst h4
   exact ⟨p, vs, f, h1, by rw [n p List.mem_cons_self]; exact h2, ⟨h3.1, OwL.lk e (fun a ha => n a (List.mem_cons_of_mem _ ha)) h3.2⟩, rfl⟩
 vw := vDt (os.map fun q => (q.1, q.2.vw))
 sub := fun e n ⟨p, vs, f, h1, h2, h3, h4⟩ => by
   subst h4
   refine ⟨p, vs, h1, .inl (by rw [n p List.mem_cons_self]; exact h2), vwF_of (by rw [h3.1, List.map_map]; rfl) ?_⟩
   have := OwL.sub e (fun a ha => n a (List.mem_cons_of_mem _ ha)) h3.2
   rw [List.map_map] at this ⊢
   exact this
abbrev oL {α : Type} (τ : α → Ow) (xs : List α) : Ow := oLs C (xs.map τ)
end
def EnvO (B H : Hp) : List (Option V) → List (Option Ow) → List Addr → Prop
 | [], [], fp => fp = []
 | _ :: σ, none :: Γ, fp => EnvO B H σ Γ fp
 | v :: σ, some o :: Γ, fp => ∃ u f g, v = some u ∧ fp = f ++ g ∧ o.rel B H u f ∧ EnvO B H σ Γ g
 | _, _, _ => False
theorem EnvO.mono {B B' H H' : Hp} (e : Same B B') : ∀ {σ : List (Option V)} {Γ : List (Option Ow)} {fp : List Addr}, (∀ a ∈ fp, H' a = H a) → EnvO B H σ Γ fp → EnvO B' H' σ Γ fp
 | [], [], _, _, h => h
 | _ :: σ, none :: Γ, fp, n, h => EnvO.mono (σ := σ) (Γ := Γ) e n h
 | v :: σ, some o :: Γ, fp, n, ⟨u, f, g, h0, h1, h2, h3⟩ => by
   subst h1
   exact ⟨u, f, g, h0, rfl, o.mono e (fun a ha => n a (List.mem_append_left _ ha)) h2, EnvO.mono e (fun a ha => n a (List.mem_append_right _ ha)) h3⟩
 | [], _ :: _, _, _, h => by cases h
 | _ :: _, [], _, _, h => by cases h
theorem EnvO.lk {B B' H H' : Hp} (e : Lk B B') : ∀ {σ : List (Option V)} {Γ : List (Option Ow)} {fp : List Addr}, (∀ a ∈ fp, H' a = H a) → EnvO B H σ Γ fp → EnvO B' H' σ Γ fp
 | [], [], _, _, h => h
 | _ :: σ, none :: Γ, fp, n, h => EnvO.lk (σ := σ) (Γ := Γ) e n h
 | v :: σ, some o :: Γ, fp, n, ⟨u, f, g, h0, h1, h2, h3⟩ => by
   subst h1
   exact ⟨u, f, g, h0, rfl, o.lk e (fun a ha => n a (List.mem_append_left _ ha)) h2, EnvO.lk e (fun a ha => n a (List.mem_append_right _ ha)) h3⟩
 | [], _ :: _, _, _, h => by cases h
 | _ :: _, [], _, _, h => by cases h
theorem EnvO.al {B H : Hp} : ∀ {σ : List (Option V)} {Γ : List (Option Ow)} {fp : List Addr}, EnvO B H σ Γ fp → ∀ a ∈ fp, (H a).isSome = true
 | [], [], _, h, a, ha => by rw [show _ = [] from h] at ha; cases ha
 | _ :: σ, none :: Γ, fp, h, a, ha => EnvO.al (σ := σ) (Γ := Γ) h a ha
 | v :: σ, some o :: Γ, fp, ⟨u, f, g, h0, h1, h2, h3⟩, a, ha => by
   subst h1
   exact (List.mem_append.mp ha).elim (o.al h2 a) (EnvO.al h3 a)
 | [], _ :: _, _, h, _, _ => by cases h
 | _ :: _, [], _, h, _, _ => by cases h
theorem EnvO.nt {B H : Hp} : ∀ {σ : List (Option V)} {Γ : List (Option Ow)} {fp : List Addr}, EnvO B H σ Γ fp → ∀ a ∈ fp, nTup H a
 | [], [], _, h, a, ha => by rw [show _ = [] from h] at ha; cases ha
 | _ :: σ, none :: Γ, fp, h, a, ha => EnvO.nt (σ := σ) (Γ := Γ) h a ha
 | v :: σ, some o :: Γ, fp, ⟨u, f, g, h0, h1, h2, h3⟩, a, ha => by
   subst h1
   exact (List.mem_append.mp ha).elim (o.nt h2 a) (EnvO.nt h3 a)
 | [], _ :: _, _, h, _, _ => by cases h
 | _ :: _, [], _, h, _, _ => by cases h
theorem EnvO.len {B H : Hp} : ∀ {σ : List (Option V)} {Γ : List (Option Ow)} {fp : List Addr}, EnvO B H σ Γ fp → σ.length = Γ.length
 | [], [], _, h => rfl
 | _ :: σ, none :: Γ, fp, h => by rw [List.length_cons, List.length_cons, EnvO.len (σ := σ) (Γ := Γ) h]
 | v :: σ, some o :: Γ, fp, ⟨u, f, g, h0, h1, h2, h3⟩ => by rw [List.length_cons, List.length_cons, EnvO.len h3]
 | [], _ :: _, _, h => by cases h
 | _ :: _, [], _, h => by cases h
theorem EnvO.get {B H : Hp} : ∀ {σ : List (Option V)} {Γ : List (Option Ow)} {fp : List Addr} {i : Nat} {o : Ow}, EnvO B H σ Γ fp → Γ[i]? = some (some o) → ∃ v f, σ[i]? = some (some v) ∧ o.rel B H v f ∧ ∀ a ∈ f, a ∈ fp
 | [], [], _, _, _, _, e => by simp at e
 | _ :: σ, none :: Γ, fp, 0, o, h, e => by simp at e
 | _ :: σ, none :: Γ, fp, i + 1, o, h, e => by
   simp only [List.getElem?_cons_succ] at e ⊢
   exact EnvO.get (σ := σ) (Γ := Γ) h e
 | v :: σ, some p :: Γ, fp, 0, o, ⟨u, f, g, h0, h1, h2, h3⟩, e => by
   simp only [List.getElem?_cons_zero, Option.some.injEq] at e ⊢
   subst e h0 h1
   exact ⟨u, f, rfl, h2, fun a ha => List.mem_append_left _ ha⟩
 | v :: σ, some p :: Γ, fp, i + 1, o, ⟨u, f, g, h0, h1, h2, h3⟩, e => by
   simp only [List.getElem?_cons_succ] at e ⊢
   subst h1
   obtain ⟨v', f', q1, q2, q3⟩ := EnvO.get h3 e
   exact ⟨v', f', q1, q2, fun a ha => List.mem_append_right _ (q3 a ha)⟩
 | [], _ :: _, _, _, _, h, _ => by cases h
 | _ :: _, [], _, _, _, h, _ => by cases h
end Q
namespace Q
open PySem L2 PySem.Spec
structure Ex where
 c : Nat
 fs : List (Str × V) := []
inductive Res (α : Type) where
 | ok (x : α) | exc (e : Ex) | bad
namespace Res
def bind {α β : Type} (m : Res α) (k : α → Res β) : Res β := match m with
 | .ok x => k x
 | .exc e => .exc e
 | .bad => .bad
instance : Monad Res where
 pure := .ok
 bind := bind
@[simp] theorem ok_bind {α β : Type} (x : α) (k : α → Res β) : (Res.ok x >>= k) = k x := rfl
@[simp] theorem exc_bind {α β : Type} (e : Ex) (k : α → Res β) : (Res.exc e >>= k) = .exc e := rfl
@[simp] theorem bad_bind {α β : Type} (k : α → Res β) : (Res.bad >>= k) = .bad := rfl
@[simp] theorem pure_eq {α : Type} (x : α) : (pure x : Res α) = .ok x := rfl
end Res
def gd {α : Type} (b : Bool) (m : Res α) : Res α := match b with
 | true => m
 | false => .bad
@[simp] theorem gd_true {α : Type} (m : Res α) : gd true m = m := rfl
def Rz {α : Type} (m : Res α) (P : α → Prop) (E : Ex → Prop) : Prop := match m with
 | .ok x => P x
 | .exc e => E e
 | .bad => False
theorem rz_bind {α β : Type} {m : Res α} {k : α → Res β} {P : β → Prop} {E : Ex → Prop} : Rz (m >>= k) P E ↔ Rz m (fun x => Rz (k x) P E) E := by
 cases m <;> exact Iff.rfl
theorem rz_imp {α : Type} {m : Res α} {P P' : α → Prop} {E E' : Ex → Prop} (h : Rz m P E) (i : ∀ x, P x → P' x) (j : ∀ e, E e → E' e) : Rz m P' E' := by
 cases m with
 | ok x => exact i x h
 | exc e => exact j e h
 | bad => exact h
def encL (f : Str) (vs : List V) : List (Str × V) := (f, .non) :: vs.map fun v => (f, v)
def nonE : List (Str × V) → Bool
 | (_, .non) :: _ => false
 | _ => true
def ExR (C : Kc) (x : Ex) (cls : Value) (dx : Option Addr) (H H' : Hp) : Prop := cls = .ref (C.cl x.c) ∧ ((x.fs = [] ∧ dx = none) ∨ (∃ d, dx = some d ∧ H' d = some (.xd x.fs) ∧ H d = none ∧ nonE x.fs = true) ∨ ∃ d p f vs, dx = some d ∧ x.fs = encL f vs ∧ H' d = some (.xd [(f, .ref p)]) ∧ H d = none ∧ H' p = some (.lst vs) ∧ H p = none)
theorem none_back {H H1 : Hp} (s : Same H H1) {a : Addr} (e : H1 a = none) : H a = none := by
 cases q : H a with
 | none => rfl
 | some u => rw [s a u q] at e; cases e
theorem ExR.back {C : Kc} {x : Ex} {cls : Value} {dx : Option Addr} {H H1 H' : Hp} (s : Same H H1) (r : ExR C x cls dx H1 H') : ExR C x cls dx H H' := ⟨r.1, r.2.imp_right fun h => h.imp (fun ⟨d, h1, h2, h3, h4⟩ => ⟨d, h1, h2, none_back s h3, h4⟩) fun ⟨d, p, f, vs, h1, h2, h3, h4, h5, h6⟩ => ⟨d, p, f, vs, h1, h2, h3, none_back s h4, h5, none_back s h6⟩⟩
abbrev Cx0 := List (Option Ow)
def NewB (B H B' : Hp) : Prop := ∀ a o, B' a = some o → B a = some o ∨ H a = none ∨ (H a = some o ∧ tupB o = true)
theorem newB_refl (B H : Hp) : NewB B H B := fun _ _ e => .inl e
theorem newB_trans {B H B1 H1 B2 : Hp} (s : Same H H1) (a : NewB B H B1) (b : NewB B1 H1 B2) : NewB B H B2 := fun x o e => by
 rcases b x o e with h | h | ⟨h, t⟩
 · exact a x o h
 · right; left
   cases q : H x with
   | none => rfl
   | some u => rw [s x u q] at h; cases h
 · right
   cases q : H x with
   | none => exact .inl rfl
   | some u =>
     rw [s x u q] at h
     cases h
     exact .inr ⟨rfl, t⟩
structure EnvC (Γ : Cx0) (σ : L2.St) (B H : Hp) : Prop where
 get : ∀ (i : Nat) (o : Ow), Γ[i]? = some (some o) → ∃ v f, σ[i]? = some (some v) ∧ o.rel B H v f
 sub : Same B H
 len : σ.length = Γ.length
theorem EnvC.up {Γ : Cx0} {σ : L2.St} {B H B' H' : Hp} (h : EnvC Γ σ B H) (b : Same B B') (g : Same H H') (s : Same B' H') : EnvC Γ σ B' H' where
 get := fun i o e => by
   obtain ⟨v, f, h1, h2⟩ := h.get i o e
   refine ⟨v, f, h1, o.mono b (fun a ha => ?_) h2⟩
   obtain ⟨u, hu⟩ := Option.isSome_iff_exists.mp (o.al h2 a ha)
   rw [hu, g a u hu]
 sub := s
 len := h.len

structure Gon (B H B' H' : Hp) : Prop where
 b : Same B B'
 h : Same H H'
 s : Same B' H'
 n : NewB B H B'
theorem Gon.refl {B H : Hp} (s : Same B H) : Gon B H B H := ⟨sm_refl _, sm_refl _, s, newB_refl _ _⟩
theorem Gon.trans {B H B1 H1 B2 H2 : Hp} (a : Gon B H B1 H1) (b : Gon B1 H1 B2 H2) : Gon B H B2 H2 := ⟨sm_trans a.b b.b, sm_trans a.h b.h, b.s, newB_trans a.h a.n b.n⟩
theorem Gon.up {B H H' : Hp} (s : Same B H) (g : Same H H') : Gon B H B H' := ⟨sm_refl _, g, sm_trans s g, newB_refl _ _⟩
abbrev PR (α : Type) := α → Hp → Hp → Hp → Hp → V → Prop
abbrev pB {α : Type} (τ : α → Vw) : PR α := fun x _ _ _ H' v => (τ x).rel H' v
abbrev pO {α : Type} (τ : α → Ow) : PR α := fun x _ H B' H' v => ∃ fp, (τ x).rel B' H' v fp ∧ fp.Nodup ∧ ∀ a ∈ fp, H a = none ∧ B' a = none
abbrev pP {α : Type} (τ : α → Ow) : PR α := fun x _ _ B' H' v => ∃ fp, (τ x).rel B' H' v fp
def ExK (C : Kc) (W : WX) (σ : L2.St) (H : Hp) (e : Ex) : Prop := ∀ cls d H', Same H H' → ExR C e cls d H H' → W cls d σ H'
theorem ExK.up {C : Kc} {W : WX} {σ : L2.St} {H H' : Hp} {e : Ex} (h : ExK C W σ H e) (g : Same H H') : ExK C W σ H' e := fun cls d H2 s r => h cls d H2 (sm_trans g s) (r.back g)
def Ev {α : Type} (T : Tb) (C : Kc) (P : PR α) (Γ : Cx0) (e : E) (m : Res α) : Prop :=
 ∀ (W : WX) (σ : L2.St) (B H : Hp) (Q : VK), EnvC Γ σ B H → Rz m (fun x => ∀ v B' H', Gon B H B' H' → P x B H B' H' v → Q v H') (ExK C W σ H) → (rd T C e W).E σ H Q
abbrev EvB {α : Type} (T : Tb) (C : Kc) (Γ : Cx0) (e : E) (τ : α → Vw) (m : Res α) : Prop := Ev T C (pB τ) Γ e m
abbrev EvO {α : Type} (T : Tb) (C : Kc) (Γ : Cx0) (e : E) (τ : α → Ow) (m : Res α) : Prop := Ev T C (pO τ) Γ e m
abbrev EvP {α : Type} (T : Tb) (C : Kc) (Γ : Cx0) (e : E) (τ : α → Ow) (m : Res α) : Prop := Ev T C (pP τ) Γ e m
def EvT (T : Tb) (C : Kc) (Γ : Cx0) (e : E) (m : Res Bool) : Prop :=
 ∀ (W : WX) (σ : L2.St) (B H : Hp) (Q : Bool → Hp → Prop), EnvC Γ σ B H → Rz m (fun x => ∀ B' H', Gon B H B' H' → Q x H') (ExK C W σ H) → (rd T C e W).T σ H Q
section
variable {T : Tb} {C : Kc} {Γ : Cx0} {α β γ δ : Type}
theorem Ev.imp {P P' : PR α} {e : E} {m : Res α} (h : Ev T C P Γ e m) (i : ∀ x B H B' H' v, Same B' H' → P x B H B' H' v → P' x B H B' H' v) : Ev T C P' Γ e m :=
 fun W σ B H Q g z => h W σ B H Q g (rz_imp z (fun x q v B' H' o p => q v B' H' o (i x B H B' H' v o.s p)) fun _ z => z)
theorem ev_seen {τ : α → Ow} {e : E} {m : Res α} (h : EvP T C Γ e τ m) : EvB T C Γ e (fun x => (τ x).vw) m := h.imp fun x B H B' H' v s ⟨fp, r⟩ => (τ x).sub s (fun a ha => rfl) r
theorem ev_peek {τ : α → Ow} {e : E} {m : Res α} (h : EvO T C Γ e τ m) : EvP T C Γ e τ m := h.imp fun x B H B' H' v s ⟨fp, r, _⟩ => ⟨fp, r⟩
theorem ev_take {τ : α → Vw} {e : E} {m : Res α} (h : EvP T C Γ e (fun x => oV (τ x)) m) : EvO T C Γ e (fun x => oV (τ x)) m := h.imp fun x B H B' H' v s ⟨fp, r⟩ => ⟨fp, r, by rw [r.2]; exact List.nodup_nil, by rw [r.2]; exact fun _ z => nomatch z⟩
class Flat (τ : α → Vw) : Prop where
 fl : ∀ x B B' v, (τ x).rel B v → (τ x).rel B' v
instance : Flat vInt := ⟨fun _ _ _ _ h => h⟩
instance : Flat vBl := ⟨fun _ _ _ _ h => h⟩
instance : Flat vStr := ⟨fun _ _ _ _ h => h⟩
instance : Flat vNon := ⟨fun _ _ _ _ h => h⟩
instance {τ : α → Vw} [i : Flat τ] : Flat (vOpt τ) := ⟨fun x B B' v h => match x, h with
 | none, h => h
 | some x, h => i.fl x B B' v h⟩
theorem ev_flat {τ : α → Vw} [i : Flat τ] {e : E} {m : Res α} (h : EvB T C Γ e τ m) : EvO T C Γ e (fun x => oV (τ x)) m := h.imp fun x B H B' H' v s r => ⟨[], ⟨i.fl x _ _ v r, rfl⟩, List.nodup_nil, fun _ z => nomatch z⟩
theorem evP_v {τ : α → Ow} {x : α} {i : Nat} (h : Γ[i]? = some (some (τ x))) : EvP T C Γ (.var i) τ (.ok x) := fun W σ B H Q g z => by
 obtain ⟨v, f, h1, h2⟩ := g.get i _ h
 exact ⟨v, h1, z v B H (.refl g.sub) ⟨f, h2⟩⟩
theorem evO_v {τ : α → Vw} {x : α} {i : Nat} (h : Γ[i]? = some (some (oV (τ x)))) : EvO T C Γ (.var i) (fun x => oV (τ x)) (.ok x) := ev_take (evP_v (τ := fun x => oV (τ x)) h)
theorem evB_v {τ : α → Ow} {x : α} {i : Nat} (h : Γ[i]? = some (some (τ x))) : EvB T C Γ (.var i) (fun x => (τ x).vw) (.ok x) := ev_seen (evP_v h)
theorem evB_vV {τ : α → Vw} {x : α} {i : Nat} (h : Γ[i]? = some (some (oV (τ x)))) : EvB T C Γ (.var i) τ (.ok x) := evB_v (τ := fun x => oV (τ x)) h
theorem ev_int (n : Int) : EvB T C Γ (.int n) vInt (.ok n) := fun W σ B H Q g z => z _ B H (.refl g.sub) rfl
theorem ev_bl (n : Bool) : EvB T C Γ (.bl n) vBl (.ok n) := fun W σ B H Q g z => z _ B H (.refl g.sub) rfl
theorem ev_non : EvB T C Γ .non vNon (.ok ()) := fun W σ B H Q g z => z _ B H (.refl g.sub) rfl
def NoX (m : Res α) : Prop := ∀ e, m ≠ .exc e
theorem nox_ok {x : α} : NoX (Res.ok x) := fun _ z => by cases z
theorem nox_gd {b : Bool} {m : Res α} (h : NoX m) : NoX (gd b m) := by
 cases b with
 | true => exact h
 | false => exact fun _ z => by cases z
def Say {γ : Type} (P : PR γ) (B H : Hp) (m : Res γ) (Q : VK) : Prop := Rz m (fun z => ∀ u B' H', Gon B H B' H' → P z B H B' H' u → Q u H') fun _ => False
theorem say_gd {P : PR γ} {B H : Hp} {b : Bool} {m : Res γ} {Q : VK} (h : Say P B H (gd b m) Q) : b = true ∧ Say P B H m Q := by
 cases b with
 | true => exact ⟨rfl, h⟩
 | false => exact h.elim
structure Op2 (r : R2) (τ : α → Vw) (τ' : β → Vw) (P : PR γ) (op : α → β → Res γ) : Prop where
 no : ∀ x y, NoX (op x y)
 run : ∀ x y (B H : Hp) v w Q, Same B H → (τ x).rel H v → (τ' y).rel H w → Say P B H (op x y) Q → r v w H Q
structure Op1 (r : V → Hp → VK → Prop) (τ : α → Vw) (P : PR γ) (op : α → Res γ) : Prop where
 no : ∀ x, NoX (op x)
 run : ∀ x (B H : Hp) v Q, Same B H → (τ x).rel H v → Say P B H (op x) Q → r v H Q
class Back (P : PR α) : Prop where
 bk : ∀ x B H B1 H1 B2 H2 v, Gon B H B1 H1 → P x B1 H1 B2 H2 v → P x B H B2 H2 v
instance {τ : α → Vw} : Back (pB τ) := ⟨fun _ _ _ _ _ _ _ _ _ p => p⟩
instance {τ : α → Ow} : Back (pP τ) := ⟨fun _ _ _ _ _ _ _ _ _ p => p⟩
instance {τ : α → Ow} : Back (pO τ) := ⟨fun _ _ _ _ _ _ _ _ g ⟨fp, r, n, f⟩ => ⟨fp, r, n, fun a ha => ⟨none_back g.h (f a ha).1, (f a ha).2⟩⟩⟩
theorem say_back {P : PR γ} [Back P] {B H B1 H1 : Hp} {m : Res γ} {Q : VK} {E : Ex → Prop} (no : NoX m) (g : Gon B H B1 H1) (z : Rz m (fun x => ∀ v B' H', Gon B H B' H' → P x B H B' H' v → Q v H') E) : Say P B1 H1 m Q := by
 cases m with
 | ok c => exact fun u B3 H3 g3 p3 => z u B3 H3 (g.trans g3) (Back.bk c B H B1 H1 B3 H3 u g p3)
 | exc e => exact absurd rfl (no e)
 | bad => exact z
theorem ev_op2 {a b : E} {e : E} {τ : α → Vw} {τ' : β → Vw} {P : PR γ} [Back P] {op : α → β → Res γ} {ma : Res α} {mb : Res β} {r : R2} (he : ∀ W, (rd T C e W).E = tOp r (rd T C a W).E (rd T C b W).E) (ha : EvB T C Γ a τ ma) (hb : EvB T C Γ b τ' mb) (ho : Op2 r τ τ' P op) :
   Ev T C P Γ e (ma >>= fun x => mb >>= fun y => op x y) := fun W σ B H Q g z => by
 rw [he]
 refine ha W σ B H _ g (rz_imp (rz_bind.mp z) (fun x z v B1 H1 g1 p1 => ?_) fun _ z => z)
 refine hb W σ B1 H1 _ (g.up g1.b g1.h g1.s) (rz_imp (rz_bind.mp z) (fun y z w B2 H2 g2 p2 => ?_) fun _ z => z.up g1.h)
 refine ho.run x y B2 H2 v w Q g2.s ((τ x).mono g2.h p1) p2 (say_back (ho.no x y) (g1.trans g2) z)
theorem ev_op1 {a : E} {e : E} {τ : α → Vw} {P : PR γ} [Back P] {op : α → Res γ} {ma : Res α} {r : V → Hp → VK → Prop} (he : ∀ W, (rd T C e W).E = tUn r (rd T C a W).E) (ha : EvB T C Γ a τ ma) (ho : Op1 r τ P op) :
   Ev T C P Γ e (ma >>= fun x => op x) := fun W σ B H Q g z => by
 rw [he]
 refine ha W σ B H _ g (rz_imp (rz_bind.mp z) (fun x z v B1 H1 g1 p1 => ?_) fun _ z => z)
 exact ho.run x B1 H1 v Q g1.s p1 (say_back (ho.no x) g1 z)
theorem ev_blt1 {a : E} {f : Blt} {τ : α → Vw} {P : PR γ} [Back P] {op : α → Res γ} {ma : Res α} (ha : EvB T C Γ a τ ma) (ho : Op1 (fun v H Q => rBlt C.K f [v] H Q) τ P op) : Ev T C P Γ (.blt f (.cons a .nil)) (ma >>= fun x => op x) := fun W σ B H Q g z => by
 show (rd T C a W).E σ H _
 refine ha W σ B H _ g (rz_imp (rz_bind.mp z) (fun x z v B1 H1 g1 p1 => ?_) fun _ z => z)
 exact ho.run x B1 H1 v Q g1.s p1 (say_back (ho.no x) g1 z)
theorem ev_test {e : E} {m : Res Bool} (h : EvB T C Γ e vBl m) (ht : ∀ W, (rd T C e W).T = tB (rd T C e W).E := by intro W; rfl) : EvT T C Γ e m := fun W σ B H Q g z => by
  rw [ht]
  exact h W σ B H _ g (rz_imp z (fun x q v B' H' g1 p => ⟨x, p, q B' H' g1⟩) fun _ z => z)
theorem ev_notT {a : E} {m : Res Bool} (h : EvT T C Γ a m) : EvT T C Γ (.nt a) (m >>= fun b => .ok (!b)) := fun W σ B H Q g z => h W σ B H _ g (rz_bind.mp z)
theorem ev_notB {a : E} {m : Res Bool} (h : EvB T C Γ a vBl m) : EvB T C Γ (.nt a) vBl (m >>= fun b => .ok (!b)) := fun W σ B H Q g z =>
 h W σ B H _ g (rz_imp (rz_bind.mp z) (fun x q v B' H' g1 p => ⟨x, p, q _ B' H' g1 rfl⟩) fun _ z => z)
def EvAT (T : Tb) (C : Kc) (Γ : Cx0) (e : E) (m : Res Bool) : Prop := ∀ (W : WX) (σ : L2.St) (B H : Hp) (Q : Bool → Hp → Prop), EnvC Γ σ B H → Rz m (fun x => ∀ B' H', Gon B H B' H' → Q x H') (ExK C W σ H) → (rd T C e W).A σ H Q
def EvRT (T : Tb) (C : Kc) (Γ : Cx0) (e : E) (m : Res Bool) : Prop := ∀ (W : WX) (σ : L2.St) (B H : Hp) (Q : Bool → Hp → Prop), EnvC Γ σ B H → Rz m (fun x => ∀ B' H', Gon B H B' H' → Q x H') (ExK C W σ H) → (rd T C e W).R σ H Q
theorem ev_andT {es : E} {m : Res Bool} (h : EvAT T C Γ es m) : EvT T C Γ (.and es) m := h
theorem ev_orT {es : E} {m : Res Bool} (h : EvRT T C Γ es m) : EvT T C Γ (.or es) m := h
theorem ev_a1 {a : E} {m : Res Bool} (h : EvT T C Γ a m) : EvAT T C Γ (.cons a .nil) m := h
theorem ev_r1 {a : E} {m : Res Bool} (h : EvT T C Γ a m) : EvRT T C Γ (.cons a .nil) m := h
def andR (m n : Res Bool) : Res Bool := m >>= fun b => cond b n (.ok false)
def orR (m n : Res Bool) : Res Bool := m >>= fun b => cond b (.ok true) n
@[simp] theorem andR_t (n : Res Bool) : andR (.ok true) n = n := rfl
@[simp] theorem andR_f (n : Res Bool) : andR (.ok false) n = .ok false := rfl
@[simp] theorem orR_t (n : Res Bool) : orR (.ok true) n = .ok true := rfl
@[simp] theorem orR_f (n : Res Bool) : orR (.ok false) n = n := rfl
theorem ev_a2 {a b es : E} {m n : Res Bool} (h : EvT T C Γ a m) (h2 : EvAT T C Γ (.cons b es) n) : EvAT T C Γ (.cons a (.cons b es)) (andR m n) := fun W σ B H Q g z => by
 show (tAnd (rd T C a W).T (rd T C (.cons b es) W).A) σ H Q
 refine h W σ B H _ g (rz_imp (rz_bind.mp z) (fun x q B1 H1 g1 => ?_) fun _ z => z)
 cases x with
 | true => exact h2 W σ B1 H1 Q (g.up g1.b g1.h g1.s) (rz_imp q (fun x q B2 H2 g2 => q B2 H2 (g1.trans g2)) fun _ z => z.up g1.h)
 | false => exact q B1 H1 g1
theorem ev_r2 {a b es : E} {m n : Res Bool} (h : EvT T C Γ a m) (h2 : EvRT T C Γ (.cons b es) n) : EvRT T C Γ (.cons a (.cons b es)) (orR m n) := fun W σ B H Q g z => by
 show (tOr (rd T C a W).T (rd T C (.cons b es) W).R) σ H Q
 refine h W σ B H _ g (rz_imp (rz_bind.mp z) (fun x q B1 H1 g1 => ?_) fun _ z => z)
 cases x with
 | false => exact h2 W σ B1 H1 Q (g.up g1.b g1.h g1.s) (rz_imp q (fun x q B2 H2 g2 => q B2 H2 (g1.trans g2)) fun _ z => z.up g1.h)
 | true => exact q B1 H1 g1
def EvAV (T : Tb) (C : Kc) (Γ : Cx0) (e : E) (m : Res Bool) : Prop := ∀ (W : WX) (σ : L2.St) (B H : Hp) (Q : VK), EnvC Γ σ B H → Rz m (fun x => ∀ B' H', Gon B H B' H' → Q (.bl x) H') (ExK C W σ H) → (rd T C e W).AV σ H Q
theorem ev_andV {es : E} {m : Res Bool} (h : EvAV T C Γ es m) : EvB T C Γ (.and es) vBl m := fun W σ B H Q g z => h W σ B H Q g (rz_imp z (fun x q B' H' g1 => q _ B' H' g1 rfl) fun _ z => z)
theorem ev_av1 {a : E} {m : Res Bool} (h : EvB T C Γ a vBl m) : EvAV T C Γ (.cons a .nil) m := fun W σ B H Q g z => h W σ B H Q g (rz_imp z (fun x q v B' H' g1 p => by cases p; exact q B' H' g1) fun _ z => z)
theorem ev_av2 {a b es : E} {m n : Res Bool} (h : EvB T C Γ a vBl m) (h2 : EvAV T C Γ (.cons b es) n) : EvAV T C Γ (.cons a (.cons b es)) (andR m n) := fun W σ B H Q g z => by
 show (tAndV (rd T C a W).E (rd T C (.cons b es) W).AV) σ H Q
 refine h W σ B H _ g (rz_imp (rz_bind.mp z) (fun x q v B1 H1 g1 p => ⟨x, p, ?_⟩) fun _ z => z)
 cases x with
 | true => exact h2 W σ B1 H1 Q (g.up g1.b g1.h g1.s) (rz_imp q (fun x q B2 H2 g2 => q B2 H2 (g1.trans g2)) fun _ z => z.up g1.h)
 | false => exact q B1 H1 g1
def iteR {δ : Type} (m : Res Bool) (a b : Res δ) : Res δ := m >>= fun c => cond c a b
@[simp] theorem iteR_t {δ : Type} (a b : Res δ) : iteR (.ok true) a b = a := rfl
@[simp] theorem iteR_f {δ : Type} (a b : Res δ) : iteR (.ok false) a b = b := rfl
end
end Q
namespace Q
open PySem L2 PySem.Spec
section
variable {T : Tb} {C : Kc} {Γ : Cx0} {α β γ δ : Type}
theorem say_ok {P : PR γ} {B H : Hp} {x : γ} {Q : VK} (s : Same B H) (h : Say P B H (.ok x) Q) {u : V} (p : P x B H B H u) : Q u H := h u B H (.refl s) p
theorem op2_i0 {r : R2} {g : Int → Int → V} {τ : γ → Vw} {f : Int → Int → γ} (hr : ∀ x y H Q, rI0 g x y H Q → r x y H Q) (hg : ∀ i j H, (τ (f i j)).rel H (g i j)) : Op2 r vInt vInt (pB τ) fun i j => .ok (f i j) where
 no := fun _ _ => nox_ok
 run := fun i j B H v w Q s h1 h2 q => hr _ _ _ _ ⟨i, j, h1, h2, say_ok s q (hg i j H)⟩
theorem op2_i {r : R2} {c : Int → Int → Bool} {g : Int → Int → V} {P : Int → Int → Prop} {τ : γ → Vw} {f : Int → Int → γ} (hr : ∀ x y H Q, rI P g x y H Q → r x y H Q) (hc : ∀ i j, c i j = true → P i j) (hg : ∀ i j H, (τ (f i j)).rel H (g i j)) : Op2 r vInt vInt (pB τ) fun i j => gd (c i j) (.ok (f i j)) where
 no := fun _ _ => nox_gd nox_ok
 run := fun i j B H v w Q s h1 h2 q => hr _ _ _ _ ⟨i, j, h1, h2, hc i j (say_gd q).1, say_ok s (say_gd q).2 (hg i j H)⟩
theorem op_addI : Op2 (rBin C.K .Add) vInt vInt (pB vInt) fun i j => .ok (i + j) := op2_i0 (g := fun i j => .int (i + j)) (fun _ _ _ _ h => .inl h) fun _ _ _ => rfl
theorem op_subI : Op2 (rBin C.K .Sub) vInt vInt (pB vInt) fun i j => .ok (i - j) := op2_i0 (g := fun i j => .int (i - j)) (fun _ _ _ _ h => h) fun _ _ _ => rfl
def mulB (i j : Int) : Bool := decide ((Builtin.Int.intBits i : Int) + (Builtin.Int.intBits j : Int) ≤ 134217728)
theorem op_mulI : Op2 (rBin C.K .Mult) vInt vInt (pB vInt) fun i j => gd (mulB i j) (.ok (i * j)) := op2_i (g := fun i j => .int (i * j)) (fun _ _ _ _ h => .inl h) (fun i j h => by unfold CMulX; exact of_decide_eq_true h) fun _ _ _ => rfl
theorem op_divI : Op2 (rBin C.K .FloorDiv) vInt vInt (pB vInt) fun i j => gd (divOk j) (.ok (i.fdiv j)) := op2_i (g := fun i j => .int (i.fdiv j)) (fun _ _ _ _ h => h) (fun _ _ h => h) fun _ _ _ => rfl
theorem op_modI : Op2 (rBin C.K .Mod) vInt vInt (pB vInt) fun i j => gd (!decide (j = 0)) (.ok (i.fmod j)) := op2_i (g := fun i j => .int (i.fmod j)) (fun _ _ _ _ h => h) (fun _ _ h => by simpa using h) fun _ _ _ => rfl
def powB (i j : Int) : Bool := decide (0 ≤ j) && decide (j ≤ 1000000) && decide (i.natAbs < 2 ^ 64)
theorem op_powI : Op2 (rBin C.K .Pow) vInt vInt (pB vInt) fun i j => gd (powB i j) (.ok (i ^ j.toNat)) := op2_i (g := fun i j => .int (i ^ j.toNat)) (fun _ _ _ _ h => h) (fun i j h => by
 unfold powB at h
 simp only [Bool.and_eq_true, decide_eq_true_eq] at h
 exact ⟨h.1.1, h.1.2, h.2⟩) fun _ _ _ => rfl
theorem op_neg : Op1 (rU fun i => .int (-i)) vInt (pB vInt) fun i => .ok (-i) where
 no := fun _ => nox_ok
 run := fun i B H v Q s h1 q => ⟨i, h1, say_ok s q rfl⟩
theorem op_lt : Op2 (rCmp C.K .Lt) vInt vInt (pB vBl) fun i j => .ok (decide (i < j)) := op2_i0 (g := fun i j => .bl (decide (i < j))) (fun _ _ _ _ h => h) fun _ _ _ => rfl
theorem op_le : Op2 (rCmp C.K .LtE) vInt vInt (pB vBl) fun i j => .ok (decide (i ≤ j)) := op2_i0 (g := fun i j => .bl (decide (i ≤ j))) (fun _ _ _ _ h => h) fun _ _ _ => rfl
theorem op_gt : Op2 (rCmp C.K .Gt) vInt vInt (pB vBl) fun i j => .ok (decide (j < i)) := op2_i0 (g := fun i j => .bl (decide (j < i))) (fun _ _ _ _ h => h) fun _ _ _ => rfl
theorem op_ge : Op2 (rCmp C.K .GtE) vInt vInt (pB vBl) fun i j => .ok (decide (j ≤ i)) := op2_i0 (g := fun i j => .bl (decide (j ≤ i))) (fun _ _ _ _ h => h) fun _ _ _ => rfl
class Pd (C : Kc) (τ : α → Vw) (pd : outParam (α → PyData)) : Prop where
 dp : ∀ x H v, (τ x).rel H v → Dp C.K H v (pd x)
instance : Pd C vInt PyData.int := ⟨fun x H v h => by cases h; exact .int x⟩
instance : Pd C vBl PyData.bool := ⟨fun x H v h => by cases h; exact .bl x⟩
instance : Pd C vStr PyData.str := ⟨fun x H v h => by cases h; exact .str x⟩
instance : Pd C vNon (fun _ => PyData.none) := ⟨fun x H v h => by cases h; exact .non⟩
def pdOpt (pd : α → PyData) : Option α → PyData
 | none => .none
 | some x => pd x
instance {τ : α → Vw} {pd : α → PyData} [i : Pd C τ pd] : Pd C (vOpt τ) (pdOpt pd) := ⟨fun x H v h => match x, h with
 | none, h => by cases h; exact .non
 | some x, h => i.dp x H v h⟩
theorem dp_all {H : Hp} {τ : α → Vw} {pd : α → PyData} [i : Pd C τ pd] : ∀ {xs : List α} {vs : List V}, VwL H vs (xs.map τ) → DpAll C.K H vs (xs.map pd)
 | [], _, .nil => .nil
 | x :: xs, _, .cons h l => .cons (i.dp x H _ h) (dp_all l)
instance {τ : α → Vw} {pd : α → PyData} [i : Pd C τ pd] : Pd C (vL C τ) (fun xs => .list (xs.map pd)) := ⟨fun x H v ⟨p, vs, h1, h2, h3⟩ => by subst h1; exact .lst h2 (dp_all h3)⟩
def PdL (C : Kc) (ws : List Vw) (ds : List PyData) : Prop := ∀ H vs, VwL H vs ws → DpAll C.K H vs ds
theorem pdl_nil : PdL C [] [] := fun _ _ h => by cases h; exact .nil
theorem pdl_cons {τ : α → Vw} {pd : α → PyData} [i : Pd C τ pd] {x : α} {ws : List Vw} {ds : List PyData} (h : PdL C ws ds) : PdL C (τ x :: ws) (pd x :: ds) := fun H vs q => by
 cases q with
 | cons a b => exact .cons (i.dp x H _ a) (h H _ b)
theorem pd_tup {ws : α → List Vw} {ds : α → List PyData} (h : ∀ x, PdL C (ws x) (ds x)) : Pd C (fun x => vTup C (ws x)) (fun x => .tuple (ds x)) := ⟨fun x H v ⟨p, vs, h1, h2, h3⟩ => by subst h1; exact .tup (SqT.of h2) (h x H vs h3)⟩
def eqR (d e : PyData) : Res Bool := gd (SeqAt.shaped d && SeqAt.shaped e) (.ok (PyData.eqv d e))
def neR (d e : PyData) : Res Bool := gd (SeqAt.shaped d && SeqAt.shaped e) (.ok (!PyData.eqv d e))
theorem op_eq {τ : α → Vw} {τ' : β → Vw} {pd : α → PyData} {pd' : β → PyData} [i : Pd C τ pd] [j : Pd C τ' pd'] : Op2 (rCmp C.K .Eq) τ τ' (pB vBl) fun x y => eqR (pd x) (pd' y) where
 no := fun _ _ => nox_gd nox_ok
 run := fun x y B H v w Q s h1 h2 q => by
   obtain ⟨q1, q2⟩ := say_gd q
   simp only [Bool.and_eq_true] at q1
   exact .inl ⟨_, _, i.dp x H v h1, j.dp y H w h2, q1.1, q1.2, say_ok s q2 rfl⟩
theorem op_ne {τ : α → Vw} {τ' : β → Vw} {pd : α → PyData} {pd' : β → PyData} [i : Pd C τ pd] [j : Pd C τ' pd'] : Op2 (rCmp C.K .NotEq) τ τ' (pB vBl) fun x y => neR (pd x) (pd' y) where
 no := fun _ _ => nox_gd nox_ok
 run := fun x y B H v w Q s h1 h2 q => by
   obtain ⟨q1, q2⟩ := say_gd q
   simp only [Bool.and_eq_true] at q1
   exact .inl ⟨_, _, i.dp x H v h1, j.dp y H w h2, q1.1, q1.2, say_ok s q2 rfl⟩
theorem eqR_int (i j : Int) : eqR (.int i) (.int j) = .ok (decide (i = j)) := by
 show gd true _ = _
 rw [gd_true]
 show Res.ok (i == j) = _
 by_cases h : i = j <;> simp [h]
theorem neR_int (i j : Int) : neR (.int i) (.int j) = .ok (!decide (i = j)) := by
 show gd true _ = _
 rw [gd_true]
 show Res.ok (!(i == j)) = _
 by_cases h : i = j <;> simp [h]
theorem op_eqI : Op2 (rCmp C.K .Eq) vInt vInt (pB vBl) fun x y => .ok (decide (x = y)) := by
 have := op_eq (C := C) (τ := vInt) (τ' := vInt)
 simp only [eqR_int] at this
 exact this
theorem op_neI : Op2 (rCmp C.K .NotEq) vInt vInt (pB vBl) fun x y => .ok (!decide (x = y)) := by
 have := op_ne (C := C) (τ := vInt) (τ' := vInt)
 simp only [neR_int] at this
 exact this
class NN (τ : α → Vw) : Prop where
 nn : ∀ x H v, (τ x).rel H v → v ≠ .non
instance : NN vInt := ⟨fun x H v h z => by cases h; cases z⟩
instance : NN vBl := ⟨fun x H v h z => by cases h; cases z⟩
instance : NN vStr := ⟨fun x H v h z => by cases h; cases z⟩
instance {ws : α → List Vw} : NN (fun x => vTup C (ws x)) := ⟨fun x H v ⟨p, vs, h1, _⟩ z => by rw [h1] at z; cases z⟩
instance {ws : α → List Vw} : NN (fun x => vLs C (ws x)) := ⟨fun x H v ⟨p, vs, h1, _⟩ z => by rw [h1] at z; cases z⟩
instance {c : Nat} {ws : α → List (Str × Vw)} : NN (fun x => vIn C c (ws x)) := ⟨fun x H v ⟨p, dx, vs, h1, _⟩ z => by rw [h1] at z; cases z⟩
theorem opt_non {τ : α → Vw} [i : NN τ] {x : Option α} {H : Hp} {v : V} (h : (vOpt τ x).rel H v) : decide (v = .non) = x.isNone := by
 cases x with
 | none => cases h; rfl
 | some x => exact decide_eq_false (i.nn x H v h)
theorem op_isN {τ : α → Vw} [i : NN τ] : Op2 (rCmp C.K .IsNot) (vOpt τ) vNon (pB vBl) fun x _ => .ok x.isSome where
 no := fun _ _ => nox_ok
 run := fun x y B H v w Q s h1 h2 q => ⟨h2, say_ok s q (by rw [opt_non h1]; cases x <;> rfl)⟩
def getR (x : Option α) : Res α := match x with
 | some x => .ok x
 | none => .bad
@[simp] theorem getR_some (x : α) : getR (some x) = .ok x := rfl
theorem ev_get {τ : α → Vw} {e : E} {m : Res (Option α)} (h : EvB T C Γ e (vOpt τ) m) : EvB T C Γ e τ (m >>= getR) := fun W σ B H Q g z => h W σ B H Q g (rz_imp (rz_bind.mp z) (fun x q v B' H' g1 p => by
 cases x with
 | none => exact q.elim
 | some x => exact q v B' H' g1 p) fun _ z => z)
theorem vl_ints {H : Hp} : ∀ {xs : List Int} {vs : List V}, VwL H vs (xs.map vInt) → vs = xs.map V.int
 | [], _, .nil => rfl
 | x :: xs, _, .cons h l => by rw [List.map_cons, ← vl_ints l, show _ = V.int x from h]
theorem vl_bls {H : Hp} : ∀ {xs : List Bool} {vs : List V}, VwL H vs (xs.map vBl) → vs = xs.map V.bl
 | [], _, .nil => rfl
 | x :: xs, _, .cons h l => by rw [List.map_cons, ← vl_bls l, show _ = V.bl x from h]
theorem VwL.len {H : Hp} {vs : List V} {ws : List Vw} (h : VwL H vs ws) : vs.length = ws.length := Paired.length h
theorem VwL.nth {H : Hp} : ∀ {vs : List V} {ws : List Vw} {j : Nat} {w : Vw}, VwL H vs ws → ws[j]? = some w → ∃ v, vs[j]? = some v ∧ w.rel H v
 | _, _, _, _, .nil, e => by simp at e
 | _, _, 0, _, .cons h l, e => by
   simp only [List.getElem?_cons_zero, Option.some.injEq] at e
   subst e
   exact ⟨_, rfl, h⟩
 | _, _, j + 1, _, .cons h l, e => by
   simp only [List.getElem?_cons_succ] at e ⊢
   exact VwL.nth l e
theorem VwL.at {H : Hp} {vs : List V} {xs : List α} {τ : α → Vw} {i : Int} {x : α} (h : VwL H vs (xs.map τ)) (e : atI xs i = some x) : ∃ v, atI vs i = some v ∧ (τ x).rel H v := by
 unfold atI at e ⊢
 rw [show vs.length = xs.length by rw [h.len, List.length_map]]
 cases q : ixN xs.length i with
 | none => rw [q] at e; cases e
 | some j =>
   rw [q] at e
   replace e : xs[j]? = some x := e
   show ∃ v, vs[j]? = some v ∧ _
   exact h.nth (by rw [List.getElem?_map, e]; rfl)
def ixR (xs : List α) (i : Int) : Res α := getR (atI xs i)
theorem say_get {P : PR γ} {B H : Hp} {x : Option γ} {Q : VK} (h : Say P B H (getR x) Q) : ∃ y, x = some y ∧ Say P B H (.ok y) Q := by
 cases x with
 | none => exact h.elim
 | some y => exact ⟨y, rfl, h⟩
theorem nox_get {x : Option α} : NoX (getR x) := by
 cases x with
 | none => exact fun _ z => by cases z
 | some y => exact nox_ok
theorem op_ixL {τ : α → Vw} : Op2 (rIxA C.K) (vL C τ) vInt (pB τ) ixR where
 no := fun _ _ => nox_get
 run := fun x y B H v w Q s h1 h2 q => by
   obtain ⟨z, e, q⟩ := say_get q
   obtain ⟨p, vs, rfl, h3, h4⟩ := h1
   cases h2
   obtain ⟨u, e2, r⟩ := h4.at e
   exact .inl (.inl ⟨p, vs, y, u, rfl, rfl, h3, e2, say_ok s q r⟩)
theorem ev_pick {ws : α → List Vw} {τ : γ → Vw} {f : α → γ} {n : Nat} {a : E} {m : Res α} (h : EvB T C Γ a (fun x => vTup C (ws x)) m) (hn : ∀ x, (ws x)[n]? = some (τ (f x))) : EvB T C Γ (.ix a (.int n)) τ (m >>= fun x => .ok (f x)) := fun W σ B H Q g z => by
 refine h W σ B H _ g (rz_imp (rz_bind.mp z) (fun x z v B1 H1 g1 p1 => ?_) fun _ z => z)
 obtain ⟨p, vs, rfl, h3, h4⟩ := p1
 obtain ⟨u, e2, r⟩ := h4.nth (hn x)
 refine .inl (.inr (.inl ⟨p, vs, n, u, rfl, rfl, SqT.of h3, ?_, z u B1 H1 g1 r⟩))
 unfold atI ixN
 have hl : n < vs.length := by
   rcases Nat.lt_or_ge n vs.length with q | q
   · exact q
   · rw [List.getElem?_eq_none q] at e2; cases e2
 rw [if_pos (by omega), if_pos (by omega)]
 exact e2
end
end Q
namespace Q
open PySem L2 PySem.Spec
section
variable {T : Tb} {C : Kc} {Γ : Cx0} {α β γ δ κ κ' : Type}
def EvLV (T : Tb) (C : Kc) (Γ : Cx0) (es : E) (ws : κ → List Vw) (f : κ → Res γ) (m : Res γ) : Prop :=
 ∀ (W : WX) (σ : L2.St) (B H : Hp) (P : γ → Prop) (Q : List V → Hp → Prop), EnvC Γ σ B H → Rz m P (ExK C W σ H) →
   (∀ k vs B' H', Gon B H B' H' → VwL H' vs (ws k) → Rz (f k) P (ExK C W σ H') → Q vs H') → (rd T C es W).L σ H Q
def EvLO (T : Tb) (C : Kc) (Γ : Cx0) (es : E) (os : κ → List Ow) (f : κ → Res γ) (m : Res γ) : Prop :=
 ∀ (W : WX) (σ : L2.St) (B H : Hp) (P : γ → Prop) (Q : List V → Hp → Prop), EnvC Γ σ B H → Rz m P (ExK C W σ H) →
   (∀ k vs B' H' fp, Gon B H B' H' → OwL B' H' vs (os k) fp → fp.Nodup → (∀ a ∈ fp, H a = none ∧ B' a = none) → Rz (f k) P (ExK C W σ H') → Q vs H') → (rd T C es W).L σ H Q
theorem elv_nil {f : Unit → Res γ} : EvLV T C Γ .nil (fun _ => []) f (f ()) := fun W σ B H P Q g z q => q () [] B H (.refl g.sub) .nil z
theorem elv_cons {e es : E} {τ : α → Vw} {ws : κ → List Vw} {f : α × κ → Res γ} {m : Res α} {n : α → Res γ} (h : EvB T C Γ e τ m) (r : ∀ x, EvLV T C Γ es ws (fun k => f (x, k)) (n x)) : EvLV T C Γ (.cons e es) (fun k => τ k.1 :: ws k.2) f (m >>= n) := fun W σ B H P Q g z q => by
 show (rd T C e W).E σ H _
 refine h W σ B H _ g (rz_imp (rz_bind.mp z) (fun x z v B1 H1 g1 p1 => ?_) fun _ z => z)
 refine r x W σ B1 H1 P _ (g.up g1.b g1.h g1.s) (rz_imp z (fun _ z => z) fun _ z => z.up g1.h) fun k vs B2 H2 g2 p2 z2 => ?_
 exact q (x, k) (v :: vs) B2 H2 (g1.trans g2) (.cons ((τ x).mono g2.h p1) p2) z2
theorem elo_nil {f : Unit → Res γ} : EvLO T C Γ .nil (fun _ => []) f (f ()) := fun W σ B H P Q g z q => q () [] B H [] (.refl g.sub) rfl List.nodup_nil (fun _ z => nomatch z) z
theorem ow_up {o : Ow} {B H B' H' : Hp} {v : V} {fp : List Addr} (h : o.rel B H v fp) (b : Same B B') (s : Same H H') : o.rel B' H' v fp := o.mono b (fun a ha => by
 obtain ⟨u, hu⟩ := Option.isSome_iff_exists.mp (o.al h a ha)
 rw [hu, s a u hu]) h
theorem owl_up {os : List Ow} {B H B' H' : Hp} {vs : List V} {fp : List Addr} (h : OwL B H vs os fp) (b : Same B B') (s : Same H H') : OwL B' H' vs os fp := OwL.mono b (fun a ha => by
 obtain ⟨u, hu⟩ := Option.isSome_iff_exists.mp (OwL.al h a ha)
 rw [hu, s a u hu]) h
theorem newB_none {B1 H1 B2 : Hp} (n : NewB B1 H1 B2) {a : Addr} (b : B1 a = none) (h : (H1 a).isSome = true) (t : nTup H1 a) : B2 a = none := by
 cases q : B2 a with
 | none => rfl
 | some u =>
   rcases n a u q with z | z | ⟨z, e⟩
   · rw [b] at z; cases z
   · rw [z] at h; cases h
   · rw [t u z] at e; cases e
theorem elo_cons {e es : E} {τ : α → Ow} {os : κ → List Ow} {f : α × κ → Res γ} {m : Res α} {n : α → Res γ} (h : EvO T C Γ e τ m) (r : ∀ x, EvLO T C Γ es os (fun k => f (x, k)) (n x)) : EvLO T C Γ (.cons e es) (fun k => τ k.1 :: os k.2) f (m >>= n) := fun W σ B H P Q g z q => by
 show (rd T C e W).E σ H _
 refine h W σ B H _ g (rz_imp (rz_bind.mp z) (fun x z v B1 H1 g1 ⟨fp, p1, n1, f1⟩ => ?_) fun _ z => z)
 refine r x W σ B1 H1 P _ (g.up g1.b g1.h g1.s) (rz_imp z (fun _ z => z) fun _ z => z.up g1.h) fun k vs B2 H2 fq g2 p2 n2 f2 z2 => ?_
 have al := (τ x).al p1
 refine q (x, k) (v :: vs) B2 H2 (fp ++ fq) (g1.trans g2) ⟨fp, fq, rfl, ow_up p1 g2.b g2.h, p2⟩ (List.nodup_append.mpr ⟨n1, n2, fun a ha b hb e => ?_⟩) (fun a ha => ?_) z2
 · subst e
   have := al a ha
   rw [(f2 a hb).1] at this; cases this
 · rcases List.mem_append.mp ha with ha | ha
   · exact ⟨(f1 a ha).1, newB_none g2.n (f1 a ha).2 (al a ha) ((τ x).nt p1 a ha)⟩
   · exact ⟨none_back g1.h (f2 a ha).1, (f2 a ha).2⟩
theorem rz_ok {P : γ → Prop} {E : Ex → Prop} {x : γ} (h : Rz (.ok x) P E) : P x := h
theorem owl_new {os : List Ow} {B H : Hp} {vs : List V} {fp : List Addr} {p : Addr} {o : HO} (h : OwL B H vs os fp) (hp : H p = none) : OwL B (upd H p o) vs os fp := owl_up h (sm_refl _) (sm_new hp)
theorem ev_lst {es : E} {os : κ → List Ow} {τ : β → Ow} {g : κ → β} {m : Res β} (h : EvLO T C Γ es os (fun k => .ok (g k)) m) (hl : ∀ k, (os k).length ≤ sizeLine) (hτ : ∀ k, τ (g k) = oLs C (os k)) : EvO T C Γ (.lst es) τ m := fun W σ B H Q c z => by
 show (rd T C es W).L σ H _
 refine h W σ B H _ _ c z fun k vs B1 H1 fp g1 p1 n1 f1 z1 => ?_
 refine ⟨by rw [OwL.len p1]; exact hl k, fun p hp => ?_⟩
 have hpB := none_back g1.s hp
 refine rz_ok z1 (.ref p) B1 _ ⟨g1.b, sm_trans g1.h (sm_new hp), sm_trans g1.s (sm_new hp), g1.n⟩ ⟨p :: fp, ?_, List.nodup_cons.mpr ⟨fun z => ?_, n1⟩, fun a ha => ?_⟩
 · rw [hτ]
   exact ⟨p, vs, fp, rfl, upd_same, owl_new p1 hp, rfl⟩
 · have := OwL.al p1 p z
   rw [hp] at this; cases this
 · rcases List.mem_cons.mp ha with rfl | ha
   · exact ⟨none_back g1.h hp, hpB⟩
   · exact f1 a ha
theorem gon_tup {B H B1 H1 : Hp} {p : Addr} {vs : List V} (g : Gon B H B1 H1) (hp : H1 p = none) : Gon B H (upd B1 p (.tup vs)) (upd H1 p (.tup vs)) := by
 have hB := none_back g.s hp
 refine ⟨sm_trans g.b (sm_new hB), sm_trans g.h (sm_new hp), fun a u e => ?_, fun a u e => ?_⟩
 · by_cases q : a = p
   · subst q
     rw [upd_same] at e ⊢
     exact e
   · rw [upd_ne q] at e ⊢
     exact g.s a u e
 · by_cases q : a = p
   · subst q
     exact .inr (.inl (none_back g.h hp))
   · rw [upd_ne q] at e
     exact g.n a u e
theorem ev_tup {es : E} {os : κ → List Ow} {τ : β → Ow} {g : κ → β} {m : Res β} (h : EvLO T C Γ es os (fun k => .ok (g k)) m) (hl : ∀ k, (os k).length ≤ sizeLine) (hτ : ∀ k, τ (g k) = oTup C (os k)) : EvO T C Γ (.tup es) τ m := fun W σ B H Q c z => by
 show (rd T C es W).L σ H _
 refine h W σ B H _ _ c z fun k vs B1 H1 fp g1 p1 n1 f1 z1 => ?_
 refine ⟨by rw [OwL.len p1]; exact hl k, fun p hp => ?_⟩
 have hpB := none_back g1.s hp
 have nf : ∀ a ∈ fp, a ≠ p := fun a ha e => by
   subst e
   have := OwL.al p1 a ha
   rw [hp] at this; cases this
 refine rz_ok z1 (.ref p) _ _ (gon_tup g1 hp) ⟨fp, ?_, n1, fun a ha => ⟨(f1 a ha).1, by rw [upd_ne (nf a ha)]; exact (f1 a ha).2⟩⟩
 rw [hτ]
 exact ⟨p, vs, rfl, upd_same, OwL.mono (sm_new hpB) (fun a ha => upd_ne (nf a ha)) p1⟩
def frzB (B H : Hp) (fp : List Addr) : Hp := fun a => if a ∈ fp then H a else B a
theorem frzB_in {B H : Hp} {fp : List Addr} {a : Addr} (h : a ∈ fp) : frzB B H fp a = H a := if_pos h
theorem frzB_out {B H : Hp} {fp : List Addr} {a : Addr} (h : a ∉ fp) : frzB B H fp a = B a := if_neg h
theorem frz_b {B H : Hp} {fp : List Addr} (h : ∀ a ∈ fp, B a = none) : Same B (frzB B H fp) := fun a u e => by
 rw [frzB_out fun z => by rw [h a z] at e; cases e]
 exact e
theorem frz_h {B H : Hp} {fp : List Addr} (s : Same B H) : Same (frzB B H fp) H := fun a u e => by
 by_cases h : a ∈ fp
 · rw [frzB_in h] at e; exact e
 · rw [frzB_out h] at e; exact s a u e
theorem ev_frz {e : E} {τ : α → Ow} {m : Res α} (h : EvO T C Γ e τ m) : EvO T C Γ e (fun x => oV (τ x).vw) m := fun W σ B H Q c z => h W σ B H Q c (rz_imp z (fun x q v B' H' g ⟨fp, r, n, f⟩ => by
 refine q v (frzB B' H' fp) H' ⟨sm_trans g.b (frz_b fun a ha => (f a ha).2), g.h, frz_h g.s, fun a u e => ?_⟩ ⟨[], ⟨(τ x).sub (frz_b fun a ha => (f a ha).2) (fun a ha => frzB_in ha) r, rfl⟩, List.nodup_nil, fun _ z => nomatch z⟩
 by_cases ha : a ∈ fp
 · exact .inr (.inl (f a ha).1)
 · rw [frzB_out ha] at e
   exact g.n a u e) fun _ z => z)
def FnT (C : Kc) (R : Row) (ws : κ → List Vw) (τ : β → Ow) (f : κ → Res β) : Prop := ∀ k vs (B H : Hp) Q E, Same B H → VwL B vs (ws k) →
 Rz (f k) (fun y => ∀ v B' H', Gon B H B' H' → pO τ y B H B' H' v → Q v H') (fun e => ∀ cls d H', Same H H' → ExR C e cls d H H' → E cls d H') → R.sp C vs H Q E
class Clo (τ : α → Ow) : Prop where
 cl : ∀ x B B' H v fp, (τ x).rel B H v fp → (τ x).rel B' H v fp
instance {τ : α → Vw} [i : Flat τ] : Clo (fun x => oV (τ x)) := ⟨fun x B B' H v fp h => ⟨i.fl x B B' v h.1, h.2⟩⟩
theorem clo_owl {τ : α → Ow} [i : Clo τ] {B B' H : Hp} : ∀ {xs : List α} {vs : List V} {fp : List Addr}, OwL B H vs (xs.map τ) fp → OwL B' H vs (xs.map τ) fp
 | [], [], _, h => h
 | x :: xs, v :: vs, fp, ⟨f, g, h1, h2, h3⟩ => ⟨f, g, h1, i.cl x B B' H v f h2, clo_owl h3⟩
instance {τ : α → Ow} [i : Clo τ] : Clo (oL C τ) := ⟨fun x B B' H v fp ⟨p, vs, f, h1, h2, h3, h4⟩ => ⟨p, vs, f, h1, h2, clo_owl h3, h4⟩⟩
theorem vwl_append {H : Hp} : ∀ {vs : List V} {ws : List Vw} {us : List V} {zs : List Vw}, VwL H vs ws → VwL H us zs → VwL H (vs ++ us) (ws ++ zs)
 | _, _, _, _, .nil, h => h
 | _, _, _, _, .cons a l, h => .cons a (vwl_append l h)
theorem ev_callF {i : Nat} {es : E} {os : κ → List Vw} {ws : κ' → List Vw} {τ : β → Ow} {f : κ' → Res β} {g : κ → κ'} {dv : List V} {wd : List Vw} {m : Res β} (hf : FnT C (T.f i) ws τ f)
   (har : elen es ≤ (T.f i).ar ∧ (T.f i).ar ≤ elen es + (T.f i).dfl.length) (hdv : (T.f i).dfl.drop (elen es + (T.f i).dfl.length - (T.f i).ar) = dv) (hwd : ∀ H, VwL H dv wd) (hg : ∀ k, ws (g k) = os k ++ wd)
   (h : EvLO T C Γ es (fun k => (os k).map oV) (fun k => f (g k)) m) : EvO T C Γ (.call i es) τ m := fun W σ B H Q c z => by
 show rCall (T.f i) C (elen es) (WE W) (rd T C es W).L σ H Q
 unfold rCall
 rw [if_pos har, hdv]
 refine h W σ B H _ _ c z fun k vs B1 H1 fq g1 p1 _ _ z1 => ?_
 have p2 : VwL B1 vs (os k) := by
   have : ∀ {vs : List V} {ws : List Vw} {fq : List Addr}, OwL B1 H1 vs (ws.map oV) fq → VwL B1 vs ws := fun {vs} => by
     induction vs with
     | nil =>
       intro ws fq h
       cases ws with
       | nil => exact .nil
       | cons w ws => exact h.elim
     | cons v vs ih =>
       intro ws fq h
       cases ws with
       | nil => exact h.elim
       | cons w ws =>
         obtain ⟨f, g, h1, h2, h3⟩ := h
         exact .cons h2.1 (ih h3)
   exact this p1
 refine hf (g k) (vs ++ dv) B1 H1 Q (WE W σ) g1.s (by rw [hg]; exact vwl_append p2 (hwd B1)) (rz_imp z1 (fun y q v B2 H2 g2 p => ?_) fun e z cls d H' s r => z cls d H' s r)
 exact q v B2 H2 (g1.trans g2) (Back.bk (P := pO τ) y B H B1 H1 B2 H2 v g1 p)
end
end Q
namespace Q
open PySem L2 PySem.Spec
inductive Out (ν β ρ ξ : Type) where
 | nx (x : ν) | bk (x : β) | ct (x : β) | rt (x : ρ) | exc (e : Ex) (x : ξ) | bad
section
variable {ν ν' β ρ ξ : Type}
def Out.then (m : Out ν β ρ ξ) (k : ν → Out ν' β ρ ξ) : Out ν' β ρ ξ := match m with
 | .nx x => k x
 | .bk x => .bk x
 | .ct x => .ct x
 | .rt x => .rt x
 | .exc e x => .exc e x
 | .bad => .bad
@[simp] theorem Out.nx_then (x : ν) (k : ν → Out ν' β ρ ξ) : (Out.nx x).then k = k x := rfl
@[simp] theorem Out.bk_then (x : β) (k : ν → Out ν' β ρ ξ) : (Out.bk x).then k = .bk x := rfl
@[simp] theorem Out.ct_then (x : β) (k : ν → Out ν' β ρ ξ) : (Out.ct x).then k = .ct x := rfl
@[simp] theorem Out.rt_then (x : ρ) (k : ν → Out ν' β ρ ξ) : (Out.rt x).then k = .rt x := rfl
@[simp] theorem Out.exc_then (e : Ex) (x : ξ) (k : ν → Out ν' β ρ ξ) : (Out.exc e x).then k = .exc e x := rfl
@[simp] theorem Out.bad_then (k : ν → Out ν' β ρ ξ) : (Out.bad).then k = .bad := rfl
def Res.to {α : Type} (m : Res α) (x : ξ) (k : α → Out ν β ρ ξ) : Out ν β ρ ξ := match m with
 | .ok a => k a
 | .exc e => .exc e x
 | .bad => .bad
@[simp] theorem Res.ok_to {α : Type} (a : α) (x : ξ) (k : α → Out ν β ρ ξ) : (Res.ok a).to x k = k a := rfl
@[simp] theorem Res.exc_to {α : Type} (e : Ex) (x : ξ) (k : α → Out ν β ρ ξ) : (Res.exc e).to x k = .exc e x := rfl
@[simp] theorem Res.bad_to {α : Type} (x : ξ) (k : α → Out ν β ρ ξ) : (Res.bad : Res α).to x k = .bad := rfl
end
def oQ (p : V → Prop) (o : Ow) : Ow where
 rel := fun B H v fp => p v ∧ o.rel B H v fp
 mono := fun e n h => ⟨h.1, o.mono e n h.2⟩
 al := fun h => o.al h.2
 nt := fun h => o.nt h.2
 lk := fun e n h => ⟨h.1, o.lk e n h.2⟩
 vw := o.vw
 sub := fun e n h => o.sub e n h.2
structure Gz (B Z B' : Hp) : Prop where
 b : Same B B'
 n : ∀ a o, B' a = some o → B a = some o ∨ Z a = none ∨ (Z a = some o ∧ tupB o = true)
theorem Gz.refl (B Z : Hp) : Gz B Z B := ⟨sm_refl _, fun _ _ e => .inl e⟩
theorem Gz.trans {B Z B1 B2 : Hp} (a : Gz B Z B1) (b : Gz B1 Z B2) : Gz B Z B2 := ⟨sm_trans a.b b.b, fun x o e => (b.n x o e).elim (fun q => a.n x o q) .inr⟩
structure Oks (Γ : Cx0) (σ : L2.St) (B Z H : Hp) (fp : List Addr) : Prop where
 env : EnvO B H σ Γ fp
 nd : fp.Nodup
 fr : ∀ a ∈ fp, Z a = none ∧ B a = none
 b : Same B H
 z : Same Z H
theorem Gon.gz {B Z H B' H' : Hp} (z : Same Z H) (g : Gon B H B' H') : Gz B Z B' := ⟨g.b, fun a o e => (newB_trans z (newB_refl B Z) g.n a o e)⟩
structure Le (a b : Ow) : Prop where
 le : ∀ B H v fp, a.rel B H v fp → b.rel B H v fp
theorem Le.refl (a : Ow) : Le a a := ⟨fun _ _ _ _ h => h⟩
inductive Wk : Cx0 → Cx0 → Prop
 | nil : Wk [] []
 | drop {o : Option Ow} {Γ Γ' : Cx0} : Wk Γ Γ' → Wk (o :: Γ) (none :: Γ')
 | keep {a : Ow} {Γ Γ' : Cx0} : Wk Γ Γ' → Wk (some a :: Γ) (some a :: Γ')
 | imp {a b : Ow} {Γ Γ' : Cx0} : Le a b → Wk Γ Γ' → Wk (some a :: Γ) (some b :: Γ')
theorem Wk.refl : ∀ Γ : Cx0, Wk Γ Γ
 | [] => .nil
 | none :: Γ => .drop (Wk.refl Γ)
 | some a :: Γ => .keep (Wk.refl Γ)
theorem Wk.env {B H : Hp} : ∀ {Γ Γ' : Cx0} {σ : List (Option V)} {fp : List Addr}, Wk Γ Γ' → EnvO B H σ Γ fp → ∃ fq, EnvO B H σ Γ' fq ∧ fq.Sublist fp
 | _, _, σ, fp, .nil, h => ⟨fp, h, .refl _⟩
 | _, _, [], _, .drop (o := o) w, h => by cases o <;> cases h
 | _, _, v :: σ, fp, .drop (o := none) w, h => Wk.env (σ := σ) w h
 | _, _, v :: σ, fp, .drop (o := some o) w, ⟨u, f, g, h0, h1, h2, h3⟩ => by
   obtain ⟨fq, q1, q2⟩ := Wk.env (σ := σ) w h3
   subst h1
   exact ⟨fq, q1, q2.trans (List.sublist_append_right f g)⟩
 | _, _, [], _, .keep w, h => by cases h
 | _, _, v :: σ, fp, .keep w, ⟨u, f, g, h0, h1, h2, h3⟩ => by
   obtain ⟨fq, q1, q2⟩ := Wk.env (σ := σ) w h3
   subst h1
   exact ⟨f ++ fq, ⟨u, f, fq, h0, rfl, h2, q1⟩, List.Sublist.append (.refl _) q2⟩
 | _, _, [], _, .imp l w, h => by cases h
 | _, _, v :: σ, fp, .imp l w, ⟨u, f, g, h0, h1, h2, h3⟩ => by
   obtain ⟨fq, q1, q2⟩ := Wk.env (σ := σ) w h3
   subst h1
   exact ⟨f ++ fq, ⟨u, f, fq, h0, rfl, l.le _ _ _ _ h2, q1⟩, List.Sublist.append (.refl _) q2⟩
theorem Oks.wk {Γ Γ' : Cx0} {σ : L2.St} {B Z H : Hp} {fp : List Addr} (h : Oks Γ σ B Z H fp) (w : Wk Γ Γ') : ∃ fq, Oks Γ' σ B Z H fq := by
 obtain ⟨fq, h1, h2⟩ := w.env h.env
 exact ⟨fq, h1, h.nd.sublist h2, fun a ha => h.fr a (h2.subset ha), h.b, h.z⟩
theorem Oks.envC {Γ : Cx0} {σ : L2.St} {B Z H : Hp} {fp : List Addr} (h : Oks Γ σ B Z H fp) : EnvC Γ σ B H := ⟨fun i o e => by
 obtain ⟨v, f, h1, h2, _⟩ := h.env.get e
 exact ⟨v, f, h1, h2⟩, h.b, h.env.len⟩
theorem Oks.put {Γ : Cx0} {σ : L2.St} {B Z H B' H' : Hp} {fp fq : List Addr} {o : Ow} {v : V} (h : Oks Γ σ B Z H fp) (g : Gon B H B' H') (r : o.rel B' H' v fq) (n : fq.Nodup) (f : ∀ a ∈ fq, H a = none ∧ B' a = none) : Oks (some o :: Γ) (some v :: σ) B' Z H' (fq ++ fp) := by
 have al := h.env.al
 refine ⟨⟨v, fq, fp, rfl, rfl, r, h.env.mono g.b fun a ha => ?_⟩, List.nodup_append.mpr ⟨n, h.nd, fun a ha b hb e => ?_⟩, fun a ha => ?_, g.s, sm_trans h.z g.h⟩
 · obtain ⟨u, hu⟩ := Option.isSome_iff_exists.mp (al a ha)
   rw [hu, g.h a u hu]
 · subst e
   have := al a hb
   rw [(f a ha).1] at this; cases this
 · rcases List.mem_append.mp ha with ha | ha
   · exact ⟨none_back h.z (f a ha).1, (f a ha).2⟩
   · exact ⟨(h.fr a ha).1, newB_none g.n (h.fr a ha).2 (al a ha) (h.env.nt a ha)⟩
theorem Oks.gon {Γ : Cx0} {σ : L2.St} {B Z H B' H' : Hp} {fp : List Addr} (h : Oks Γ σ B Z H fp) (g : Gon B H B' H') : Oks Γ σ B' Z H' fp := by
 have al := h.env.al
 refine ⟨h.env.mono g.b fun a ha => ?_, h.nd, fun a ha => ⟨(h.fr a ha).1, newB_none g.n (h.fr a ha).2 (al a ha) (h.env.nt a ha)⟩, g.s, sm_trans h.z g.h⟩
 obtain ⟨u, hu⟩ := Option.isSome_iff_exists.mp (al a ha)
 rw [hu, g.h a u hu]
theorem EnvO.set {B H : Hp} {o : Ow} {v : V} {fq : List Addr} (r : o.rel B H v fq) : ∀ {Γ : Cx0} {σ : List (Option V)} {fp : List Addr} {i : Nat}, EnvO B H σ Γ fp → i < Γ.length → ∃ f g fp', fp' = f ++ fq ++ g ∧ (f ++ g).Sublist fp ∧ EnvO B H (σ.set i (some v)) (Γ.set i (some o)) fp'
 | [], _, _, _, _, l => by simp at l
 | none :: Γ, [], _, _, h, _ => by cases h
 | some _ :: Γ, [], _, _, h, _ => by cases h
 | none :: Γ, u :: σ, fp, 0, h, _ => ⟨[], fp, fq ++ fp, rfl, .refl _, ⟨v, fq, fp, rfl, rfl, r, h⟩⟩
 | some p :: Γ, u :: σ, fp, 0, ⟨u', f, g, h0, h1, h2, h3⟩, _ => ⟨[], g, fq ++ g, rfl, by subst h1; exact List.sublist_append_right f g, ⟨v, fq, g, rfl, rfl, r, h3⟩⟩
 | none :: Γ, u :: σ, fp, i + 1, h, l => by
   obtain ⟨f, g, fp', q1, q2, q3⟩ := EnvO.set r (Γ := Γ) (σ := σ) (i := i) h (by simpa using l)
   exact ⟨f, g, fp', q1, q2, q3⟩
 | some p :: Γ, u :: σ, fp, i + 1, ⟨u', f0, g0, h0, h1, h2, h3⟩, l => by
   obtain ⟨f, g, fp', q1, q2, q3⟩ := EnvO.set r (Γ := Γ) (σ := σ) (i := i) h3 (by simpa using l)
   subst h1
   exact ⟨f0 ++ f, g, f0 ++ fp', by rw [q1]; simp, by rw [List.append_assoc]; exact List.Sublist.append (.refl _) q2, ⟨u', f0, fp', h0, rfl, h2, q3⟩⟩
theorem Oks.set {Γ : Cx0} {σ : L2.St} {B Z H : Hp} {fp : List Addr} {o : Ow} {v : V} {i : Nat} (h : Oks (some o :: Γ) (some v :: σ) B Z H fp) (l : i < Γ.length) : ∃ fp', Oks (Γ.set i (some o)) (σ.set i (some v)) B Z H fp' := by
 obtain ⟨⟨u, f0, g0, h0, h1, h2, h3⟩, nd, fr, b, z⟩ := h
 cases h0
 subst h1
 obtain ⟨f, g, fp', q1, q2, q3⟩ := EnvO.set h2 h3 l
 obtain ⟨n1, n2, n3⟩ := List.nodup_append.mp nd
 refine ⟨fp', q3, ?_, fun a ha => fr a ?_, b, z⟩
 · subst q1
   have n4 := n2.sublist q2
   obtain ⟨m1, m2, m3⟩ := List.nodup_append.mp n4
   refine List.nodup_append.mpr ⟨List.nodup_append.mpr ⟨m1, n1, fun a ha b hb e => ?_⟩, m2, fun a ha b hb e => ?_⟩
   · exact n3 b hb a (q2.subset (List.mem_append_left _ ha)) e.symm
   · rcases List.mem_append.mp ha with ha | ha
     · exact m3 a ha b hb e
     · exact n3 a ha b (q2.subset (List.mem_append_right _ hb)) e
 · subst q1
   rcases List.mem_append.mp ha with ha | ha
   · rcases List.mem_append.mp ha with ha | ha
     · exact List.mem_append_right _ (q2.subset (List.mem_append_left _ ha))
     · exact List.mem_append_left _ ha
   · exact List.mem_append_right _ (q2.subset (List.mem_append_right _ ha))
structure Ds (ν β ρ ξ : Type) where
 n : ν → Cx0
 b : β → Cx0
 t : ρ → Ow
 r : ρ → Cx0
 x : ξ → Cx0
section
variable {T : Tb} {cs : List Nat} {C : Kc} {Γ : Cx0} {α ν ν' β ρ ξ : Type}
def oXs (C : Kc) (vs : List V) : Ow := oLs C (vs.map fun v => oV (vC v))
theorem owl_vC {B H : Hp} : ∀ {vs us : List V} {fp : List Addr}, OwL B H us (vs.map fun v => oV (vC v)) fp → us = vs ∧ fp = []
 | [], [], _, h => ⟨rfl, h⟩
 | [], _ :: _, _, h => h.elim
 | _ :: _, [], _, h => h.elim
 | v :: vs, u :: us, fp, ⟨f, g, h1, h2, h3⟩ => by
   obtain ⟨e1, e2⟩ := owl_vC h3
   obtain ⟨e3, e4⟩ := h2
   have e3 : u = v := e3
   subst e1 e2 e3 e4
   exact ⟨rfl, h1⟩
theorem owl_vC' {B H : Hp} : ∀ vs : List V, OwL B H vs (vs.map fun v => oV (vC v)) []
 | [] => rfl
 | v :: vs => ⟨[], [], rfl, ⟨rfl, rfl⟩, owl_vC' vs⟩
theorem oXs_rel {C : Kc} {B H : Hp} {p : Addr} {vs : List V} (h : H p = some (.lst vs)) : (oXs C vs).rel B H (.ref p) [p] := ⟨p, vs, [], rfl, h, owl_vC' vs, rfl⟩
theorem oXs_inv {C : Kc} {B H : Hp} {v : V} {vs : List V} {fp : List Addr} (h : (oXs C vs).rel B H v fp) : ∃ p, v = .ref p ∧ H p = some (.lst vs) ∧ fp = [p] := by
 obtain ⟨p, us, f, h1, h2, h3, h4⟩ := h
 obtain ⟨e1, e2⟩ := owl_vC h3
 subst e1 e2
 exact ⟨p, h1, h2, h4⟩
def ExD (C : Kc) (e : Ex) (d : Option Addr) (Z B : Hp) (us : List V) (os : List Ow) : Prop :=
 (us = [] ∧ os = [] ∧ ((e.fs = [] ∧ d = none) ∨ ∃ dd, d = some dd ∧ B dd = some (.xd e.fs) ∧ Z dd = none ∧ nonE e.fs = true)) ∨
 ∃ dd p f vs, us = [.ref p] ∧ os = [oXs C vs] ∧ d = some dd ∧ e.fs = encL f vs ∧ B dd = some (.xd [(f, .ref p)]) ∧ Z dd = none
theorem ExD.less {C : Kc} {e : Ex} {d : Option Addr} {Z Z' B : Hp} {us : List V} {os : List Ow} (h : ExD C e d Z B us os) (s : ∀ a, Z a = none → Z' a = none) : ExD C e d Z' B us os :=
 h.imp (fun ⟨h1, h2, h3⟩ => ⟨h1, h2, h3.imp_right fun ⟨dd, q1, q2, q3, q4⟩ => ⟨dd, q1, q2, s dd q3, q4⟩⟩) fun ⟨dd, p, f, vs, h1, h2, h3, h4, h5, h6⟩ => ⟨dd, p, f, vs, h1, h2, h3, h4, h5, s dd h6⟩
theorem Oks.delX {C : Kc} {Γ : Cx0} {σ : L2.St} {B Z H : Hp} {fp : List Addr} {vs : List V} {v : V} (o : Oks (some (oXs C vs) :: Γ) (some v :: σ) B Z H fp) : ∃ p fq, v = .ref p ∧ Oks Γ σ B (upd Z p (.lst vs)) H fq ∧ H p = some (.lst vs) ∧ Z p = none ∧ B p = none ∧ fp = p :: fq := by
 obtain ⟨⟨u, f, g, h0, h1, h2, h3⟩, nd, fr, b, z⟩ := o
 cases h0
 obtain ⟨p, e1, e2, e3⟩ := oXs_inv h2
 subst e1 e3 h1
 obtain ⟨n1, n2, n3⟩ := List.nodup_append.mp nd
 have hp := fr p (List.mem_append_left _ List.mem_cons_self)
 refine ⟨p, g, rfl, ⟨h3, n2, fun a ha => ⟨?_, (fr a (List.mem_append_right _ ha)).2⟩, b, fun a u q => ?_⟩, e2, hp.1, hp.2, rfl⟩
 · rw [upd_ne fun q => n3 p List.mem_cons_self a ha q.symm]
   exact (fr a (List.mem_append_right _ ha)).1
 · by_cases q' : a = p
   · subst q'
     rw [upd_same] at q
     cases q
     exact e2
   · rw [upd_ne q'] at q
     exact z a u q
theorem Oks.addX {C : Kc} {Γ : Cx0} {σ : L2.St} {B Z H : Hp} {fp : List Addr} {vs : List V} {p : Addr} (o : Oks Γ σ B (upd Z p (.lst vs)) H fp) (hz : Z p = none) (hb : B p = none) (hp : H p = some (.lst vs)) : Oks (some (oXs C vs) :: Γ) (some (.ref p) :: σ) B Z H (p :: fp) := by
 have np : ∀ a ∈ fp, a ≠ p := fun a ha q => by
   have := (o.fr a ha).1
   rw [q, upd_same] at this
   cases this
 refine ⟨⟨.ref p, [p], fp, rfl, rfl, oXs_rel hp, o.env⟩, List.nodup_cons.mpr ⟨fun h => np p h rfl, o.nd⟩, fun a ha => ?_, o.b, fun a u q => ?_⟩
 · rcases List.mem_cons.mp ha with rfl | ha
   · exact ⟨hz, hb⟩
   · have := (o.fr a ha).1
     rw [upd_ne (np a ha)] at this
     exact ⟨this, (o.fr a ha).2⟩
 · exact o.z a u (by rw [upd_ne fun q' => by rw [q', hz] at q; cases q]; exact q)
theorem ExD.cv {C : Kc} {Γ Γ' : Cx0} {e : Ex} {d : Option Addr} {σ : L2.St} {B Z H : Hp} {fp : List Addr} {us : List V} {os : List Ow} (x : ExD C e d Z B us os) (c : ∀ σ B Z H fp, Oks Γ σ B Z H fp → ∃ fq, Oks Γ' σ B Z H fq) (o : Oks (os.map some ++ Γ) (us.map some ++ σ) B Z H fp) : ∃ fq, Oks (os.map some ++ Γ') (us.map some ++ σ) B Z H fq := by
 rcases x with ⟨rfl, rfl, _⟩ | ⟨dd, p, f, vs, rfl, rfl, _⟩
 · exact c _ _ _ _ _ o
 · obtain ⟨p', fq, e1, o1, h1, h2, h3, _⟩ := Oks.delX (C := C) (vs := vs) (Γ := Γ) (σ := σ) o
   cases e1
   obtain ⟨fr, o2⟩ := c _ _ _ _ _ o1
   exact ⟨_, o2.addX h2 h3 h1⟩
def Post (C : Kc) (D : Ds ν β ρ ξ) (m : Out ν β ρ ξ) (W : WX) (E : Ends) (B Z : Hp) : Prop := match m with
 | .nx x => ∀ σ B' H fp, Gz B Z B' → Oks (D.n x) σ B' Z H fp → E.nx σ H
 | .bk x => ∀ σ B' H fp, Gz B Z B' → Oks (D.b x) σ B' Z H fp → E.bk σ H
 | .ct x => ∀ σ B' H fp, Gz B Z B' → Oks (D.b x) σ B' Z H fp → E.ct σ H
 | .rt x => ∀ v σ B' H fp, Gz B Z B' → Oks (some (D.t x) :: D.r x) (some v :: σ) B' Z H fp → E.rt v H
 | .exc e x => ∀ cls d σ B' H fp us os, Gz B Z B' → Oks (os.map some ++ D.x x) (us.map some ++ σ) B' Z H fp → cls = .ref (C.cl e.c) → ExD C e d Z B' us os → W cls d σ H
 | .bad => False
theorem Post.up {D : Ds ν β ρ ξ} {m : Out ν β ρ ξ} {W : WX} {E : Ends} {B Z B' : Hp} (h : Post C D m W E B Z) (g : Gz B Z B') : Post C D m W E B' Z := by
 cases m with
 | nx x => exact fun σ B2 H fp g2 o => h σ B2 H fp (g.trans g2) o
 | bk x => exact fun σ B2 H fp g2 o => h σ B2 H fp (g.trans g2) o
 | ct x => exact fun σ B2 H fp g2 o => h σ B2 H fp (g.trans g2) o
 | rt x => exact fun v σ B2 H fp g2 o => h v σ B2 H fp (g.trans g2) o
 | exc e x => exact fun cls d σ B2 H fp us os g2 o => h cls d σ B2 H fp us os (g.trans g2) o
 | bad => exact h
def Blk (T : Tb) (cs : List Nat) (C : Kc) (D : Ds ν β ρ ξ) (Γ : Cx0) (s : S) (m : Out ν β ρ ξ) : Prop :=
 ∀ (W : WX) (E : Ends) (σ : L2.St) (B Z H : Hp) (fp : List Addr), Oks Γ σ B Z H fp → Post C D m W E B Z → rs T cs s C W E σ H
def EvX (T : Tb) (C : Kc) (D : Ds ν β ρ ξ) (Γ : Cx0) (e : E) (τ : α → Ow) (Γ' : α → Cx0) (k : α → Out ν β ρ ξ) (m : Out ν β ρ ξ) : Prop :=
 ∀ (W : WX) (E : Ends) (σ : L2.St) (B Z H : Hp) (fp : List Addr) (Q : VK), Oks Γ σ B Z H fp → Post C D m W E B Z →
   (∀ x v B' H' fp', Gz B Z B' → Oks (some (τ x) :: Γ' x) (some v :: σ) B' Z H' fp' → Post C D (k x) W E B' Z → Q v H') → (rd T C e W).E σ H Q
theorem Blk.wk {D : Ds ν β ρ ξ} {Γ' : Cx0} {s : S} {m : Out ν β ρ ξ} (h : Blk T cs C D Γ' s m) (w : Wk Γ Γ') : Blk T cs C D Γ s m := fun W E σ B Z H fp o p => by
 obtain ⟨fq, o'⟩ := o.wk w
 exact h W E σ B Z H fq o' p
theorem ExD.drop {Γ : Cx0} {e : Ex} {d : Option Addr} {σ : L2.St} {B Z H : Hp} {fp : List Addr} {us : List V} {os : List Ow} (x : ExD C e d Z B us os) (o : Oks (os.map some ++ Γ) (us.map some ++ σ) B Z H fp) : ∃ fq, Oks Γ σ B Z H fq := by
 rcases x with ⟨rfl, rfl, _⟩ | ⟨dd, p, f, vs, rfl, rfl, _⟩
 · exact ⟨fp, o⟩
 · obtain ⟨p', fq, e1, o1, h1, h2, h3, _⟩ := Oks.delX (C := C) (vs := vs) (Γ := Γ) (σ := σ) o
   exact ⟨fq, o1.env, o1.nd, fun a ha => ⟨none_back (sm_new h2) (o1.fr a ha).1, (o1.fr a ha).2⟩, o1.b, sm_trans (sm_new h2) o1.z⟩
theorem exd_of {e : Ex} {σ : L2.St} {B Z H H' : Hp} {fp : List Addr} {cls : Value} {d : Option Addr} (o : Oks Γ σ B Z H fp) (s : Same H H') (r : ExR C e cls d H H') : ∃ us os B' fp', Gz B Z B' ∧ Oks (os.map some ++ Γ) (us.map some ++ σ) B' Z H' fp' ∧ ExD C e d Z B' us os := by
 have o1 := o.gon (Gon.up o.b s)
 have add : ∀ (a : Addr) (fl : List (Str × V)), H' a = some (.xd fl) → H a = none → Gz B Z (upd B a (.xd fl)) ∧ Oks Γ σ (upd B a (.xd fl)) Z H' fp ∧ Z a = none := fun a fl r3 r4 => by
   have hB := none_back o.b r4
   have hZ := none_back o.z r4
   have ne : ∀ b ∈ fp, b ≠ a := fun b hb q => by
     have := o.env.al b hb
     rw [q, r4] at this; cases this
   have hb : Same B (upd B a (.xd fl)) := sm_new hB
   refine ⟨⟨hb, fun b u q => ?_⟩, ⟨o1.env.mono hb (fun _ _ => rfl), o1.nd, fun b hb => ⟨(o1.fr b hb).1, by rw [upd_ne (ne b hb)]; exact (o1.fr b hb).2⟩, fun b u q => by
     by_cases h : b = a
     · subst h
       rw [upd_same] at q
       cases q
       exact r3
     · rw [upd_ne h] at q
       exact o1.b b u q, o1.z⟩, hZ⟩
   by_cases h : b = a
   · subst h; exact .inr (.inl hZ)
   · rw [upd_ne h] at q; exact .inl q
 obtain ⟨r1, ⟨r2, r3⟩ | ⟨a, r2, r3, r4, r8⟩ | ⟨a, p, f, vs, r2, r3, r4, r5, r6, r7⟩⟩ := r
 · exact ⟨[], [], B, fp, Gz.refl _ _, o1, .inl ⟨rfl, rfl, .inl ⟨r2, r3⟩⟩⟩
 · obtain ⟨g, o2, hz⟩ := add a e.fs r3 r4
   exact ⟨[], [], _, fp, g, o2, .inl ⟨rfl, rfl, .inr ⟨a, r2, upd_same, hz, r8⟩⟩⟩
 · obtain ⟨g, o2, hz⟩ := add a _ r4 r5
   have ap : p ≠ a := fun q => by rw [q, r4] at r6; cases r6
   have hZ := none_back o.z r7
   have o3 : Oks Γ σ (upd B a (.xd [(f, .ref p)])) (upd Z p (.lst vs)) H' fp := ⟨o2.env, o2.nd, fun b hb => ⟨by
     rw [upd_ne fun q => by have := o.env.al b hb; rw [q, r7] at this; cases this]
     exact (o2.fr b hb).1, (o2.fr b hb).2⟩, o2.b, fun b u q => by
     by_cases h : b = p
     · subst h
       rw [upd_same] at q
       cases q
       exact r6
     · rw [upd_ne h] at q
       exact o2.z b u q⟩
   exact ⟨[.ref p], [oXs C vs], _, _, g, o3.addX hZ (by rw [upd_ne ap]; exact none_back o.b r7) r6, .inr ⟨a, p, f, vs, rfl, rfl, r2, r3, upd_same, hz⟩⟩
theorem exr_of {e : Ex} {σ : L2.St} {B Z H : Hp} {fp : List Addr} {cls : Value} {d : Option Addr} {us : List V} {os : List Ow} (o : Oks (os.map some ++ Γ) (us.map some ++ σ) B Z H fp) (c : cls = .ref (C.cl e.c)) (x : ExD C e d Z B us os) : ExR C e cls d Z H := by
 rcases x with ⟨rfl, rfl, x⟩ | ⟨dd, p, f, vs, rfl, rfl, h1, h2, h3, h4⟩
 · exact ⟨c, x.imp_right fun ⟨dd, h1, h2, h3, h4⟩ => .inl ⟨dd, h1, o.b _ _ h2, h3, h4⟩⟩
 · obtain ⟨p', fq, e1, o1, q1, q2, q3, _⟩ := Oks.delX (C := C) (vs := vs) (Γ := Γ) (σ := σ) o
   cases e1
   exact ⟨c, .inr (.inr ⟨dd, p, f, vs, h1, h2, o.b _ _ h3, h4, q1, q2⟩)⟩
theorem exc_post {D : Ds ν β ρ ξ} {e : Ex} {x0 : ξ} {W : WX} {E : Ends} {σ : L2.St} {B Z H H' : Hp} {fp : List Addr} {cls : Value} {d : Option Addr} (o : Oks Γ σ B Z H fp) (w : Wk Γ (D.x x0)) (p : Post C D (.exc e x0) W E B Z) (s : Same H H') (r : ExR C e cls d H H') : W cls d σ H' := by
 obtain ⟨us, os, B', fp', g, o2, x⟩ := exd_of o s r
 obtain ⟨fq, o3⟩ := x.cv (fun _ _ _ _ _ o => o.wk w) o2
 exact p cls d σ B' H' fq us os g o3 r.1 x
theorem evx {D : Ds ν β ρ ξ} {e : E} {τ : α → Ow} {m : Res α} {x0 : ξ} {k : α → Out ν β ρ ξ} (h : EvO T C Γ e τ m) (w : Wk Γ (D.x x0)) : EvX T C D Γ e τ (fun _ => Γ) k (m.to x0 k) := fun W E σ B Z H fp Q o p q => by
 refine h W σ B H Q o.envC ?_
 cases m with
 | ok x => exact fun v B' H' g ⟨fq, r, n, f⟩ => q x v B' H' _ (g.gz o.z) (o.put g r n f) (p.up (g.gz o.z))
 | exc e =>
   intro cls d H' s r
   exact exc_post o w p s r
 | bad => exact p
theorem evx_mv {D : Ds ν β ρ ξ} {i : Nat} {o : Ow} {k : Unit → Out ν β ρ ξ} (h : Γ[i]? = some (some o)) : EvX T C D Γ (.var i) (fun _ => o) (fun _ => Γ.set i none) k (k ()) := fun W E σ B Z H fp Q ok p q => by
 have : ∀ {Γ : Cx0} {σ : List (Option V)} {fp : List Addr} {i : Nat}, EnvO B H σ Γ fp → Γ[i]? = some (some o) → ∃ v f g, σ[i]? = some (some v) ∧ o.rel B H v f ∧ EnvO B H σ (Γ.set i none) g ∧ (f ++ g).Perm fp := fun {Γ} => by
   induction Γ with
   | nil => intro σ fp i _ e; simp at e
   | cons a Γ ih =>
     intro σ fp i h e
     cases σ with
     | nil => cases a <;> cases h
     | cons u σ =>
       cases i with
       | zero =>
         simp only [List.getElem?_cons_zero, Option.some.injEq] at e
         subst e
         obtain ⟨v, f, g, h0, h1, h2, h3⟩ := h
         subst h0 h1
         exact ⟨v, f, g, rfl, h2, h3, .refl _⟩
       | succ i =>
         simp only [List.getElem?_cons_succ] at e
         cases a with
         | none =>
           obtain ⟨v, f, g, q1, q2, q3, q4⟩ := ih (σ := σ) h e
           exact ⟨v, f, g, q1, q2, q3, q4⟩
         | some b =>
           obtain ⟨w, f0, g0, h0, h1, h2, h3⟩ := h
           obtain ⟨v, f, g, q1, q2, q3, q4⟩ := ih h3 e
           subst h1
           refine ⟨v, f, f0 ++ g, q1, q2, ⟨w, f0, g, h0, rfl, h2, q3⟩, ?_⟩
           exact (List.perm_append_comm_assoc f f0 g).trans (q4.append_left f0)
 obtain ⟨v, f, g, q1, q2, q3, q4⟩ := this ok.env h
 refine ⟨v, q1, q () v B H (f ++ g) (Gz.refl _ _) ⟨⟨v, f, g, rfl, rfl, q2, q3⟩, q4.nodup_iff.mpr ok.nd, fun a ha => ok.fr a (q4.mem_iff.mp ha), ok.b, ok.z⟩ p⟩
end
end Q
namespace Q
open PySem L2 PySem.Spec
def gdO {ν β ρ ξ : Type} (b : Bool) (m : Out ν β ρ ξ) : Out ν β ρ ξ := match b with
 | true => m
 | false => .bad
@[simp] theorem gdO_true {ν β ρ ξ : Type} (m : Out ν β ρ ξ) : gdO true m = m := rfl
def S.trm : S → Bool
 | .ret _ => true
 | .retN => true
 | .rse0 _ => true
 | .rse _ _ => true
 | .brk => true
 | .cnt => true
 | .seq a b => a.trm || b.trm
 | .ife _ a b => a.trm && b.trm
 | _ => false
section
variable {T : Tb} {cs : List Nat} {C : Kc} {Γ : Cx0} {α ν ν' β ρ ξ γ : Type}
theorem trm_nx (f : L2.St → Hp → Prop) (W : WX) : ∀ (s : S), s.trm = true → ∀ (E : Ends) (σ : L2.St) (H : Hp), rs T cs s C W { E with nx := f } σ H = rs T cs s C W E σ H
 | .ret _, _, _, _, _ => rfl
 | .retN, _, _, _, _ => rfl
 | .rse0 _, _, _, _, _ => rfl
 | .rse _ _, _, _, _, _ => rfl
 | .brk, _, _, _, _ => rfl
 | .cnt, _, _, _, _ => rfl
 | .seq a b, h, E, σ, H => by
   simp only [S.trm, Bool.or_eq_true] at h
   show rs T cs a C W { E with nx := rs T cs b C W { E with nx := f } } σ H = rs T cs a C W { E with nx := rs T cs b C W E } σ H
   rcases h with h | h
   · rw [trm_nx (rs T cs b C W { E with nx := f }) W a h E, trm_nx (rs T cs b C W E) W a h E]
   · rw [show rs T cs b C W { E with nx := f } = rs T cs b C W E from funext fun σ => funext fun H => trm_nx f W b h E σ H]
 | .ife t a b, h, E, σ, H => by
   simp only [S.trm, Bool.and_eq_true] at h
   show (rd T C t W).T σ H _ = (rd T C t W).T σ H _
   congr 1
   funext c H1
   cases c with
   | true => exact trm_nx f W a h.1 E σ H1
   | false => exact trm_nx f W b h.2 E σ H1
theorem Oks.tail {o : Ow} {v : Option V} {σ : L2.St} {B Z H : Hp} {fp : List Addr} (h : Oks (some o :: Γ) (v :: σ) B Z H fp) : ∃ fq, Oks Γ σ B Z H fq := by
 obtain ⟨⟨u, f, g, h0, h1, h2, h3⟩, nd, fr, b, z⟩ := h
 subst h1
 exact ⟨g, h3, (List.nodup_append.mp nd).2.1, fun a ha => fr a (List.mem_append_right _ ha), b, z⟩
theorem Oks.le {a b : Ow} {v : Option V} {σ : L2.St} {Γ' : Cx0} {B Z H : Hp} {fp : List Addr} (h : Oks (some a :: Γ) (v :: σ) B Z H fp) (l : Le a b) (w : Wk Γ Γ') : ∃ fq, Oks (some b :: Γ') (v :: σ) B Z H fq := h.wk (.imp l w)
theorem b_nop {D : Ds ν β ρ ξ} {x : ν} (w : Wk Γ (D.n x)) : Blk T cs C D Γ .nop (.nx x) := fun W E σ B Z H fp o p => by
 obtain ⟨fq, o2⟩ := o.wk w
 exact p σ B H fq (Gz.refl _ _) o2
theorem b_seq {D : Ds ν β ρ ξ} {Γ1 : ν' → Cx0} {a s : S} {m : Out ν' β ρ ξ} {k : ν' → Out ν β ρ ξ} (ha : Blk T cs C { D with n := Γ1 } Γ a m) (hs : ∀ x, Blk T cs C D (Γ1 x) s (k x)) : Blk T cs C D Γ (.seq a s) (m.then k) := fun W E σ B Z H fp o p => by
 show rs T cs a C W { E with nx := rs T cs s C W E } σ H
 refine ha W _ σ B Z H fp o ?_
 cases m with
 | nx x => exact fun σ' B' H' fp' g o' => hs x W E σ' B' Z H' fp' o' (Post.up p g)
 | bk x => exact p
 | ct x => exact p
 | rt x => exact p
 | exc e x => exact p
 | bad => exact p
theorem b_asg {D : Ds ν β ρ ξ} {i : Nat} {e : E} {s : S} {τ : α → Ow} {Γ' : α → Cx0} {k : α → Out ν β ρ ξ} {m : Out ν β ρ ξ} (h : EvX T C D Γ e τ Γ' k m) (l : ∀ x, i < (Γ' x).length) (hs : ∀ x, Blk T cs C D ((Γ' x).set i (some (τ x))) s (k x)) :
   Blk T cs C D Γ (.seq (.asg i e) s) m := fun W E σ B Z H fp o p => by
 show (rd T C e W).E σ H _
 refine h W E σ B Z H fp _ o p fun x v B1 H1 fq g1 o1 p1 => ?_
 obtain ⟨fr, o2⟩ := o1.set (l x)
 exact hs x W E _ B1 Z H1 fr o2 p1
theorem b_exp {D : Ds ν β ρ ξ} {e : E} {s : S} {τ : α → Ow} {Γ' : α → Cx0} {k : α → Out ν β ρ ξ} {m : Out ν β ρ ξ} (h : EvX T C D Γ e τ Γ' k m) (hs : ∀ x, Blk T cs C D (Γ' x) s (k x)) : Blk T cs C D Γ (.seq (.exp e) s) m := fun W E σ B Z H fp o p => by
 show (rd T C e W).E σ H _
 refine h W E σ B Z H fp _ o p fun x v B1 H1 fq g1 o1 p1 => ?_
 obtain ⟨fr, o2⟩ := o1.tail
 exact hs x W E _ B1 Z H1 fr o2 p1
theorem b_ret {D : Ds ν β ρ ξ} {e : E} {s : S} {τ : α → Ow} {Γ' : α → Cx0} {g : α → ρ} {m : Out ν β ρ ξ} (h : EvX T C D Γ e τ Γ' (fun x => .rt (g x)) m) (ht : ∀ x, Le (τ x) (D.t (g x))) (w : ∀ x, Wk (Γ' x) (D.r (g x))) : Blk T cs C D Γ (.seq (.ret e) s) m := fun W E σ B Z H fp o p => by
 show (rd T C e W).E σ H _
 refine h W E σ B Z H fp _ o p fun x v B1 H1 fq g1 o1 p1 => ?_
 obtain ⟨fr, o2⟩ := o1.le (ht x) (w x)
 exact p1 v σ B1 H1 fr (Gz.refl _ _) o2
theorem evt_post {D : Ds ν β ρ ξ} {t : E} {m : Res Bool} {x0 : ξ} {k : Bool → Out ν β ρ ξ} (h : EvT T C Γ t m) (w : Wk Γ (D.x x0)) {W : WX} {E : Ends} {σ : L2.St} {B Z H : Hp} {fp : List Addr} {Q : Bool → Hp → Prop} (o : Oks Γ σ B Z H fp) (p : Post C D (m.to x0 k) W E B Z)
   (q : ∀ b B' H', Gon B H B' H' → Oks Γ σ B' Z H' fp → Post C D (k b) W E B' Z → Q b H') : (rd T C t W).T σ H Q := by
 refine h W σ B H Q o.envC ?_
 cases m with
 | ok c => exact fun B1 H1 g1 => q c B1 H1 g1 (o.gon g1) (p.up (g1.gz o.z))
 | exc e =>
   intro cls d H' s r
   exact exc_post o w p s r
 | bad => exact p
theorem b_if {D : Ds ν β ρ ξ} {t : E} {a b : S} {m : Res Bool} {x0 : ξ} {ma mb : Out ν β ρ ξ} (h : EvT T C Γ t m) (w : Wk Γ (D.x x0)) (ha : Blk T cs C D Γ a ma) (hb : Blk T cs C D Γ b mb) : Blk T cs C D Γ (.ife t a b) (m.to x0 fun c => cond c ma mb) := fun W E σ B Z H fp o p => by
 show (rd T C t W).T σ H _
 refine evt_post h w o p fun c B1 H1 g1 o1 p1 => ?_
 cases c with
 | true => exact ha W E σ B1 Z H1 fp o1 p1
 | false => exact hb W E σ B1 Z H1 fp o1 p1
theorem b_end {D : Ds ν β ρ ξ} {a : S} {m : Out ν β ρ ξ} (ha : Blk T cs C D Γ a m) : Blk T cs C D Γ (.seq a .nop) m := fun W E σ B Z H fp o p => by
 exact ha W E σ B Z H fp o p
theorem b_ifL {D : Ds ν β ρ ξ} {t : E} {a s : S} {m : Res Bool} {x0 : ξ} {ma ms : Out ν β ρ ξ} (h : EvT T C Γ t m) (w : Wk Γ (D.x x0)) (ht : a.trm = true) (ha : Blk T cs C D Γ a ma) (hs : Blk T cs C D Γ s ms) : Blk T cs C D Γ (.seq (.ife t a .nop) s) (m.to x0 fun c => cond c ma ms) := fun W E σ B Z H fp o p => by
 show (rd T C t W).T σ H _
 refine evt_post h w o p fun c B1 H1 g1 o1 p1 => ?_
 cases c with
 | true =>
   show rs T cs a C W { E with nx := rs T cs s C W E } σ H1
   rw [trm_nx _ W a ht E]
   exact ha W E σ B1 Z H1 fp o1 p1
 | false => exact hs W E σ B1 Z H1 fp o1 p1
theorem EnvO.focus {B H : Hp} {o : Ow} : ∀ {Γ : Cx0} {σ : List (Option V)} {fp : List Addr} {i : Nat}, EnvO B H σ Γ fp → Γ[i]? = some (some o) → ∃ v f g, σ[i]? = some (some v) ∧ o.rel B H v f ∧ (f ++ g).Perm fp ∧
   ∀ B' H' o' f', Same B B' → (∀ a ∈ g, H' a = H a) → o'.rel B' H' v f' → ∃ fp', EnvO B' H' σ (Γ.set i (some o')) fp' ∧ (f' ++ g).Perm fp'
 | [], _, _, _, _, e => by simp at e
 | none :: Γ, [], _, _, h, _ => by cases h
 | some _ :: Γ, [], _, _, h, _ => by cases h
 | none :: Γ, u :: σ, fp, 0, h, e => by simp at e
 | none :: Γ, u :: σ, fp, i + 1, h, e => by
   simp only [List.getElem?_cons_succ] at e
   exact EnvO.focus (Γ := Γ) (σ := σ) h e
 | some a :: Γ, u :: σ, fp, 0, ⟨v, f, g, h0, h1, h2, h3⟩, e => by
   simp only [List.getElem?_cons_zero, Option.some.injEq] at e
   subst e h0 h1
   exact ⟨v, f, g, rfl, h2, .refl _, fun B' H' o' f' b n r => ⟨f' ++ g, ⟨v, f', g, rfl, rfl, r, h3.mono b n⟩, .refl _⟩⟩
 | some a :: Γ, u :: σ, fp, i + 1, ⟨w, f0, g0, h0, h1, h2, h3⟩, e => by
   simp only [List.getElem?_cons_succ] at e
   obtain ⟨v, f, g, q1, q2, q3, q4⟩ := EnvO.focus h3 e
   subst h1
   refine ⟨v, f, f0 ++ g, q1, q2, (List.perm_append_comm_assoc f f0 g).trans (q3.append_left f0), fun B' H' o' f' b n r => ?_⟩
   obtain ⟨fp', z1, z2⟩ := q4 B' H' o' f' b (fun a ha => n a (List.mem_append_right _ ha)) r
   exact ⟨f0 ++ fp', ⟨w, f0, fp', h0, rfl, a.mono b (fun a ha => n a (List.mem_append_left _ ha)) h2, z1⟩, (List.perm_append_comm_assoc f' f0 g).trans (z2.append_left f0)⟩
end
end Q
namespace Q
open PySem L2 PySem.Spec
section
variable {α ν β ρ ξ : Type}
def loopO (f : α → ν → Out ν ν ρ ξ) : List α → ν → Out ν β ρ ξ
 | [], s => .nx s
 | x :: xs, s => match f x s with
   | .nx s' => loopO f xs s'
   | .ct s' => loopO f xs s'
   | .bk s' => .nx s'
   | .rt r => .rt r
   | .exc e y => .exc e y
   | .bad => .bad
end
section
variable {T : Tb} {cs : List Nat} {C : Kc} {Γ : Cx0} {α ν ν' β ρ ξ γ κ : Type}
theorem for_core {D : Ds ν' β ρ ξ} {Γ0 : ν → Cx0} {Γ1 : α → ν → Cx0} {f : α → ν → Out ν ν ρ ξ} {xs : List α} {J : It} {js : List Nat} {b : S} {W : WX} {E : Ends} {B Z H : Hp} {σ : L2.St} {fp : List Addr} {s0 : ν}
   (go : ∀ (i : Nat) (x : α), xs[i]? = some x → ∀ (B' H : Hp), Gz B Z B' → Same B' H → J.go i H) (stop : ∀ (B' H : Hp), Gz B Z B' → Same B' H → J.stop xs.length H)
   (asg : ∀ (i : Nat) (x : α), xs[i]? = some x → ∀ σ B' H fp st v H' Q, Gz B Z B' → Oks (Γ0 st) σ B' Z H fp → J.yld i H v H' → (∀ σ2 fp2, Oks (Γ1 x st) σ2 B' Z H' fp2 → Q σ2 H') → gTg C.K js v σ H' Q)
   (hb : ∀ x st, Blk T cs C ({ n := Γ0, b := Γ0, t := D.t, r := D.r, x := D.x } : Ds ν ν ρ ξ) (Γ1 x st) b (f x st)) (p : Post C ({ n := Γ0, b := D.b, t := D.t, r := D.r, x := D.x } : Ds ν β ρ ξ) (loopO f xs s0) W E B Z) (o : Oks (Γ0 s0) σ B Z H fp) :
   ∃ Wi : Nat → Nat → L2.St → Hp → Prop, (∃ m, Wi 0 m σ H) ∧ ∀ i m σ H, Wi i m σ H → (J.stop i H ∧ E.nx σ H) ∨ (J.go i H ∧ ∃ N : L2.St → Hp → Prop, (∀ σ' H', N σ' H' → ∃ m', m' < m ∧ Wi (i + 1) m' σ' H') ∧ ∀ x H', J.yld i H x H' → gTg C.K js x σ H' fun σ2 H2 => rs T cs b C W { E with nx := N, ct := N, bk := E.nx } σ2 H2) := by
 let Wi : Nat → Nat → L2.St → Hp → Prop := fun i m σ H => i + m = xs.length ∧ ∃ st B' fp, Gz B Z B' ∧ Oks (Γ0 st) σ B' Z H fp ∧ Post C ({ n := Γ0, b := D.b, t := D.t, r := D.r, x := D.x } : Ds ν β ρ ξ) (loopO f (xs.drop i) st) W E B' Z
 refine ⟨Wi, ⟨xs.length, by omega, s0, B, fp, Gz.refl _ _, o, by rw [List.drop_zero]; exact p⟩, fun i m σ H ⟨hm, st, B', fp, g, o, p⟩ => ?_⟩
 rcases Nat.lt_or_ge i xs.length with hi | hi
 · refine .inr ?_
   obtain ⟨x, hx⟩ : ∃ x, xs[i]? = some x := ⟨xs[i], List.getElem?_eq_getElem hi⟩
   have hd : xs.drop i = x :: xs.drop (i + 1) := by
     rw [List.drop_eq_getElem_cons hi]
     rw [List.getElem?_eq_getElem hi] at hx
     cases hx
     rfl
   refine ⟨go i x hx B' H g o.b, Wi (i + 1) (m - 1), fun σ' H' w => ⟨m - 1, by omega, w⟩, fun v H' hy => ?_⟩
   refine asg i x hx σ B' H fp st v H' _ g o hy fun σ2 fp2 o2 => ?_
   refine hb x st W _ σ2 B' Z H' fp2 o2 ?_
   rw [hd] at p
   unfold loopO at p
   cases q : f x st with
   | nx s' =>
     rw [q] at p
     exact fun σ3 B3 H3 fp3 g3 o3 => ⟨by omega, s', B3, fp3, g.trans g3, o3, p.up g3⟩
   | ct s' =>
     rw [q] at p
     exact fun σ3 B3 H3 fp3 g3 o3 => ⟨by omega, s', B3, fp3, g.trans g3, o3, p.up g3⟩
   | bk s' => rw [q] at p; exact p
   | rt r => rw [q] at p; exact p
   | exc e y => rw [q] at p; exact p
   | bad => rw [q] at p; exact p
 · refine .inl ?_
   have hi2 : i = xs.length := by omega
   subst hi2
   refine ⟨stop B' H g o.b, ?_⟩
   rw [List.drop_length] at p
   exact p σ B' H fp (Gz.refl _ _) o
theorem Oks.setV {w : Vw} {v : V} {σ : L2.St} {B Z H : Hp} {fp : List Addr} {i : Nat} (h : Oks Γ σ B Z H fp) (r : w.rel B v) (l : i < Γ.length) : ∃ fp', Oks (Γ.set i (some (oV w))) (σ.set i (some v)) B Z H fp' :=
 Oks.set (o := oV w) (v := v) (fp := fp) ⟨⟨v, [], fp, rfl, rfl, ⟨r, rfl⟩, h.env⟩, h.nd, h.fr, h.b, h.z⟩ l
def setL : Cx0 → List Nat → List Vw → Cx0
 | Γ, i :: is, w :: ws => setL (Γ.set i (some (oV w))) is ws
 | Γ, _, _ => Γ
theorem gz_same {B Z B' H : Hp} (g : Gz B Z B') (s : Same B' H) : Same B H := sm_trans g.b s
theorem vwl_nth {H : Hp} {vs : List V} {xs : List α} {τ : α → Vw} {i : Nat} {x : α} (h : VwL H vs (xs.map τ)) (e : xs[i]? = some x) : ∃ v, vs[i]? = some v ∧ (τ x).rel H v := h.nth (by rw [List.getElem?_map, e]; rfl)
theorem evo_post {D : Ds ν β ρ ξ} {e : E} {τ : α → Ow} {m : Res α} {x0 : ξ} {k : α → Out ν β ρ ξ} (h : EvO T C Γ e τ m) (w : Wk Γ (D.x x0)) {W : WX} {E : Ends} {σ : L2.St} {B Z H : Hp} {fp : List Addr} {Q : VK} (o : Oks Γ σ B Z H fp) (p : Post C D (m.to x0 k) W E B Z)
   (q : ∀ x v B' H' fq, Gon B H B' H' → (τ x).rel B' H' v fq → Oks Γ σ B' Z H' fp → Post C D (k x) W E B' Z → Q v H') : (rd T C e W).E σ H Q := by
 refine h W σ B H Q o.envC ?_
 cases m with
 | ok x => exact fun v B' H' g ⟨fq, r, n, f⟩ => q x v B' H' fq g r (o.gon g) (p.up (g.gz o.z))
 | exc e =>
   intro cls d H' s r
   exact exc_post o w p s r
 | bad => exact p
theorem post_then {D : Ds ν β ρ ξ} {Γ1 : ν' → Cx0} {s : S} {m : Out ν' β ρ ξ} {k : ν' → Out ν β ρ ξ} {W : WX} {E : Ends} {B Z : Hp} (p : Post C D (m.then k) W E B Z) (hs : ∀ x, Blk T cs C D (Γ1 x) s (k x)) : Post C ({ n := Γ1, b := D.b, t := D.t, r := D.r, x := D.x } : Ds ν' β ρ ξ) m W { E with nx := rs T cs s C W E } B Z := by
 cases m with
 | nx x => exact fun σ' B' H' fp' g o' => hs x W E σ' B' Z H' fp' o' (Post.up p g)
 | bk x => exact p
 | ct x => exact p
 | rt x => exact p
 | exc e x => exact p
 | bad => exact p
theorem b_forL {D : Ds ν' β ρ ξ} {Γ0 : ν → Cx0} {e : E} {j : Nat} {b s : S} {τ : α → Vw} {f : α → ν → Out ν ν ρ ξ} {k : ν → Out ν' β ρ ξ} {m : Res (List α)} {x0 : ξ} {s0 : ν} (h : EvO T C Γ e (fun xs => oV (vL C τ xs)) m) (w : Wk Γ (D.x x0)) (w0 : Wk Γ (Γ0 s0))
   (l : ∀ st, j < (Γ0 st).length) (hb : ∀ x st, Blk T cs C ({ n := Γ0, b := Γ0, t := D.t, r := D.r, x := D.x } : Ds ν ν ρ ξ) ((Γ0 st).set j (some (oV (τ x)))) b (f x st)) (hs : ∀ st, Blk T cs C D (Γ0 st) s (k st)) :
   Blk T cs C D Γ (.seq (.for [j] (.iL e) b) s) (m.to x0 fun xs => (loopO f xs s0).then k) := fun W E σ B Z H fp o p => by
 show (rd T C e W).E σ H _
 refine evo_post h w o p fun xs v B1 H1 fq g1 r o1 p1 => ?_
 obtain ⟨⟨a, vs, rfl, hl, hv⟩, rfl⟩ := r
 refine ⟨a, rfl, ⟨vs, sm_sqL g1.s hl⟩, ?_⟩
 obtain ⟨fr, o2⟩ := o1.wk w0
 refine for_core (α := α) (xs := xs) (Γ1 := fun x st => (Γ0 st).set j (some (oV (τ x)))) (fun i x hx B' H g s => ?_) (fun B' H g s => ?_) (fun i x hx σ B' H fp st v H' Q g o y q => ?_) hb (post_then p1 hs) o2
 · obtain ⟨v, h1, h2⟩ := vwl_nth hv hx
   exact ⟨vs, v, sm_sqL (gz_same g s) hl, h1⟩
 · exact ⟨vs, sm_sqL (gz_same g s) hl, by rw [hv.len, List.length_map]; exact Nat.le_refl _⟩
 · obtain ⟨rfl, y⟩ := y
   obtain ⟨u, h1, h2⟩ := vwl_nth hv hx
   have := y vs (sm_sqL (gz_same g o.b) hl)
   rw [h1] at this
   cases this
   obtain ⟨fp', o'⟩ := o.setV ((τ x).mono g.b h2) (l st)
   exact q _ _ o'
theorem gTg_tup {K : Frag} : ∀ {js : List Nat}, 2 ≤ js.length → gTg K js = gTup K js.length (gNs js)
 | [], h => by simp at h
 | [_], h => by simp at h
 | _ :: _ :: _, _ => rfl
def rng (lo hi : Int) : List Int := (List.range (hi - lo).toNat).map fun i : Nat => lo + (i : Int)
theorem rng_nth {lo hi : Int} {i : Nat} {x : Int} (h : (rng lo hi)[i]? = some x) : i < (hi - lo).toNat ∧ x = lo + i := by
 unfold rng at h
 rw [List.getElem?_map] at h
 by_cases q : i < (hi - lo).toNat
 · rw [List.getElem?_range q] at h
   cases h
   exact ⟨q, rfl⟩
 · rw [List.getElem?_eq_none (by simpa using q)] at h
   cases h
def rngB (i j : Int) : Bool := decide (-(2 ^ 62) ≤ i) && decide (i < 2 ^ 62) && decide (-(2 ^ 62) ≤ j) && decide (j < 2 ^ 62)
theorem for_rng {D : Ds ν' β ρ ξ} {Γ0 : ν → Cx0} {j : Nat} {b s : S} {f : Int → ν → Out ν ν ρ ξ} {k : ν → Out ν' β ρ ξ} {s0 : ν} {lo hi : Int} {W : WX} {E : Ends} {σ : L2.St} {B Z H : Hp} {fp : List Addr}
   (l : ∀ st, j < (Γ0 st).length) (hb : ∀ x st, Blk T cs C ({ n := Γ0, b := Γ0, t := D.t, r := D.r, x := D.x } : Ds ν ν ρ ξ) ((Γ0 st).set j (some (oV (vInt x)))) b (f x st)) (hs : ∀ st, Blk T cs C D (Γ0 st) s (k st))
   (p : Post C D ((loopO f (rng lo hi) s0).then k) W E B Z) (o : Oks (Γ0 s0) σ B Z H fp) :
   ∃ Wi : Nat → Nat → L2.St → Hp → Prop, (∃ m, Wi 0 m σ H) ∧ ∀ i m σ H, Wi i m σ H → ((Itr lo (hi - lo).toNat).stop i H ∧ rs T cs s C W E σ H) ∨ ((Itr lo (hi - lo).toNat).go i H ∧ ∃ N : L2.St → Hp → Prop, (∀ σ' H', N σ' H' → ∃ m', m' < m ∧ Wi (i + 1) m' σ' H') ∧ ∀ x H', (Itr lo (hi - lo).toNat).yld i H x H' → gTg C.K [j] x σ H' fun σ2 H2 => rs T cs b C W { E with nx := N, ct := N, bk := rs T cs s C W E } σ2 H2) :=
 for_core (α := Int) (E := { E with nx := rs T cs s C W E }) (xs := rng lo hi) (J := Itr lo (hi - lo).toNat) (js := [j]) (Γ1 := fun x st => (Γ0 st).set j (some (oV (vInt x)))) (fun i x hx B' H g s => (rng_nth hx).1) (fun B' H g s => by
   show (hi - lo).toNat ≤ (rng lo hi).length
   simp [rng]) (fun i x hx σ B' H fp st v H' Q g o y q => by
     obtain ⟨rfl, rfl⟩ := y
     obtain ⟨fp', o'⟩ := o.setV (w := vInt x) (v := .int (lo + i)) (by rw [(rng_nth hx).2]; rfl) (l st)
     exact q _ _ o') hb (post_then p hs) o
theorem b_forR1 {D : Ds ν' β ρ ξ} {Γ0 : ν → Cx0} {e : E} {j : Nat} {b s : S} {f : Int → ν → Out ν ν ρ ξ} {k : ν → Out ν' β ρ ξ} {m : Res Int} {x0 : ξ} {s0 : ν} (h : EvB T C Γ e vInt m) (w : Wk Γ (D.x x0)) (w0 : Wk Γ (Γ0 s0))
   (l : ∀ st, j < (Γ0 st).length) (hb : ∀ x st, Blk T cs C ({ n := Γ0, b := Γ0, t := D.t, r := D.r, x := D.x } : Ds ν ν ρ ξ) ((Γ0 st).set j (some (oV (vInt x)))) b (f x st)) (hs : ∀ st, Blk T cs C D (Γ0 st) s (k st)) :
   Blk T cs C D Γ (.seq (.for [j] (.iR1 e) b) s) (m.to x0 fun n => gdO (rngB 0 n) ((loopO f (rng 0 n) s0).then k)) := fun W E σ B Z H fp o p => by
 show (rd T C e W).E σ H _
 refine evo_post (ev_flat h) w o p fun n v B1 H1 fq g1 r o1 p1 => ?_
 obtain ⟨rfl, rfl⟩ := r
 cases hc : rngB 0 n with
 | false => rw [hc] at p1; exact p1.elim
 | true =>
   rw [hc] at p1
   unfold rngB at hc
   simp only [Bool.and_eq_true, decide_eq_true_eq] at hc
   obtain ⟨fr, o2⟩ := o1.wk w0
   refine ⟨n, rfl, hc.1.2, hc.2, ?_⟩
   have := for_rng (lo := 0) (hi := n) l hb hs p1 o2
   rw [show (n - 0).toNat = n.toNat by rw [Int.sub_zero]] at this
   exact this
def outR : Out Unit Unit ρ ξ → Res ρ
 | .nx _ => .bad
 | .bk _ => .bad
 | .ct _ => .bad
 | .rt x => .ok x
 | .exc e _ => .exc e
 | .bad => .bad
abbrev dsF (n : Nat) (τ : ρ → Ow) : Ds Unit Unit ρ Unit := ⟨fun _ => [], fun _ => [], τ, fun _ => List.replicate n none, fun _ => List.replicate n none⟩
theorem envo_args {B H : Hp} : ∀ {vs : List V} {ws : List Vw} (n : Nat), VwL B vs ws → EnvO B H (vs.map some ++ List.replicate n none) (ws.map (fun w => some (oV w)) ++ List.replicate n none) []
 | _, _, n, .nil => by
   induction n with
   | zero => exact rfl
   | succ n ih => exact ih
 | _, _, n, .cons h l => ⟨_, [], [], rfl, rfl, ⟨h, rfl⟩, envo_args n l⟩
theorem fn_read {R : Row} {ws : κ → List Vw} {τ : ρ → Ow} {f : κ → Out Unit Unit ρ Unit} {n N : Nat} {s : S} (hR : ∀ C, R.sp C = spB T cs n N s C) (hn : ∀ k, (ws k).length = n)
   (h : ∀ k, Blk T cs C (dsF N τ) ((ws k).map (fun w => some (oV w)) ++ List.replicate (N - n) none) s (f k)) : FnT C R ws τ (fun k => outR (f k)) := fun k vs B H Q E s hv z => by
 have hl : vs.length = n := by rw [hv.len, hn]
 rw [hR]
 refine ⟨hl, ?_⟩
 rw [hl]
 refine h k _ _ _ B H H [] ⟨envo_args _ hv, List.nodup_nil, (fun _ z => nomatch z), s, sm_refl _⟩ ?_
 replace z : Rz (outR (f k)) _ _ := z
 cases q : f k with
 | nx x => rw [q] at z; exact z.elim
 | bk x => rw [q] at z; exact z.elim
 | ct x => rw [q] at z; exact z.elim
 | bad => rw [q] at z; exact z.elim
 | rt x =>
   rw [q] at z
   intro v σ B' H' fp g o
   obtain ⟨⟨u, f0, g0, h0, h1, h2, h3⟩, nd, fr, b, zz⟩ := o
   cases h0
   subst h1
   refine z v B' H' ⟨g.b, zz, b, g.n⟩ ⟨f0, h2, (List.nodup_append.mp nd).1, fun a ha => ?_⟩
   have := fr a (List.mem_append_left _ ha)
   exact this
 | exc e x =>
   rw [q] at z
   intro cls d σ B' H' fp us os g o c r
   exact z cls d H' o.z (exr_of o c r)
end
end Q
namespace Q
open PySem L2 PySem.Spec
section
variable {T : Tb} {C : Kc} {Γ : Cx0} {α β γ δ κ κ' : Type}
theorem bl_len {ws : α → List Vw} {n : α → Nat} (h : ∀ x, (ws x).length = n x) : Op1 (fun v H Q => rBlt C.K .len [v] H Q) (fun x => vLs C (ws x)) (pB vInt) fun x => .ok ((n x : Nat) : Int) where
 no := fun _ => nox_ok
 run := fun x B H v Q s ⟨p, vs, h1, h2, h3⟩ q => .inl ⟨v, n x, rfl, by rw [h1]; exact .inl ⟨vs, h2, by rw [h3.len, h]⟩, say_ok s q rfl⟩
theorem bl_lenL {τ : α → Vw} : Op1 (fun v H Q => rBlt C.K .len [v] H Q) (vL C τ) (pB vInt) fun xs => .ok (xs.length : Int) := bl_len (ws := fun xs : List α => xs.map τ) fun xs => List.length_map τ
theorem bl_abs : Op1 (fun v H Q => rBlt C.K .abs [v] H Q) vInt (pB vInt) fun i => .ok (if i < 0 then -i else i) where
 no := fun _ => nox_ok
 run := fun x B H v Q s h q => ⟨x, by rw [show v = .int x from h], say_ok s q rfl⟩
theorem bl_sum : Op1 (fun v H Q => rBlt C.K .sum [v] H Q) (vL C vInt) (pB vInt) fun xs => .ok xs.sum where
 no := fun _ => nox_ok
 run := fun x B H v Q s ⟨p, vs, h1, h2, h3⟩ q => by
   rw [vl_ints h3] at h2
   exact ⟨p, x, by rw [h1], h2, say_ok s q rfl⟩
theorem bl_any : Op1 (fun v H Q => rBlt C.K .any [v] H Q) (vL C vBl) (pB vBl) fun xs => .ok (xs.any id) where
 no := fun _ => nox_ok
 run := fun x B H v Q s ⟨p, vs, h1, h2, h3⟩ q => by
   rw [vl_bls h3] at h2
   exact ⟨p, x, by rw [h1], h2, say_ok s q rfl⟩
theorem bl_intB : Op1 (fun v H Q => rBlt C.K .int [v] H Q) vBl (pB vInt) fun b => .ok (if b then 1 else 0) where
 no := fun _ => nox_ok
 run := fun x B H v Q s h q => .inl (.inr ⟨x, by rw [show v = .bl x from h], say_ok s q rfl⟩)
theorem new_ls {B H : Hp} {os : List Ow} {vs : List V} {p : Addr} (s : Same B H) (hp : H p = none) (h : OwL B H vs os []) : Gon B H B (upd H p (.lst vs)) ∧ (oLs C os).rel B (upd H p (.lst vs)) (.ref p) [p] ∧ [p].Nodup ∧ ∀ a ∈ [p], H a = none ∧ B a = none :=
 ⟨Gon.up s (sm_new hp), ⟨p, vs, [], rfl, upd_same, owl_new h hp, rfl⟩, by simp, fun a ha => by
   rw [List.mem_singleton.mp ha]
   exact ⟨hp, none_back s hp⟩⟩
theorem say_new {B H : Hp} {os : List Ow} {vs : List V} {Q : VK} {τ : γ → Ow} {x : γ} (s : Same B H) (hτ : τ x = oLs C os) (q : Say (pO τ) B H (.ok x) Q) (h : OwL B H vs os []) (p : Addr) (hp : H p = none) : Q (.ref p) (upd H p (.lst vs)) := by
 obtain ⟨g, r, n, f⟩ := new_ls (C := C) s hp h
 exact q (.ref p) B _ g ⟨[p], by rw [hτ]; exact r, n, f⟩
theorem flat_owl {τ : α → Vw} [i : Flat τ] {B B' H : Hp} : ∀ {xs : List α} {vs : List V}, VwL B' vs (xs.map τ) → OwL B H vs (xs.map fun x => oV (τ x)) []
 | [], _, .nil => rfl
 | x :: xs, _, .cons h l => ⟨[], [], rfl, ⟨i.fl x _ _ _ h, rfl⟩, flat_owl l⟩
theorem bl_list {τ : α → Vw} [i : Flat τ] : Op1 (fun v H Q => rBlt C.K .list [v] H Q) (vL C τ) (pO (oL C fun x => oV (τ x))) fun xs => .ok xs where
 no := fun _ => nox_ok
 run := fun x B H v Q s ⟨p, vs, h1, h2, h3⟩ q => .inl ⟨p, vs, by rw [h1], .inl h2, fun l hl => say_new (C := C) s rfl q (flat_owl h3) l hl⟩
def EvOp (T : Tb) (C : Kc) (Γ : Cx0) (e : E) (m : Res (Option Int)) : Prop := ∀ (W : WX) (σ : L2.St) (B H : Hp) (Q : Option Int → Hp → Prop), EnvC Γ σ B H → Rz m (fun x => ∀ B' H', Gon B H B' H' → Q x H') (ExK C W σ H) → (rd T C e W).O σ H Q
theorem eo_none : EvOp T C Γ .nil (.ok none) := fun W σ B H Q g z => z B H (.refl g.sub)
end
end Q
namespace Q
open PySem L2 PySem.Spec
section
variable {T : Tb} {C : Kc} {Γ : Cx0} {α β γ δ κ κ' : Type}
def noE {α : Type} (m : Res α) : Res α := match m with
 | .ok x => .ok x
 | _ => .bad
@[simp] theorem noE_ok {α : Type} (x : α) : noE (Res.ok x) = .ok x := rfl
def lcR (c : α → Res Bool) (f : α → Res γ) : List α → Res (List γ)
 | [] => .ok []
 | x :: xs => noE (c x) >>= fun b => cond b (f x >>= fun y => lcR c f xs >>= fun ys => .ok (y :: ys)) (lcR c f xs)
def EvPs (T : Tb) (C : Kc) (Γ : Cx0) (e : E) (m : Res Bool) : Prop := ∀ (W : WX) (σ : L2.St) (B H : Hp) (Q : Bool → Hp → Prop), EnvC Γ σ B H → Rz m (fun x => ∀ B' H', Gon B H B' H' → Q x H') (ExK C W σ H) → (rd T C e W).P σ H Q
theorem eps_nil : EvPs T C Γ .nil (.ok true) := fun W σ B H Q g z => z B H (.refl g.sub)
theorem eps_one {e : E} {m : Res Bool} (h : EvT T C Γ e m) : EvPs T C Γ (.cons e .nil) m := h
theorem noE_bind {m : Res α} {k : α → Res γ} {P : γ → Prop} {E E' : Ex → Prop} (h : Rz (noE m >>= k) P E) : Rz m (fun x => Rz (k x) P E) E' := by
 cases m with
 | ok x => exact h
 | exc e => exact h.elim
 | bad => exact h
theorem owl_snoc {os : List Ow} {o : Ow} {B H : Hp} {vs : List V} {v : V} {fp fq : List Addr} (h : OwL B H vs os fp) (r : o.rel B H v fq) : OwL B H (vs ++ [v]) (os ++ [o]) (fp ++ fq) := OwL.append h ⟨fq, [], by simp, r, rfl⟩
theorem lc_core {xs : List α} {J : It} {js : List Nat} {t e : E} {B H1 : Hp} {σ : L2.St} {ε : γ → Ow} {Γ1 : α → Cx0} {c : α → Res Bool} {f : α → Res γ} {Q : VK} {E : Ex → Prop} {W0 : WX} (hE : ∀ (σ' : L2.St) (H' : Hp) (e : Ex), Same H1 H' → E e → ExK C W0 σ' H' e) (sB : Same B H1) (hl : xs.length ≤ sizeLine)
   (go : ∀ (i : Nat) (x : α), xs[i]? = some x → ∀ H, Same H1 H → J.go i H) (stop : ∀ H, Same H1 H → J.stop xs.length H)
   (asg : ∀ (i : Nat) (x : α), xs[i]? = some x → ∀ (B' H : Hp) v H' Q, Same B B' → Same B' H → Same H1 H → J.yld i H v H' → (∀ σ2, wipe σ2 js = wipe σ js → Same H H' → EnvC (Γ1 x) σ2 B' H' → Q σ2 H') → gTg C.K js v (wipe σ js) H' Q)
   (hc : ∀ x, EvPs T C (Γ1 x) t (c x)) (he : ∀ x, EvO T C (Γ1 x) e ε (f x)) (z : Rz (lcR c f xs) (fun ys => ∀ v B' H', Gon B H1 B' H' → pO (oL C ε) ys B H1 B' H' v → Q v H') E) (D : Addr) (hD : H1 D = none) :
   ∃ Wi : Nat → Nat → Hp → Prop, (∃ m, Wi 0 m (upd H1 D (.lst []))) ∧ ∀ i m H, Wi i m H → (J.stop i H ∧ Q (.ref D) H) ∨ (J.go i H ∧ ∃ Nx : Hp → Prop, (∀ H', Nx H' → ∃ m', m' < m ∧ Wi (i + 1) m' H') ∧ ∀ x H', J.yld i H x H' → gTg C.K js x (wipe σ js) H' fun σ2 H2 => wipe σ2 js = wipe σ js ∧ (rd T C t noX).P σ2 H2 fun b H3 =>
     if b = true then (rd T C e W0).E σ2 H3 fun y H4 => ∃ acc, H4 D = some (.lst acc) ∧ acc.length < sizeLine ∧ Nx (upd H4 D (.lst (acc ++ [y]))) else Nx H3) := by
 let Wi : Nat → Nat → Hp → Prop := fun i m H => i + m = xs.length ∧ ∃ acc dn B' fp, H D = some (.lst acc) ∧ Same B B' ∧ Same H1 H ∧ Same B' H ∧ NewB B H1 B' ∧ B' D = none ∧ OwL B' H acc (dn.map ε) fp ∧ fp.Nodup ∧ (∀ a ∈ fp, H1 a = none ∧ B' a = none ∧ a ≠ D) ∧ dn.length ≤ i ∧
   Rz (lcR c f (xs.drop i) >>= fun r => .ok (dn ++ r)) (fun ys => ∀ v B' H', Gon B H1 B' H' → pO (oL C ε) ys B H1 B' H' v → Q v H') E
 refine ⟨Wi, ⟨xs.length, by omega, [], [], B, [], upd_same, sm_refl _, sm_new hD, sm_trans sB (sm_new hD), newB_refl _ _, none_back sB hD, rfl, List.nodup_nil, (fun _ z => nomatch z), Nat.le_refl _, ?_⟩, fun i m H ⟨hm, acc, dn, B', fp, w1, w2, w3, w4, w5, w6, w7, w8, w9, w10, w11⟩ => ?_⟩
 · rw [List.drop_zero]
   exact rz_bind.mpr (rz_imp z (fun _ z => z) fun _ z => z)
 rcases Nat.lt_or_ge i xs.length with hi | hi
 · refine .inr ?_
   obtain ⟨x, hx⟩ : ∃ x, xs[i]? = some x := ⟨xs[i], List.getElem?_eq_getElem hi⟩
   have hd : xs.drop i = x :: xs.drop (i + 1) := by
     rw [List.drop_eq_getElem_cons hi]
     rw [List.getElem?_eq_getElem hi] at hx
     cases hx
     rfl
   refine ⟨go i x hx H w3, Wi (i + 1) (m - 1), fun H' w => ⟨m - 1, by omega, w⟩, fun v H2 hy => ?_⟩
   refine asg i x hx B' H v H2 _ w2 w4 w3 hy fun σ2 hs sh g2 => ⟨hs, ?_⟩
   rw [hd] at w11
   replace w11 := rz_bind.mp w11
   unfold lcR at w11
   refine hc x noX σ2 B' H2 _ g2 (rz_imp (noE_bind (E' := ExK C noX σ2 H2) w11) (fun b z B3 H3 g3 => ?_) fun _ z => z)
   have hD3 : H3 D = some (.lst acc) := g3.h _ _ (sh _ _ w1)
   cases b with
   | false =>
     have s2 : Same H1 H2 := sm_trans w3 sh
     have al2 : ∀ a ∈ fp, (H2 a).isSome = true := fun a ha => by
       obtain ⟨u, hu⟩ := Option.isSome_iff_exists.mp (OwL.al w7 a ha)
       rw [sh a u hu]; rfl
     have hD2 : (H2 D).isSome = true := by rw [sh _ _ w1]; rfl
     exact ⟨by omega, acc, dn, B3, fp, hD3, sm_trans w2 g3.b, sm_trans s2 g3.h, g3.s, newB_trans s2 w5 g3.n, newB_none g3.n w6 hD2 (fun us z => by rw [sh _ _ w1] at z; cases z; rfl), owl_up w7 g3.b (sm_trans sh g3.h), w8, fun a ha => ⟨(w9 a ha).1, newB_none g3.n (w9 a ha).2.1 (al2 a ha) (OwL.nt (owl_up w7 (sm_refl _) sh) a ha), (w9 a ha).2.2⟩, by omega, rz_bind.mpr z⟩
   | true =>
     show (rd T C e W0).E σ2 H3 _
     refine he x W0 σ2 B3 H3 _ (g2.up g3.b g3.h g3.s) (rz_imp (rz_bind.mp z) (fun y z v4 B4 H4 g4 ⟨fq, r, n, fr⟩ => ?_) fun e z => hE σ2 H3 e (sm_trans (sm_trans w3 sh) g3.h) z)
     have g34 := g3.trans g4
     have s2 : Same H1 H2 := sm_trans w3 sh
     have al2 : ∀ a ∈ fp, (H2 a).isSome = true := fun a ha => by
       obtain ⟨u, hu⟩ := Option.isSome_iff_exists.mp (OwL.al w7 a ha)
       rw [sh a u hu]; rfl
     have hD2 : (H2 D).isSome = true := by rw [sh _ _ w1]; rfl
     have hD4 : H4 D = some (.lst acc) := g34.h _ _ (sh _ _ w1)
     have hDB : B4 D = none := newB_none g34.n w6 hD2 (fun us z => by rw [sh _ _ w1] at z; cases z; rfl)
     have la : acc.length = dn.length := by rw [w7.len, List.length_map]
     refine ⟨acc, hD4, by omega, by omega, acc ++ [v4], dn ++ [y], B4, fp ++ fq, upd_same, sm_trans w2 g34.b, fun a u e => ?_, fun a u e => ?_, newB_trans s2 w5 g34.n, hDB, ?_, List.nodup_append.mpr ⟨w8, n, fun a ha b hb e => ?_⟩, fun a ha => ?_, by simp; omega, rz_bind.mpr ?_⟩
     · rw [upd_ne (fun q => by rw [q, hD] at e; cases e)]
       exact g34.h a u (s2 a u e)
     · rw [upd_ne (fun q => by rw [q, hDB] at e; cases e)]
       exact g34.s a u e
     · rw [List.map_append]
       have nf : ∀ a ∈ fp ++ fq, a ≠ D := fun a ha => (List.mem_append.mp ha).elim (fun h => (w9 a h).2.2) fun h q => by
         have := (fr a h).1
         rw [q, g3.h _ _ (sh _ _ w1)] at this; cases this
       refine OwL.mono (sm_refl _) (fun a ha => upd_ne (nf a ha)) (owl_snoc (owl_up w7 g34.b (sm_trans sh g34.h)) r)
     · subst e
       have := al2 a ha
       rw [none_back g3.h (fr a hb).1] at this; cases this
     · rcases List.mem_append.mp ha with ha | ha
       · exact ⟨(w9 a ha).1, newB_none g34.n (w9 a ha).2.1 (al2 a ha) (OwL.nt (owl_up w7 (sm_refl _) sh) a ha), (w9 a ha).2.2⟩
       · refine ⟨none_back s2 (none_back g3.h (fr a ha).1), (fr a ha).2, fun q => ?_⟩
         have := (fr a ha).1
         rw [q, g3.h _ _ (sh _ _ w1)] at this; cases this
     · refine rz_imp (rz_bind.mp z) (fun ys z => ?_) fun _ z => z
       rw [show dn ++ [y] ++ ys = dn ++ y :: ys by simp]
       exact z
 · refine .inl ?_
   have hi2 : i = xs.length := by omega
   subst hi2
   refine ⟨stop H w3, ?_⟩
   rw [List.drop_length] at w11
   replace w11 : ∀ v B' H', Gon B H1 B' H' → pO (oL C ε) (dn ++ []) B H1 B' H' v → Q v H' := w11
   rw [List.append_nil] at w11
   refine w11 (.ref D) B' H ⟨w2, w3, w4, w5⟩ ⟨D :: fp, ⟨D, acc, fp, rfl, w1, w7, rfl⟩, List.nodup_cons.mpr ⟨fun z => (w9 D z).2.2 rfl, w8⟩, fun a ha => ?_⟩
   rcases List.mem_cons.mp ha with rfl | ha
   · exact ⟨hD, w6⟩
   · exact ⟨(w9 a ha).1, (w9 a ha).2.1⟩
def wipeΓ (Γ : Cx0) : List Nat → Cx0
 | [] => Γ
 | j :: js => (wipeΓ Γ js).set j none
theorem wipe_env {B H : Hp} {σ : L2.St} (g : EnvC Γ σ B H) : ∀ js : List Nat, EnvC (wipeΓ Γ js) (wipe σ js) B H
 | [] => g
 | j :: js => ⟨fun i o e => by
     have ih := wipe_env g js
     unfold wipeΓ at e
     unfold wipe
     by_cases h : j = i
     · subst h
       rcases Nat.lt_or_ge j (wipeΓ Γ js).length with q | q
       · rw [List.getElem?_set_self q] at e; cases e
       · rw [List.getElem?_eq_none (by simpa using q)] at e; cases e
     · rw [List.getElem?_set_ne h] at e ⊢
       exact ih.get i o e, g.sub, by
     unfold wipeΓ wipe
     rw [List.length_set, List.length_set]
     exact (wipe_env g js).len⟩
theorem wipe_in {k : Nat} : ∀ {js : List Nat} {σ : L2.St}, k ∈ js → (wipe σ js)[k]? = σ[k]?.map fun _ => none
 | j :: js, σ, h => by
   unfold wipe
   by_cases e : j = k
   · subst e
     rcases Nat.lt_or_ge j σ.length with q | q
     · rw [List.getElem?_set_self (by rw [wipe_length]; exact q), List.getElem?_eq_getElem q]; rfl
     · rw [List.getElem?_eq_none (by rw [List.length_set, wipe_length]; exact q), List.getElem?_eq_none q]; rfl
   · rw [List.getElem?_set_ne e]
     exact wipe_in ((List.mem_cons.mp h).resolve_left (Ne.symm e))
theorem wipe_set {σ : L2.St} {js : List Nat} {i : Nat} {v : Option V} (h : i ∈ js) : wipe (σ.set i v) js = wipe σ js := by
 refine List.ext_getElem? fun k => ?_
 by_cases hk : k ∈ js
 · rw [wipe_in hk, wipe_in hk]
   by_cases e : i = k
   · subst e
     rcases Nat.lt_or_ge i σ.length with q | q
     · rw [List.getElem?_set_self q, List.getElem?_eq_getElem q]; rfl
     · rw [List.getElem?_eq_none (by rw [List.length_set]; exact q), List.getElem?_eq_none q]
   · rw [List.getElem?_set_ne e]
 · rw [wipe_out hk, wipe_out hk, List.getElem?_set_ne (fun e : i = k => hk (by rw [← e]; exact h))]
theorem wipe_wipe {σ : L2.St} {js : List Nat} : wipe (wipe σ js) js = wipe σ js := by
 refine List.ext_getElem? fun k => ?_
 by_cases hk : k ∈ js
 · rw [wipe_in hk, wipe_in hk]
   cases σ[k]? <;> rfl
 · rw [wipe_out hk]
theorem envC_set {B H : Hp} {σ : L2.St} {w : Vw} {v : V} {j : Nat} (g : EnvC Γ σ B H) (r : w.rel B v) : EnvC (Γ.set j (some (oV w))) (σ.set j (some v)) B H := ⟨fun i o e => by
 by_cases h : j = i
 · subst h
   rcases Nat.lt_or_ge j Γ.length with q | q
   · rw [List.getElem?_set_self q] at e
     cases e
     exact ⟨v, [], by rw [List.getElem?_set_self (by rw [g.len]; exact q)], r, rfl⟩
   · rw [List.getElem?_eq_none (by simpa using q)] at e; cases e
 · rw [List.getElem?_set_ne h] at e ⊢
   exact g.get i o e, g.sub, by rw [List.length_set, List.length_set]; exact g.len⟩
theorem envC_setL {B H : Hp} {js0 : List Nat} {σ0 : L2.St} : ∀ {is : List Nat} {ws : List Vw} {vs : List V} {Γ : Cx0} {σ : L2.St} {Q : L2.St → Hp → Prop}, VwL B vs ws → is.length = ws.length → (∀ i ∈ is, i ∈ js0) → wipe σ js0 = wipe σ0 js0 → EnvC Γ σ B H → (∀ σ2, wipe σ2 js0 = wipe σ0 js0 → EnvC (setL Γ is ws) σ2 B H → Q σ2 H) → gNs is vs σ H Q
 | [], [], _, _, _, _, .nil, _, _, w, o, q => ⟨rfl, q _ w o⟩
 | i :: is, w :: ws, _, Γ, σ, Q, .cons (a := v) (l₁ := vs) h l, e, b, z, o, q =>
   ⟨v, vs, rfl, envC_setL l (by simpa using e) (fun j hj => b j (List.mem_cons_of_mem _ hj)) (by rw [wipe_set (b i List.mem_cons_self)]; exact z) (envC_set o h) q⟩
theorem ev_lc {it t e : E} {j : Nat} {τ : α → Vw} {ε : γ → Ow} {c : α → Res Bool} {f : α → Res γ} {m : Res (List α)} (h : EvO T C Γ it (fun xs => oV (vL C τ xs)) m) (hc : ∀ x, EvPs T C (((wipeΓ Γ [j]).set j (some (oV (τ x))))) t (c x))
   (he : ∀ x, EvO T C ((wipeΓ Γ [j]).set j (some (oV (τ x)))) e ε (f x)) : EvO T C Γ (.lc [j] (.iL it) t e) (oL C ε) (m >>= fun xs => gd (decide (xs.length ≤ sizeLine)) (lcR c f xs)) := fun W σ B H Q g z => by
 refine .inl ?_
 show (rd T C it W).E σ H _
 refine h W σ B H _ g (rz_imp (rz_bind.mp z) (fun xs z v B1 H1 g1 ⟨fp, ⟨⟨a, vs, hv, hl, hp⟩, hfp⟩, _, _⟩ => ?_) fun _ z => z)
 subst hv
 have hgd : decide (xs.length ≤ sizeLine) = true ∧ Rz (lcR c f xs) (fun x => ∀ (v : V) (B' H' : Hp), Gon B H B' H' → pO (oL C ε) x B H B' H' v → Q v H') (ExK C W σ H) := by
   cases hd : decide (xs.length ≤ sizeLine) with
   | true => rw [hd] at z; exact ⟨rfl, z⟩
   | false => rw [hd] at z; exact z.elim
 refine ⟨a, rfl, ⟨vs, sm_sqL g1.s hl⟩, fun D hD => ?_⟩
 have g0 := wipe_env (g.up g1.b g1.h g1.s) [j]
 refine lc_core (α := α) (xs := xs) (js := [j]) (σ := σ) (ε := ε) (Γ1 := fun x => (wipeΓ Γ [j]).set j (some (oV (τ x)))) (E := ExK C W σ H) (W0 := fun cls d _ H' => W cls d σ H') (fun _ _ _ s h => h.up (sm_trans g1.h s)) g1.s (of_decide_eq_true hgd.1) (fun i x hx H2 s => ?_) (fun H2 s => ?_) (fun i x hx B' H2 v H' Q2 sb s sh y q => ?_) hc he (rz_imp hgd.2 (fun ys q v B' H' g2 p => q v B' H' (g1.trans g2) (Back.bk (P := pO (oL C ε)) ys B H B1 H1 B' H' v g1 p)) fun _ z => z) D hD
 · obtain ⟨v, h1, h2⟩ := vwl_nth hp hx
   exact ⟨vs, v, sm_sqL (sm_trans g1.s s) hl, h1⟩
 · exact ⟨vs, sm_sqL (sm_trans g1.s s) hl, by rw [hp.len, List.length_map]; exact Nat.le_refl _⟩
 · obtain ⟨rfl, y⟩ := y
   obtain ⟨u, h1, h2⟩ := vwl_nth hp hx
   have := y vs (sm_sqL (sm_trans g1.s sh) hl)
   rw [h1] at this
   cases this
   exact q _ (by rw [wipe_set (List.mem_singleton.mpr rfl)]; exact wipe_wipe) (sm_refl _) (envC_set (g0.up sb sh s) ((τ x).mono sb h2))
end
end Q
namespace Q
open PySem L2 PySem.Spec
section
variable {T : Tb} {cs : List Nat} {C : Kc} {Γ : Cx0} {α β γ δ ν ν' ρ ξ κ κ' : Type}
theorem ev_bin {a b : E} {o : Operator} {τ : α → Vw} {τ' : β → Vw} {P : PR γ} [Back P] {op : α → β → Res γ} {ma : Res α} {mb : Res β} (ha : EvB T C Γ a τ ma) (hb : EvB T C Γ b τ' mb) (ho : Op2 (rBin C.K o) τ τ' P op) :
   Ev T C P Γ (.bin o a b) (ma >>= fun x => mb >>= fun y => op x y) := ev_op2 (fun _ => rfl) ha hb ho
theorem ev_cmp {a b : E} {o : CmpOp} {τ : α → Vw} {τ' : β → Vw} {P : PR γ} [Back P] {op : α → β → Res γ} {ma : Res α} {mb : Res β} (ha : EvB T C Γ a τ ma) (hb : EvB T C Γ b τ' mb) (ho : Op2 (rCmp C.K o) τ τ' P op) :
   Ev T C P Γ (.cmp o a b) (ma >>= fun x => mb >>= fun y => op x y) := ev_op2 (fun _ => rfl) ha hb ho
theorem ev_ix {a b : E} {τ : α → Vw} {τ' : β → Vw} {P : PR γ} [Back P] {op : α → β → Res γ} {ma : Res α} {mb : Res β} (ha : EvB T C Γ a τ ma) (hb : EvB T C Γ b τ' mb) (ho : Op2 (rIxA C.K) τ τ' P op) :
   Ev T C P Γ (.ix a b) (ma >>= fun x => mb >>= fun y => op x y) := ev_op2 (fun _ => rfl) ha hb ho
theorem ev_neg {a : E} {m : Res Int} (h : EvB T C Γ a vInt m) : EvB T C Γ (.neg a) vInt (m >>= fun x => .ok (-x)) := ev_op1 (a := a) (r := rU fun i => .int (-i)) (fun _ => rfl) h op_neg
theorem b_frz {D : Ds ν β ρ ξ} {i : Nat} {o : Ow} {s : S} {m : Out ν β ρ ξ} (hi : Γ[i]? = some (some o)) (h : Blk T cs C D (Γ.set i (some (oV o.vw))) s m) : Blk T cs C D Γ s m := fun W E σ B Z H fp ok p => by
 obtain ⟨v, f, g, q1, q2, q3, q4⟩ := ok.env.focus hi
 have nd := q3.nodup_iff.mpr ok.nd
 obtain ⟨n1, n2, n3⟩ := List.nodup_append.mp nd
 have fB : ∀ a ∈ f, B a = none := fun a ha => (ok.fr a (q3.mem_iff.mp (List.mem_append_left _ ha))).2
 have gz : Gz B Z (frzB B H f) := ⟨frz_b fB, fun a u e => by
   by_cases ha : a ∈ f
   · exact .inr (.inl (ok.fr a (q3.mem_iff.mp (List.mem_append_left _ ha))).1)
   · rw [frzB_out ha] at e; exact .inl e⟩
 obtain ⟨fp', z1, z2⟩ := q4 (frzB B H f) H (oV o.vw) [] gz.b (fun _ _ => rfl) ⟨o.sub gz.b (fun a ha => frzB_in ha) q2, rfl⟩
 have hm : ∀ a ∈ fp', a ∈ g := fun a ha => z2.mem_iff.mpr ha
 refine h W E σ (frzB B H f) Z H fp' ⟨z1, z2.nodup_iff.mp n2, fun a ha => ?_, frz_h ok.b, ok.z⟩ (p.up gz)
 have hg := hm a ha
 have fr := ok.fr a (q3.mem_iff.mp (List.mem_append_right _ hg))
 refine ⟨fr.1, ?_⟩
 rw [frzB_out fun z => n3 a z a hg rfl]
 exact fr.2
theorem ev_isi {a : E} {t : String} {τ : α → Vw} {b : Bool} {m : Res α} (h : EvB T C Γ a τ m) (r : ∀ x (H : Hp) v Q, (τ x).rel H v → Q (.bl b) H → rIsi C.K [v, .ty t] H Q) : EvB T C Γ (.isi a t) vBl (m >>= fun _ => .ok b) := fun W σ B H Q g z => by
 show (rd T C a W).E σ H _
 exact h W σ B H _ g (rz_imp (rz_bind.mp z) (fun x z v B1 H1 g1 p1 => r x H1 v Q p1 (z _ B1 H1 g1 rfl)) fun _ z => z)
end
end Q
namespace Q
open PySem L2 PySem.Spec
section
variable {T : Tb} {cs : List Nat} {C : Kc} {Γ : Cx0} {α β γ δ ν ν' ρ ξ κ κ' : Type}
theorem ev_a2p {a b es : E} {x y : Bool} (h : EvT T C Γ a (.ok x)) (h2 : EvAT T C Γ (.cons b es) (.ok y)) : EvAT T C Γ (.cons a (.cons b es)) (.ok (x && y)) := by
 have := ev_a2 h h2
 cases x <;> exact this
theorem ev_r2p {a b es : E} {x y : Bool} (h : EvT T C Γ a (.ok x)) (h2 : EvRT T C Γ (.cons b es) (.ok y)) : EvRT T C Γ (.cons a (.cons b es)) (.ok (x || y)) := by
 have := ev_r2 h h2
 cases x <;> exact this
theorem ev_av2p {a b es : E} {x y : Bool} (h : EvB T C Γ a vBl (.ok x)) (h2 : EvAV T C Γ (.cons b es) (.ok y)) : EvAV T C Γ (.cons a (.cons b es)) (.ok (x && y)) := by
 have := ev_av2 h h2
 cases x <;> exact this
class OwV (o : α → Ow) (v : outParam (α → Vw)) : Prop where
 eq : ∀ x, (o x).vw = v x
instance {τ : α → Vw} : OwV (fun x => oV (τ x)) τ := ⟨fun _ => rfl⟩
instance {p : V → Prop} {o : α → Ow} {v : α → Vw} [i : OwV o v] : OwV (fun x => oQ p (o x)) v := ⟨fun x => i.eq x⟩
theorem owv_map {o : α → Ow} {v : α → Vw} [i : OwV o v] (xs : List α) : (xs.map o).map Ow.vw = xs.map v := by
 rw [List.map_map]
 exact List.map_congr_left fun x _ => i.eq x
instance {o : α → Ow} {v : α → Vw} [i : OwV o v] : OwV (oL C o) (vL C v) := ⟨fun xs => by
 show vLs C ((xs.map o).map Ow.vw) = vLs C (xs.map v)
 rw [owv_map]⟩
theorem owv_tup {os : α → List Ow} {ws : α → List Vw} (h : ∀ x, (os x).map Ow.vw = ws x) : OwV (fun x => oTup C (os x)) (fun x => vTup C (ws x)) := ⟨fun x => by
 show vTup C ((os x).map Ow.vw) = _
 rw [h]⟩
theorem ev_fz {e : E} {o : α → Ow} {v : α → Vw} [i : OwV o v] {m : Res α} (h : EvO T C Γ e o m) : EvO T C Γ e (fun x => oV (v x)) m := by
 have := ev_frz h
 rw [show (fun x => oV (o x).vw) = fun x => oV (v x) from funext fun x => by rw [i.eq]] at this
 exact this
theorem ev_see {e : E} {o : α → Ow} {v : α → Vw} [i : OwV o v] {m : Res α} (h : EvO T C Γ e o m) : EvB T C Γ e v m := by
 have := ev_seen (ev_peek h)
 rw [show (fun x => (o x).vw) = v from funext fun x => i.eq x] at this
 exact this
inductive Bor : Cx0 → Cx0 → Prop
 | nil : Bor [] []
 | drop {o : Option Ow} {Γ Γ' : Cx0} : Bor Γ Γ' → Bor (o :: Γ) (none :: Γ')
 | put {o : Ow} {w : Vw} {Γ Γ' : Cx0} : o.vw = w → Bor Γ Γ' → Bor (some o :: Γ) (some (oV w) :: Γ')
theorem Bor.envC {B H : Hp} {Γ Γ' : Cx0} (b : Bor Γ Γ') : ∀ {σ : L2.St}, EnvC Γ σ B H → EnvC Γ' σ H H := by
 have key : ∀ {Γ Γ' : Cx0}, Bor Γ Γ' → Γ.length = Γ'.length ∧ ∀ (i : Nat) (o : Ow), Γ'[i]? = some (some o) → ∃ p, Γ[i]? = some (some p) ∧ o = oV p.vw := fun {Γ Γ'} b => by
   induction b with
   | nil => exact ⟨rfl, fun i o e => by simp at e⟩
   | drop b ih =>
     refine ⟨by rw [List.length_cons, List.length_cons, ih.1], fun i o e => ?_⟩
     cases i with
     | zero => simp at e
     | succ i => exact ih.2 i o (by simpa using e)
   | put h b ih =>
     refine ⟨by rw [List.length_cons, List.length_cons, ih.1], fun i o e => ?_⟩
     cases i with
     | zero =>
       simp only [List.getElem?_cons_zero, Option.some.injEq] at e
       subst e h
       exact ⟨_, rfl, rfl⟩
     | succ i => exact ih.2 i o (by simpa using e)
 intro σ g
 obtain ⟨k1, k2⟩ := key b
 refine ⟨fun i o e => ?_, sm_refl _, by rw [g.len, k1]⟩
 obtain ⟨p, q1, rfl⟩ := k2 i o e
 obtain ⟨v, f, h1, h2⟩ := g.get i p q1
 exact ⟨v, [], h1, p.sub g.sub (fun _ _ => rfl) h2, rfl⟩
theorem bor_evT {Γ' : Cx0} {e : E} {m : Res Bool} (b : Bor Γ Γ') (h : EvT T C Γ' e m) : EvT T C Γ e m := fun W σ B H Q g z =>
 h W σ H H Q (b.envC g) (rz_imp z (fun x q B' H' g1 => q B H' ⟨sm_refl _, g1.h, sm_trans g.sub g1.h, newB_refl _ _⟩) fun _ z => z)
theorem wk_envC {B H : Hp} {Γ Γ' : Cx0} (w : Wk Γ Γ') : ∀ {σ : L2.St}, EnvC Γ σ B H → EnvC Γ' σ B H := by
 have key : ∀ {Γ Γ' : Cx0}, Wk Γ Γ' → Γ.length = Γ'.length ∧ ∀ (i : Nat) (o : Ow), Γ'[i]? = some (some o) → ∃ p, Γ[i]? = some (some p) ∧ Le p o := fun {Γ Γ'} b => by
   induction b with
   | nil => exact ⟨rfl, fun i o e => by simp at e⟩
   | drop b ih =>
     refine ⟨by rw [List.length_cons, List.length_cons, ih.1], fun i o e => ?_⟩
     cases i with
     | zero => simp at e
     | succ i => exact ih.2 i o (by simpa using e)
   | keep b ih =>
     refine ⟨by rw [List.length_cons, List.length_cons, ih.1], fun i o e => ?_⟩
     cases i with
     | zero =>
       simp only [List.getElem?_cons_zero, Option.some.injEq] at e
       subst e
       exact ⟨_, rfl, Le.refl _⟩
     | succ i => exact ih.2 i o (by simpa using e)
   | imp l b ih =>
     refine ⟨by rw [List.length_cons, List.length_cons, ih.1], fun i o e => ?_⟩
     cases i with
     | zero =>
       simp only [List.getElem?_cons_zero, Option.some.injEq] at e
       subst e
       exact ⟨_, rfl, l⟩
     | succ i => exact ih.2 i o (by simpa using e)
 intro σ g
 obtain ⟨k1, k2⟩ := key w
 refine ⟨fun i o e => ?_, g.sub, by rw [g.len, k1]⟩
 obtain ⟨p, q1, l⟩ := k2 i o e
 obtain ⟨v, f, h1, h2⟩ := g.get i p q1
 exact ⟨v, f, h1, l.le _ _ _ _ h2⟩
theorem wk_ev {Γ' : Cx0} {e : E} {P : PR α} {m : Res α} (w : Wk Γ Γ') (h : Ev T C P Γ' e m) : Ev T C P Γ e m := fun W σ B H Q g z => h W σ B H Q (wk_envC w g) z
theorem wk_evT {Γ' : Cx0} {e : E} {m : Res Bool} (w : Wk Γ Γ') (h : EvT T C Γ' e m) : EvT T C Γ e m := fun W σ B H Q g z => h W σ B H Q (wk_envC w g) z
class Ity (C : Kc) (τ : α → Vw) (n : outParam String) : Prop where
 ty : ∀ x H v, (τ x).rel H v → TyX C.K H v (.type n)
instance : Ity C vInt "int" := ⟨fun x H v h => by cases h; exact .base (.int x)⟩
instance : Ity C vBl "bool" := ⟨fun x H v h => by cases h; exact .base (.bl x)⟩
instance : Ity C vStr "str" := ⟨fun x H v h => by cases h; exact .base (.str x)⟩
instance : Ity C vNon "NoneType" := ⟨fun x H v h => by cases h; exact .base .non⟩
theorem ity_ls {ws : α → List Vw} : Ity C (fun x => vLs C (ws x)) "list" := ⟨fun x H v ⟨p, vs, h1, h2, h3⟩ => by
 subst h1
 rcases h2 with (h | ⟨o, h⟩) | ⟨o, its, n, h, hc, _⟩
 · exact .base (.lst h)
 · exact .base (.frz h)
 · exact .kList h hc⟩
instance {τ : α → Vw} : Ity C (vL C τ) "list" := ity_ls (ws := fun xs : List α => xs.map τ)
theorem ity_tup {ws : α → List Vw} : Ity C (fun x => vTup C (ws x)) "tuple" := ⟨fun x H v ⟨p, vs, h1, h2, h3⟩ => by
 subst h1
 exact .base (.tup h2)⟩
def isiS (a t : String) : Bool := a == t || (a == "bool" && t == "int")
theorem kit_all {K : Frag} {a t : String} (ha : a ∈ ["NoneType", "bool", "int", "str", "tuple", "list", "dict"]) (ht : t ∈ tysOk) : PySem.W.kitOne K (.type a) (.type t) = some (isiS a t) := by
 simp only [List.mem_cons, List.not_mem_nil, or_false] at ha
 simp only [tysOk, List.mem_cons, List.not_mem_nil, or_false] at ht
 rcases ha with rfl | rfl | rfl | rfl | rfl | rfl | rfl <;> rcases ht with rfl | rfl | rfl | rfl | rfl | rfl <;> rfl
theorem ev_isiT {a : E} {t n : String} {τ : α → Vw} [i : Ity C τ n] {b : Bool} {m : Res α} (h : EvB T C Γ a τ m) (hn : n ∈ ["NoneType", "bool", "int", "str", "tuple", "list", "dict"]) (ht : t ∈ tysOk) (hb : isiS n t = b) : EvB T C Γ (.isi a t) vBl (m >>= fun _ => .ok b) :=
 ev_isi h fun x H v Q r q => ⟨v, .ty t, .type n, .type t, b, rfl, .ty t, i.ty x H v r, by rw [kit_all hn ht, hb], q⟩
theorem Oks.setN {σ : L2.St} {B Z H : Hp} {i : Nat} {fp : List Addr} (h : Oks Γ σ B Z H fp) : ∃ fq, Oks (Γ.set i none) (σ.set i none) B Z H fq := by
 have key : ∀ {Γ : Cx0} {σ : List (Option V)} {fp : List Addr} {i : Nat}, EnvO B H σ Γ fp → ∃ fq, EnvO B H (σ.set i none) (Γ.set i none) fq ∧ fq.Sublist fp := fun {Γ} => by
   induction Γ with
   | nil => intro σ fp i h; cases σ with
     | nil => exact ⟨fp, h, .refl _⟩
     | cons _ _ => cases h
   | cons a Γ ih =>
     intro σ fp i h
     cases σ with
     | nil => cases a <;> cases h
     | cons u σ =>
       cases a with
       | none =>
         cases i with
         | zero => exact ⟨fp, h, .refl _⟩
         | succ i => exact ih (σ := σ) (i := i) h
       | some o =>
         obtain ⟨w, f0, g0, h0, h1, h2, h3⟩ := h
         subst h1
         cases i with
         | zero => exact ⟨g0, h3, List.sublist_append_right f0 g0⟩
         | succ i =>
           obtain ⟨fq, q1, q2⟩ := ih (i := i) h3
           exact ⟨f0 ++ fq, ⟨w, f0, fq, h0, rfl, h2, q1⟩, List.Sublist.append (.refl _) q2⟩
 obtain ⟨fq, q1, q2⟩ := key (i := i) h.env
 exact ⟨fq, q1, h.nd.sublist q2, fun a ha => h.fr a (q2.subset ha), h.b, h.z⟩
def catO {ν β ρ ξ η : Type} (cs : List Nat) (p : Nat → Bool) (m : Out ν β ρ η) (h : Ex → η → Out ν β ρ ξ) (o : η → ξ) : Out ν β ρ ξ := match m with
 | .nx x => .nx x
 | .bk x => .bk x
 | .ct x => .ct x
 | .rt x => .rt x
 | .exc e y => cond (decide (e.c ∈ cs)) (cond (p e.c) (h e y) (.exc e (o y))) .bad
 | .bad => .bad
end
end Q
namespace Q
open PySem L2 PySem.Spec
def vX (a : Addr) (dx : Option Addr) (fs : List (Str × V)) : Vw := ⟨fun B v => v = .ref a ∧ ((fs = [] ∧ dx = none) ∨ ∃ d fl, dx = some d ∧ B d = some (.xd fl) ∧ (fl = fs ∨ ∃ f p vs, fl = [(f, V.ref p)] ∧ fs = encL f vs)), fun e h => ⟨h.1, h.2.imp_right fun ⟨d, fl, h1, h2, h3⟩ => ⟨d, fl, h1, e _ _ h2, h3⟩⟩, fun e h => ⟨h.1, h.2.imp_right fun ⟨d, fl, z1, z2, z3⟩ => ⟨d, fl, z1, e.eq z2 rfl (fun _ _ z => nomatch z), z3⟩⟩⟩
section
variable {T : Tb} {cs : List Nat} {C : Kc} {Γ : Cx0} {α β γ δ ν ν' ρ ξ η κ κ' : Type}
def noEO (m : Out ν β ρ ξ) : Out ν β ρ ξ := match m with
 | .exc _ _ => .bad
 | m => m
@[simp] theorem noEO_nx (x : ν) : noEO (Out.nx x : Out ν β ρ ξ) = .nx x := rfl
@[simp] theorem noEO_rt (x : ρ) : noEO (Out.rt x : Out ν β ρ ξ) = .rt x := rfl
@[simp] theorem noEO_bk (x : β) : noEO (Out.bk x : Out ν β ρ ξ) = .bk x := rfl
@[simp] theorem noEO_ct (x : β) : noEO (Out.ct x : Out ν β ρ ξ) = .ct x := rfl
theorem vx_rel {e : Ex} {d : Option Addr} {Z B : Hp} {a : Addr} {us : List V} {os : List Ow} (r : ExD C e d Z B us os) : (vX a d e.fs).rel B (.ref a) := ⟨rfl, by
 rcases r with ⟨_, _, h | ⟨dd, h1, h2, _, _⟩⟩ | ⟨dd, p, f, vs, _, _, h1, h2, h3, _⟩
 · exact .inl h
 · exact .inr ⟨dd, _, h1, h2, .inl rfl⟩
 · exact .inr ⟨dd, _, h1, h3, .inr ⟨f, p, vs, rfl, h2⟩⟩⟩
theorem b_tryA {D : Ds ν β ρ ξ} {Γx : η → Cx0} {b h : S} {n i : Nat} {mb : Out ν β ρ η} {hm : Ex → η → Out ν β ρ ξ} {o : η → ξ} (hb : Blk T cs C ({ n := D.n, b := D.b, t := D.t, r := D.r, x := Γx } : Ds ν β ρ η) Γ b mb) (li : ∀ y, i < (Γx y).length)
   (hh : ∀ a dx e y, e.c ∈ cs → T.sub e.c n = true → Blk T cs { C with ex := some (e.c, a, dx) } D ((Γx y).set i (some (oV (vX a dx e.fs)))) h (hm e y)) (exm : ∀ m ∈ cs, PySem.W.exmOne C.K (.ref (C.cl m)) (.ref (C.cl n)) = some (T.sub m n))
   (hn : ∀ x, (D.n x).set i none = D.n x) (hk : ∀ x, (D.b x).set i none = D.b x) (w : ∀ y, Wk (Γx y) (D.x (o y))) : Blk T cs C D Γ (.tryA b n i h) (catO cs (fun m => T.sub m n) mb (fun e y => noEO (hm e y)) o) := fun W E σ B Z H fp ok p => by
 refine hb _ E σ B Z H fp ok ?_
 cases mb with
 | nx x => exact p
 | bk x => exact p
 | ct x => exact p
 | rt x => exact p
 | bad => exact p
 | exc e y =>
   intro cls d σ1 B1 H1 fp1 us os g1 o1 cr r
   replace p : Post C D (cond (decide (e.c ∈ cs)) (cond (T.sub e.c n) (noEO (hm e y)) (.exc e (o y))) .bad) W E B Z := p
   cases hc : decide (e.c ∈ cs) with
   | false => rw [hc] at p; exact p.elim
   | true =>
     rw [hc] at p
     replace p : Post C D (cond (T.sub e.c n) (noEO (hm e y)) (.exc e (o y))) W E B Z := p
     have hc := of_decide_eq_true hc
     refine ⟨T.sub e.c n, by rw [cr]; exact exm e.c hc, fun ht a ha => ⟨e.c, hc, cr, ?_⟩, fun hf => ?_⟩
     · rw [ht] at p
       replace p : Post C D (noEO (hm e y)) W E B Z := p
       obtain ⟨fp0, o0⟩ := r.drop o1
       obtain ⟨fp2, o2⟩ := o0.setV (w := vX a d e.fs) (v := .ref a) (vx_rel r) (li y)
       refine hh a d e y hc ht noX _ _ B1 Z H1 fp2 o2 ?_
       have p2 := p.up g1
       cases q : hm e y with
       | nx x =>
         rw [q] at p2
         intro σ3 B3 H3 fp3 g3 o3
         obtain ⟨fp4, o4⟩ := o3.setN (i := i)
         rw [hn] at o4
         exact p2 _ B3 H3 fp4 g3 o4
       | bk x =>
         rw [q] at p2
         intro σ3 B3 H3 fp3 g3 o3
         obtain ⟨fp4, o4⟩ := o3.setN (i := i)
         rw [hk] at o4
         exact p2 _ B3 H3 fp4 g3 o4
       | ct x =>
         rw [q] at p2
         intro σ3 B3 H3 fp3 g3 o3
         obtain ⟨fp4, o4⟩ := o3.setN (i := i)
         rw [hk] at o4
         exact p2 _ B3 H3 fp4 g3 o4
       | rt x => rw [q] at p2; exact p2
       | exc e x => rw [q] at p2; exact p2.elim
       | bad => rw [q] at p2; exact p2
     · rw [hf] at p
       obtain ⟨fp2, o2⟩ := r.cv (fun _ _ _ _ _ o => o.wk (w y)) o1
       exact p cls d σ1 B1 H1 fp2 us os g1 o2 cr r
theorem ev_isx {i m c : Nat} {a : Addr} {dx : Option Addr} {fs : List (Str × V)} (hi : Γ[i]? = some (some (oV (vX a dx fs)))) : EvB T { C with ex := some (m, a, dx) } Γ (.isx i c) vBl (.ok (T.sub m c)) := fun W σ B H Q g z => by
 obtain ⟨v, f, h1, ⟨⟨rfl, h2⟩, _⟩⟩ := g.get i _ hi
 refine ⟨m, a, dx, rfl, h1, (show 1 ≤ sizeLine by decide), fun d e => ?_, fun H' s => ?_⟩
 · rcases h2 with ⟨_, q⟩ | ⟨d', fl, q, hd, _⟩
   · rw [q] at e; cases e
   · rw [q] at e; cases e; exact ⟨fl, g.sub _ _ hd⟩
 · have := z (.bl (T.sub m c)) B H' (Gon.up g.sub s) rfl
   rw [show [c].any (T.sub m) = T.sub m c by simp]
   exact this
theorem ev_isv {i m : Nat} {a : Addr} {dx : Option Addr} {fs : List (Str × V)} (hi : Γ[i]? = some (some (oV (vX a dx fs)))) : EvB T { C with ex := some (m, a, dx) } Γ (.isv i) vBl (.ok true) := fun W σ B H Q g z => by
 obtain ⟨v, f, h1, ⟨⟨rfl, h2⟩, _⟩⟩ := g.get i _ hi
 refine ⟨m, a, dx, rfl, h1, fun d e => ?_, z _ B H (.refl g.sub) rfl⟩
 rcases h2 with ⟨_, q⟩ | ⟨d', fl, q, hd, _⟩
 · rw [q] at e; cases e
 · rw [q] at e; cases e; exact ⟨fl, g.sub _ _ hd⟩
theorem ev_hot {i : Nat} {es : E} {τ : α → Ow} {m : Res α} (h : EvO T C Γ (.call i es) τ m) : EvO T C Γ (.callH i es) τ m := h
end
theorem allLt {n : Nat} {js : List Nat} (h : (js.all fun j => Nat.blt j n) = true) : ∀ j ∈ js, j < n := fun j hj => Nat.le_of_ble_eq_true (List.all_eq_true.mp h j hj)
section
variable {T : Tb} {cs : List Nat} {C : Kc} {Γ : Cx0} {α ν β ρ ξ : Type}
end
theorem law_ok {R : Row} {C : Kc} {f : List Int → Out Unit Unit Bool Unit} (h : FnT C R (fun k : List Int × Unit => [vL C vInt k.1]) (fun b => oV (vBl b)) (fun k => outR (f k.1))) (law : ∀ ns : List Int, ns.length ≤ 63 → (∀ z ∈ ns, Builtin.Int.intBits z ≤ 1048576) → f ns = .rt true) :
   ∀ vs H Q E, spLawB C.K vs H Q E → R.sp C vs H Q E := by
 rintro vs H Q E ⟨a, ns, rfl, hs, hl, hb, hq⟩
 refine h (ns, ()) _ H H Q E (sm_refl _) (.cons ⟨a, _, rfl, hs, ?_⟩ .nil) ?_
 · clear hs hl hb hq
   induction ns with
   | nil => exact .nil
   | cons n ns ih => exact .cons rfl ih
 · show Rz (outR (f ns)) _ _
   rw [law ns hl hb]
   intro v B' H' g ⟨fp, r, _, _⟩
   rw [show v = .bl true from r.1]
   exact hq H'
end Q
namespace Q
open PySem L2 PySem.Spec
structure ClsO (K : Frag) (mg : Str → Option Value) (nm : Str) (C : Addr) : Prop where
 mg : mg nm = some (.ref C)
 bs : PySem.W.subIn K (.ref C) (.type "BaseException") = some true
 ty : PySem.W.typeIn K (.ref C) = some (.type "type")
 hd : PySem.W.hasDictIn K C = true
 kp : PySem.W.keepIn K (.ref C) = true
 exc : ExcC K C
 ve : PySem.W.subIn K (.ref C) (.type "ValueError") = some true
theorem kit_ref {K : Frag} {cls : Value} {C : Addr} {b : Bool} (hdct : PySem.W.hasDictIn K C = true) (ht : PySem.W.typeIn K (.ref C) = some (.type "type")) (h4 : PySem.W.subIn K cls (.ref C) = some b) (hr : (cls == .ref C) = true → b = true) : PySem.W.kitOne K cls (.ref C) = some b := by
 obtain ⟨cd, hc, _⟩ := PySem.W.any_some hdct
 unfold PySem.W.kitOne
 split
 · rename_i e
   rw [hr e]
 · have e2 : ((PySem.W.clsIn K C).isSome && PySem.W.typeIn K (.ref C) == some (.type "type")) = true := by rw [hc, ht] <;> rfl
   show (if ((PySem.W.clsIn K C).isSome && PySem.W.typeIn K (.ref C) == some (.type "type")) = true then PySem.W.subIn K cls (.ref C) else none) = some b
   rw [if_pos e2]
   exact h4
theorem kit_ve {K : Frag} {C : Addr} (h : PySem.W.subIn K (.ref C) (.type "ValueError") = some true) : PySem.W.kitOne K (.ref C) (.type "ValueError") = some true := by
 unfold PySem.W.kitOne
 rw [if_neg (show ¬ ((Value.ref C == Value.type "ValueError") = true) from fun z => by cases beq_iff_eq.mp z)]
 show (if PySem.W.kitMeta "ValueError" = true then PySem.W.subIn K (.ref C) (.type "ValueError") else none) = some true
 rw [if_pos (by decide +kernel)]
 exact h
structure Lw where
 cs : List Nat
 sub : Nat → Nat → Bool
 /-- made of a text -/
 rs0 : List Nat
 fnm : Nat → Str
 cnm : Nat → Str
 gs : List Nat
 gnm : Nat → Str
structure Wd (L : Lw) (K : Frag) (mg : Str → Option Value) (cl : Nat → Addr) (gl : Nat → V) : Prop where
 one : ∀ n ∈ L.cs, ClsO K mg (L.cnm n) (cl n)
 ex : ∀ n ∈ L.rs0, PySem.W.excIn K (cl n) veT "ValueError.__new__" = true
 pr : ∀ m ∈ L.cs, ∀ n ∈ L.cs, PySem.W.subIn K (.ref (cl m)) (.ref (cl n)) = some (L.sub m n)
 rf : ∀ m ∈ L.cs, ∀ n ∈ L.cs, cl m = cl n → L.sub m n = true
 blt : ∀ x ∈ bltNames, mg x = none
 glo : ∀ n ∈ L.gs, ∃ u, mg (L.gnm n) = some u ∧ RelV (gl n) u
def dfR : Row := ⟨0, [], fun _ _ _ _ _ => False⟩
def gx (L : Lw) (T : Tb) (P : Program) (w : World) (K : Frag) (mg : Str → Option Value) (base : Heap) (cl : Nat → Addr) (gl : Nat → V) : Gx := { T := T, fn := L.fnm, cn := L.cnm, gs := L.gs, gn := L.gnm, cs := L.cs, P := P, w := w, C := ⟨K, cl, gl, none⟩, mg := mg, base := base }
section
variable {L : Lw} {T T' : Tb} {P : Program} {w : World} {K : Frag} {mg : Str → Option Value} {base : Heap} {cl : Nat → Addr} {gl : Nat → V}
theorem Wd.world (W : Wd L K mg cl gl) {k : Nat} {rs : List Nat} (h : rs.all (fun n => decide (n ∈ L.rs0) && decide (n ∈ L.cs) && decide (T.ini n = 0) && decide (T.mt n "#vini" ≠ 1)) = true) (hs : T.sub = L.sub) : WorldT (gx L T P w K mg base cl gl) k rs :=
 have H : ∀ n ∈ rs, n ∈ L.rs0 ∧ n ∈ L.cs ∧ T.ini n = 0 ∧ T.mt n "#vini" ≠ 1 := fun n hn => by
   have := List.all_eq_true.mp h n hn
   simp only [Bool.and_eq_true, decide_eq_true_eq] at this
   exact ⟨this.1.1.1, this.1.1.2, this.1.2, this.2⟩
 { cls :=
     { mg := fun n h => (W.one n h).mg
       sub := fun n h => (H n h).2.1
       kp := fun n h => (W.one n (H n h).2.1).kp
       bs := fun n h => (W.one n (H n h).2.1).bs
       ty := fun n h => (W.one n (H n h).2.1).ty
       exI := fun n h _ => W.ex n (H n h).1
       exO := fun n h z => absurd (H n h).2.2.1 z
       vin := fun n h z => absurd z (H n h).2.2.2
       exm := fun m hm n hn => by
         rw [show (gx L T P w K mg base cl gl).T.sub m n = L.sub m n from congrFun (congrFun hs m) n]
         exact PySem.W.exm_ref (W.one n hn).bs (W.one n hn).hd (W.one n hn).ty (W.pr m hm n hn)
       kit := fun m hm n hn => by
         rw [show (gx L T P w K mg base cl gl).T.sub m n = L.sub m n from congrFun (congrFun hs m) n]
         exact kit_ref (W.one n hn).hd (W.one n hn).ty (W.pr m hm n hn) fun e => W.rf m hm n hn (Value.ref.inj (beq_iff_eq.mp e))
       exc := fun n h => (W.one n h).exc
       ve := fun n h => kit_ve (W.one n h).ve }
   ex := rfl
   blt := W.blt
   glo := W.glo }
theorem Wd.exm (W : Wd L K mg cl gl) : ∀ m ∈ L.cs, ∀ n ∈ L.cs, PySem.W.exmOne K (.ref (cl m)) (.ref (cl n)) = some (L.sub m n) := fun m hm n hn => PySem.W.exm_ref (W.one n hn).bs (W.one n hn).hd (W.one n hn).ty (W.pr m hm n hn)
theorem FnC.tb {k : Nat} {R : Row} {f : Addr} (h : FnC (gx L T P w K mg base cl gl) k R f) : FnC (gx L T' P w K mg base cl gl) k R f := ⟨h.ex⟩
theorem FnCH.tb {k : Nat} {R : Row} {f : Addr} (h : FnCH (gx L T P w K mg base cl gl) k R f) : FnCH (gx L T' P w K mg base cl gl) k R f := ⟨h.ex⟩
def rowB (L : Lw) (T : Tb) (ar : Nat) (dfl : List V) (N : Nat) (s : S) : Row := ⟨ar, dfl, spB T L.cs ar N s⟩
theorem fn_is {c : Cn} {k : Nat} {x qual : Str} {params : Arguments} {body : List Stmt} {sc : Scope} {dvs dfl : List V} {f : Addr} {fd : FuncData} {ps : List Str} {s : S}
   (hF : FunD K x qual params body sc dvs [] f fd) (t : DefT (gx L T P w K mg base cl gl).toGt c ps sc body s false) (W : WorldT (gx L T P w K mg base cl gl) k c.rs) (cl' : CallsT (gx L T P w K mg base cl gl) c k)
   (hb : ∀ n, n ≤ dfl.length → ∃ us, Binds K fd ps us ∧ Vals (dfl.drop n) us) : FnC (gx L T P w K mg base cl gl) (k + 1) (rowB L T ps.length dfl c.N.length s) f :=
 ⟨fd, ps, def_ok (G := gx L T P w K mg base cl gl) hF t W cl', hF.kp, rfl, hb⟩
theorem fnh_is {c : Cn} {k : Nat} {x qual : Str} {params : Arguments} {body : List Stmt} {sc : Scope} {dvs dfl : List V} {f : Addr} {fd : FuncData} {ps : List Str} {s : S}
   (hF : FunD K x qual params body sc dvs [] f fd) (t : DefT (gx L T P w K mg base cl gl).toGt c ps sc body s true) (W : WorldT (gx L T P w K mg base cl gl) k []) (cl' : CallsT (gx L T P w K mg base cl gl) c k) (nf : c.fs = [] ∧ c.ms = [] ∧ c.mks = [] ∧ c.bi = [] ∧ c.rs = [])
   (hb : ∀ n, n ≤ dfl.length → ∃ us, Binds K fd ps us ∧ Vals (dfl.drop n) us) : FnCH (gx L T P w K mg base cl gl) (k + 1) (rowB L T ps.length dfl c.N.length s) f :=
 defH_ok (G := gx L T P w K mg base cl gl) (R := rowB L T ps.length dfl c.N.length s) hF t W cl' nf rfl rfl hb
theorem bind0 {fd : FuncData} {ps : List Str} (b : Binds K fd ps []) : ∀ n, n ≤ ([] : List V).length → ∃ us, Binds K fd ps us ∧ Vals (([] : List V).drop n) us := fun n _ => ⟨[], b, by cases n <;> exact .nil⟩
end
theorem FunD.ofN {K : Frag} {x qual : Str} {params : Arguments} {body : List Stmt} {sc : Scope} {f : Addr} {oc : Value} {od an : Option Addr} {kV doc pm cdv ct : Value} {osl : Array (Option Value)} (l : K.lookup f = some ⟨oc, od, .func (PySem.W.fnOf x qual params body sc .none kV doc pm an cdv ct), osl⟩)
   (c : PySem.W.codeIn K cdv qual = true) (k : PySem.W.keepIn K (.ref f) = true) : FunD K x qual params body sc [] [] f (PySem.W.fnOf x qual params body sc .none kV doc pm an cdv ct) := ⟨⟨oc, od, .none, kV, doc, pm, an, cdv, ct, osl, rfl, l, c, .inl ⟨rfl, rfl⟩, .inl rfl⟩, k⟩
end Q
namespace Q
open PySem L2 PySem.Spec
section
variable {T : Tb} {cs : List Nat} {C : Kc} {Γ : Cx0} {α β γ δ ν ν' ρ ξ κ : Type}
theorem eo_some {e : E} {m : Res Int} (h : EvB T C Γ e vInt m) : EvOp T C Γ (.cons e .nil) (m >>= fun i => .ok (some i)) := fun W σ B H Q g z => by
 show (rd T C e W).E σ H _
 exact h W σ B H _ g (rz_imp (rz_bind.mp z) (fun x q v B' H' g1 p => ⟨x, p, q B' H' g1⟩) fun _ z => z)
def cutL (xs : List α) (lo hi : Option Int) : List α := (xs.drop (HT.sIx xs.length 0 lo)).take (HT.sIx xs.length xs.length hi - HT.sIx xs.length 0 lo)
theorem vwl_drop {H : Hp} : ∀ {vs : List V} {ws : List Vw} (n : Nat), VwL H vs ws → VwL H (vs.drop n) (ws.drop n)
 | _, _, 0, h => h
 | _, _, n + 1, .nil => .nil
 | _, _, n + 1, .cons _ l => vwl_drop n l
theorem vwl_take {H : Hp} : ∀ {vs : List V} {ws : List Vw} (n : Nat), VwL H vs ws → VwL H (vs.take n) (ws.take n)
 | _, _, 0, _ => .nil
 | _, _, n + 1, .nil => .nil
 | _, _, n + 1, .cons a l => .cons a (vwl_take n l)
theorem vwl_cut {H : Hp} {vs : List V} {xs : List α} {τ : α → Vw} (h : VwL H vs (xs.map τ)) (lo hi : Option Int) : VwL H (cutV vs lo hi) ((cutL xs lo hi).map τ) := by
 unfold cutV cutL
 rw [show vs.length = xs.length by rw [h.len, List.length_map], List.map_take, List.map_drop]
 exact vwl_take _ (vwl_drop _ h)
theorem ev_slL {a lo hi : E} {τ : α → Vw} {ma : Res (List α)} {ml mh : Res (Option Int)} (ha : EvO T C Γ a (fun xs => oV (vL C τ xs)) ma) (hl : EvOp T C Γ lo ml) (hh : EvOp T C Γ hi mh) :
   EvO T C Γ (.sl a lo hi) (oL C fun x => oV (τ x)) (ma >>= fun xs => ml >>= fun i => mh >>= fun j => .ok (cutL xs i j)) := fun W σ B H Q g z => by
 show (rd T C a W).E σ H _
 refine ha W σ B H _ g (rz_imp (rz_bind.mp z) (fun xs z v B1 H1 g1 ⟨fp, ⟨⟨p, vs, hv, h2, h3⟩, _⟩, _, _⟩ => ?_) fun _ z => z)
 subst hv
 refine hl W σ B1 H1 _ (g.up g1.b g1.h g1.s) (rz_imp (rz_bind.mp z) (fun i z B2 H2 g2 => ?_) fun _ z => z.up g1.h)
 refine hh W σ B2 H2 _ (g.up (g1.trans g2).b (g1.trans g2).h g2.s) (rz_imp (rz_bind.mp z) (fun j z B3 H3 g3 => ?_) fun _ z => z.up (g1.trans g2).h)
 have g13 := g2.trans g3
 refine .inl ⟨p, vs, rfl, sm_sqL (sm_trans g13.b g13.s) h2, fun q hq => ?_⟩
 have ho := owl_oV (B := B3) (H := H3) (vwl_cut (h3.mono g13.b) i j)
 rw [List.map_map] at ho
 obtain ⟨k1, k2, k3, k4⟩ := new_ls (C := C) g3.s hq ho
 have g0 := g1.trans g13
 exact z (.ref q) B3 _ (g0.trans k1) ⟨[q], k2, k3, fun b hb => ⟨none_back g0.h (k4 b hb).1, (k4 b hb).2⟩⟩
theorem ev_ixF {a b : E} {τ : α → Vw} {ma : Res (List α)} {mb : Res Int} (ha : EvO T C Γ a (fun xs => oV (vL C τ xs)) ma) (hb : EvB T C Γ b vInt mb) : EvO T C Γ (.ix a b) (fun x => oV (τ x)) (ma >>= fun xs => mb >>= fun i => ixR xs i) := fun W σ B H Q g z => by
 show (rd T C a W).E σ H _
 refine ha W σ B H _ g (rz_imp (rz_bind.mp z) (fun xs z v B1 H1 g1 ⟨fp, ⟨⟨p, vs, hv, h2, h3⟩, _⟩, _, _⟩ => ?_) fun _ z => z)
 subst hv
 refine hb W σ B1 H1 _ (g.up g1.b g1.h g1.s) (rz_imp (rz_bind.mp z) (fun i z w B2 H2 g2 p2 => ?_) fun _ z => z.up g1.h)
 unfold ixR at z
 cases q : atI xs i with
 | none => rw [q] at z; exact z.elim
 | some x =>
   rw [q] at z
   obtain ⟨u, e2, r⟩ := h3.at q
   exact .inl (.inl ⟨p, vs, i, u, rfl, p2, sm_sqL (sm_trans g2.b g2.s) h2, e2, z u B2 H2 (g1.trans g2) ⟨[], ⟨(τ x).mono g2.b r, rfl⟩, List.nodup_nil, fun _ z => nomatch z⟩⟩)
theorem ev_pickF {ws : α → List Vw} {τ : γ → Vw} {f : α → γ} {n : Nat} {a : E} {m : Res α} (h : EvO T C Γ a (fun x => oV (vTup C (ws x))) m) (hn : ∀ x, (ws x)[n]? = some (τ (f x))) : EvO T C Γ (.ix a (.int n)) (fun y => oV (τ y)) (m >>= fun x => .ok (f x)) := fun W σ B H Q g z => by
 refine h W σ B H _ g (rz_imp (rz_bind.mp z) (fun x z v B1 H1 g1 ⟨fp, ⟨⟨p, vs, hv, h3, h4⟩, _⟩, _, _⟩ => ?_) fun _ z => z)
 subst hv
 obtain ⟨u, e2, r⟩ := h4.nth (hn x)
 refine .inl (.inr (.inl ⟨p, vs, n, u, rfl, rfl, sm_sqT g1.s (SqT.of h3), ?_, z u B1 H1 g1 ⟨[], ⟨r, rfl⟩, List.nodup_nil, fun _ z => nomatch z⟩⟩))
 unfold atI ixN
 have hl : n < vs.length := by
   rcases Nat.lt_or_ge n vs.length with q | q
   · exact q
   · rw [List.getElem?_eq_none q] at e2; cases e2
 rw [if_pos (by omega), if_pos (by omega)]
 exact e2
theorem ev_lcR1 {a t e : E} {j : Nat} {ε : γ → Ow} {c : Int → Res Bool} {f : Int → Res γ} {m : Res Int} (h : EvB T C Γ a vInt m) (hc : ∀ x, EvPs T C (((wipeΓ Γ [j]).set j (some (oV (vInt x))))) t (c x))
   (he : ∀ x, EvO T C ((wipeΓ Γ [j]).set j (some (oV (vInt x)))) e ε (f x)) : EvO T C Γ (.lc [j] (.iR1 a) t e) (oL C ε) (m >>= fun n => gd (rngB 0 n && decide (n.toNat ≤ sizeLine)) (lcR c f (rng 0 n))) := fun W σ B H Q g z => by
 refine .inl ?_
 show (rd T C a W).E σ H _
 refine h W σ B H _ g (rz_imp (rz_bind.mp z) (fun n z v B1 H1 g1 p1 => ?_) fun _ z => z)
 cases hg : rngB 0 n && decide (n.toNat ≤ sizeLine) with
 | false => rw [hg] at z; exact z.elim
 | true =>
   rw [hg] at z
   replace z : Rz (lcR c f (rng 0 n)) (fun x => ∀ (v : V) (B' H' : Hp), Gon B H B' H' → pO (oL C ε) x B H B' H' v → Q v H') (ExK C W σ H) := z
   unfold rngB at hg
   simp only [Bool.and_eq_true, decide_eq_true_eq] at hg
   have hn : (n - 0).toNat = n.toNat := by rw [Int.sub_zero]
   refine ⟨n, by rw [show v = .int n from p1], hg.1.1.2, hg.1.2, fun D hD => ?_⟩
   have g0 := wipe_env (g.up g1.b g1.h g1.s) [j]
   refine lc_core (α := Int) (xs := rng 0 n) (js := [j]) (σ := σ) (ε := ε) (Γ1 := fun x => (wipeΓ Γ [j]).set j (some (oV (vInt x)))) (E := ExK C W σ H) (W0 := fun cls d _ H' => W cls d σ H') (fun _ _ _ s h => h.up (sm_trans g1.h s)) g1.s (by simp [rng, hg.2]) (fun i x hx H2 s => ?_) (fun H2 s => ?_) (fun i x hx B' H2 v H' Q2 sb s sh y q => ?_) hc he (rz_imp z (fun ys q v B' H' g2 p => q v B' H' (g1.trans g2) (Back.bk (P := pO (oL C ε)) ys B H B1 H1 B' H' v g1 p)) fun _ z => z) D hD
   · have := (rng_nth hx).1
     rw [hn] at this
     exact this
   · show n.toNat ≤ (rng 0 n).length
     simp [rng]
   · obtain ⟨rfl, rfl⟩ := y
     have e2 := (rng_nth hx).2
     subst e2
     exact q _ (by rw [wipe_set (List.mem_singleton.mpr rfl)]; exact wipe_wipe) (sm_refl _) (envC_set (w := vInt (0 + (i : Int))) (g0.up sb sh s) rfl)
end
end Q
namespace Q
open PySem L2 PySem.Spec
section
variable {α ν β ρ ξ : Type}
def whileO (x0 : ξ) (c : ν → Res Bool) (f : ν → Out ν ν ρ ξ) : Nat → ν → Out ν β ρ ξ
 | 0, _ => .bad
 | n + 1, s => (c s).to x0 fun b => cond b (match f s with
   | .nx s' => whileO x0 c f n s'
   | .ct s' => whileO x0 c f n s'
   | .bk s' => .nx s'
   | .rt r => .rt r
   | .exc e y => .exc e y
   | .bad => .bad) (.nx s)
end
section
variable {T : Tb} {cs : List Nat} {C : Kc} {Γ : Cx0} {α β γ δ ν ν' ρ ξ κ : Type}
theorem b_whl {D : Ds ν' β ρ ξ} {Γ0 : ν → Cx0} {t : E} {b s : S} {c : ν → Res Bool} {f : ν → Out ν ν ρ ξ} {k : ν → Out ν' β ρ ξ} {x0 : ξ} {s0 : ν} (n : Nat) (w0 : Wk Γ (Γ0 s0)) (ht : ∀ st, EvT T C (Γ0 st) t (c st)) (w : ∀ st, Wk (Γ0 st) (D.x x0))
   (hb : ∀ st, Blk T cs C ({ n := Γ0, b := Γ0, t := D.t, r := D.r, x := D.x } : Ds ν ν ρ ξ) (Γ0 st) b (f st)) (hs : ∀ st, Blk T cs C D (Γ0 st) s (k st)) :
   Blk T cs C D Γ (.seq (.whl t b) s) ((whileO x0 c f n s0).then k) := fun W E σ B Z H fp o p => by
 show tWhile (rd T C t W).T (rs T cs b C W) { E with nx := rs T cs s C W E } σ H
 obtain ⟨fr, o2⟩ := o.wk w0
 have p1 := post_then p hs
 let Wi : Nat → L2.St → Hp → Prop := fun m σ H => ∃ st B' fp, Gz B Z B' ∧ Oks (Γ0 st) σ B' Z H fp ∧ Post C ({ n := Γ0, b := D.b, t := D.t, r := D.r, x := D.x } : Ds ν β ρ ξ) (whileO x0 c f m st) W { E with nx := rs T cs s C W E } B' Z
 refine ⟨Wi, ⟨n, s0, B, fr, Gz.refl _ _, o2, p1⟩, fun m σ H ⟨st, B', fp, g, o, p⟩ => ?_⟩
 cases m with
 | zero => exact p.elim
 | succ m =>
   refine evt_post (D := ({ n := Γ0, b := D.b, t := D.t, r := D.r, x := D.x } : Ds ν β ρ ξ)) (ht st) (w st) o p fun q B1 H1 g1 o1 p1 => ?_
   cases q with
   | false => exact p1 σ B1 H1 fp (Gz.refl _ _) o1
   | true =>
     refine ⟨Wi m, fun σ' H' w => ⟨m, Nat.lt_succ_self m, w⟩, ?_⟩
     refine hb st W _ σ B1 Z H1 fp o1 ?_
     have gg := g.trans (g1.gz o.z)
     replace p1 : Post C ({ n := Γ0, b := D.b, t := D.t, r := D.r, x := D.x } : Ds ν β ρ ξ) (match f st with
       | .nx s' => whileO x0 c f m s'
       | .ct s' => whileO x0 c f m s'
       | .bk s' => .nx s'
       | .rt r => .rt r
       | .exc e y => .exc e y
       | .bad => .bad) W { E with nx := rs T cs s C W E } B1 Z := p1
     cases q : f st with
     | nx s' =>
       rw [q] at p1
       exact fun σ3 B3 H3 fp3 g3 o3 => ⟨s', B3, fp3, gg.trans g3, o3, p1.up g3⟩
     | ct s' =>
       rw [q] at p1
       exact fun σ3 B3 H3 fp3 g3 o3 => ⟨s', B3, fp3, gg.trans g3, o3, p1.up g3⟩
     | bk s' => rw [q] at p1; exact p1
     | rt r => rw [q] at p1; exact p1
     | exc e y => rw [q] at p1; exact p1
     | bad => rw [q] at p1; exact p1
end
end Q
namespace Q
open PySem L2 PySem.Spec
section
variable {T : Tb} {cs : List Nat} {C : Kc} {Γ : Cx0} {α β γ δ ν ν' ρ ξ κ κ' : Type}
theorem ev_binP {a b : E} {o : Operator} {τ : α → Vw} {τ' : β → Vw} {P : PR γ} [Back P] {op : α → β → Res γ} {x : α} {y : β} (ha : EvB T C Γ a τ (.ok x)) (hb : EvB T C Γ b τ' (.ok y)) (ho : Op2 (rBin C.K o) τ τ' P op) : Ev T C P Γ (.bin o a b) (op x y) := ev_bin ha hb ho
theorem ev_binL {a b : E} {o : Operator} {τ : α → Vw} {τ' : β → Vw} {P : PR γ} [Back P] {op : α → β → Res γ} {x : α} {mb : Res β} (ha : EvB T C Γ a τ (.ok x)) (hb : EvB T C Γ b τ' mb) (ho : Op2 (rBin C.K o) τ τ' P op) : Ev T C P Γ (.bin o a b) (mb >>= fun y => op x y) := ev_bin ha hb ho
theorem ev_binR {a b : E} {o : Operator} {τ : α → Vw} {τ' : β → Vw} {P : PR γ} [Back P] {op : α → β → Res γ} {ma : Res α} {y : β} (ha : EvB T C Γ a τ ma) (hb : EvB T C Γ b τ' (.ok y)) (ho : Op2 (rBin C.K o) τ τ' P op) : Ev T C P Γ (.bin o a b) (ma >>= fun x => op x y) := ev_bin ha hb ho
theorem ev_cmpP {a b : E} {o : CmpOp} {τ : α → Vw} {τ' : β → Vw} {P : PR γ} [Back P] {op : α → β → Res γ} {x : α} {y : β} (ha : EvB T C Γ a τ (.ok x)) (hb : EvB T C Γ b τ' (.ok y)) (ho : Op2 (rCmp C.K o) τ τ' P op) : Ev T C P Γ (.cmp o a b) (op x y) := ev_cmp ha hb ho
theorem ev_cmpR {a b : E} {o : CmpOp} {τ : α → Vw} {τ' : β → Vw} {P : PR γ} [Back P] {op : α → β → Res γ} {ma : Res α} {y : β} (ha : EvB T C Γ a τ ma) (hb : EvB T C Γ b τ' (.ok y)) (ho : Op2 (rCmp C.K o) τ τ' P op) : Ev T C P Γ (.cmp o a b) (ma >>= fun x => op x y) := ev_cmp ha hb ho
theorem ev_ixP {a b : E} {τ : α → Vw} {τ' : β → Vw} {P : PR γ} [Back P] {op : α → β → Res γ} {x : α} {y : β} (ha : EvB T C Γ a τ (.ok x)) (hb : EvB T C Γ b τ' (.ok y)) (ho : Op2 (rIxA C.K) τ τ' P op) : Ev T C P Γ (.ix a b) (op x y) := ev_ix ha hb ho
theorem ev_ixR {a b : E} {τ : α → Vw} {τ' : β → Vw} {P : PR γ} [Back P] {op : α → β → Res γ} {ma : Res α} {y : β} (ha : EvB T C Γ a τ ma) (hb : EvB T C Γ b τ' (.ok y)) (ho : Op2 (rIxA C.K) τ τ' P op) : Ev T C P Γ (.ix a b) (ma >>= fun x => op x y) := ev_ix ha hb ho
theorem ev_blt1P {a : E} {f : Blt} {τ : α → Vw} {P : PR γ} [Back P] {op : α → Res γ} {x : α} (ha : EvB T C Γ a τ (.ok x)) (ho : Op1 (fun v H Q => rBlt C.K f [v] H Q) τ P op) : Ev T C P Γ (.blt f (.cons a .nil)) (op x) := ev_blt1 ha ho
theorem ev_negP {a : E} {x : Int} (h : EvB T C Γ a vInt (.ok x)) : EvB T C Γ (.neg a) vInt (.ok (-x)) := ev_neg h
theorem ev_notBP {a : E} {b : Bool} (h : EvB T C Γ a vBl (.ok b)) : EvB T C Γ (.nt a) vBl (.ok (!b)) := ev_notB h
theorem ev_notTP {a : E} {b : Bool} (h : EvT T C Γ a (.ok b)) : EvT T C Γ (.nt a) (.ok (!b)) := ev_notT h
theorem ev_getP {τ : α → Vw} {e : E} {x : Option α} (h : EvB T C Γ e (vOpt τ) (.ok x)) : EvB T C Γ e τ (getR x) := ev_get h
theorem ev_isiTP {a : E} {t n : String} {τ : α → Vw} [i : Ity C τ n] {b : Bool} {x : α} (h : EvB T C Γ a τ (.ok x)) (hn : n ∈ ["NoneType", "bool", "int", "str", "tuple", "list", "dict"]) (ht : t ∈ tysOk) (hb : isiS n t = b) : EvB T C Γ (.isi a t) vBl (.ok b) := ev_isiT h hn ht hb
theorem ev_ixFP {a b : E} {τ : α → Vw} {xs : List α} {i : Int} (ha : EvO T C Γ a (fun xs => oV (vL C τ xs)) (.ok xs)) (hb : EvB T C Γ b vInt (.ok i)) : EvO T C Γ (.ix a b) (fun x => oV (τ x)) (ixR xs i) := ev_ixF ha hb
theorem elv_consP {e es : E} {τ : α → Vw} {ws : κ → List Vw} {f : α × κ → Res γ} {x : α} {n : Res γ} (h : EvB T C Γ e τ (.ok x)) (r : EvLV T C Γ es ws (fun k => f (x, k)) n) : EvLV T C Γ (.cons e es) (fun k => τ k.1 :: ws k.2) f n := fun W σ B H P Q g z q => by
 show (rd T C e W).E σ H _
 refine h W σ B H _ g (fun v B1 H1 g1 p1 => ?_)
 refine r W σ B1 H1 P _ (g.up g1.b g1.h g1.s) (rz_imp z (fun _ z => z) fun _ z => z.up g1.h) fun k vs B2 H2 g2 p2 z2 => ?_
 exact q (x, k) (v :: vs) B2 H2 (g1.trans g2) (.cons ((τ x).mono g2.h p1) p2) z2
theorem elo_consP {e es : E} {τ : α → Ow} {os : κ → List Ow} {f : α × κ → Res γ} {x : α} {n : Res γ} (h : EvO T C Γ e τ (.ok x)) (r : EvLO T C Γ es os (fun k => f (x, k)) n) : EvLO T C Γ (.cons e es) (fun k => τ k.1 :: os k.2) f n := fun W σ B H P Q g z q => by
 show (rd T C e W).E σ H _
 refine h W σ B H _ g (fun v B1 H1 g1 ⟨fp, p1, n1, f1⟩ => ?_)
 refine r W σ B1 H1 P _ (g.up g1.b g1.h g1.s) (rz_imp z (fun _ z => z) fun _ z => z.up g1.h) fun k vs B2 H2 fq g2 p2 n2 f2 z2 => ?_
 have al := (τ x).al p1
 refine q (x, k) (v :: vs) B2 H2 (fp ++ fq) (g1.trans g2) ⟨fp, fq, rfl, ow_up p1 g2.b g2.h, p2⟩ (List.nodup_append.mpr ⟨n1, n2, fun a ha b hb e => ?_⟩) (fun a ha => ?_) z2
 · subst e
   have := al a ha
   rw [(f2 a hb).1] at this; cases this
 · rcases List.mem_append.mp ha with ha | ha
   · exact ⟨(f1 a ha).1, newB_none g2.n (f1 a ha).2 (al a ha) ((τ x).nt p1 a ha)⟩
   · exact ⟨none_back g1.h (f2 a ha).1, (f2 a ha).2⟩
theorem ev_lcP {it t e : E} {j : Nat} {τ : α → Vw} {ε : γ → Ow} {c : α → Res Bool} {f : α → Res γ} {xs : List α} (h : EvO T C Γ it (fun xs => oV (vL C τ xs)) (.ok xs)) (hc : ∀ x, EvPs T C (((wipeΓ Γ [j]).set j (some (oV (τ x))))) t (c x))
   (he : ∀ x, EvO T C ((wipeΓ Γ [j]).set j (some (oV (τ x)))) e ε (f x)) : EvO T C Γ (.lc [j] (.iL it) t e) (oL C ε) (gd (decide (xs.length ≤ sizeLine)) (lcR c f xs)) := ev_lc h hc he
theorem ev_lcR1P {a t e : E} {j : Nat} {ε : γ → Ow} {c : Int → Res Bool} {f : Int → Res γ} {n : Int} (h : EvB T C Γ a vInt (.ok n)) (hc : ∀ x, EvPs T C (((wipeΓ Γ [j]).set j (some (oV (vInt x))))) t (c x))
   (he : ∀ x, EvO T C ((wipeΓ Γ [j]).set j (some (oV (vInt x)))) e ε (f x)) : EvO T C Γ (.lc [j] (.iR1 a) t e) (oL C ε) (gd (rngB 0 n && decide (n.toNat ≤ sizeLine)) (lcR c f (rng 0 n))) := ev_lcR1 h hc he
theorem eo_someP {e : E} {i : Int} (h : EvB T C Γ e vInt (.ok i)) : EvOp T C Γ (.cons e .nil) (.ok (some i)) := eo_some h
end
end Q
namespace Q
open PySem L2 PySem.Spec
section
variable {T : Tb} {C : Kc} {Γ : Cx0} {α : Type}
end
end Q
namespace Q
open PySem L2 PySem.Spec
section
variable {α β γ ν ν' ρ ξ η : Type}
theorem gd_t {b : Bool} {m : Res α} (h : b = true) : gd b m = m := by subst h; rfl
theorem gdO_t {b : Bool} {m : Out ν β ρ ξ} (h : b = true) : gdO b m = m := by subst h; rfl
theorem mulB_of {i j : Int} (a b : Nat) (hi : i.natAbs < 2 ^ a) (hj : j.natAbs < 2 ^ b) (h : a + b ≤ 134217728) : mulB i j = true := by
 have h1 : Builtin.Int.intBits i ≤ a := PyProof.Rows.intBits_le hi
 have h2 : Builtin.Int.intBits j ≤ b := PyProof.Rows.intBits_le hj
 unfold mulB
 exact decide_eq_true (by omega)
theorem divOk_of {j : Int} (h : j ≠ 0) (b : Nat) (hj : j.natAbs < 2 ^ b) (hb : b ≤ 9000) : divOk j = true := by
 unfold divOk
 rw [decide_eq_true h, decide_eq_true, Bool.and_self]
 have h1 : j.natAbs ≠ 0 := by omega
 have := (Nat.log2_lt h1).mpr hj
 omega
theorem nz_of {j : Int} (h : j ≠ 0) : (!decide (j = 0)) = true := by simp [h]
theorem rngB_of {i j : Int} (h1 : -(2 ^ 62) ≤ i) (h2 : i < 2 ^ 62) (h3 : -(2 ^ 62) ≤ j) (h4 : j < 2 ^ 62) : rngB i j = true := by
 unfold rngB
 rw [decide_eq_true h1, decide_eq_true h2, decide_eq_true h3, decide_eq_true h4]; rfl
theorem rng_mem {lo hi x : Int} (h : x ∈ rng lo hi) : lo ≤ x ∧ x < hi := by
 unfold rng at h
 obtain ⟨i, h1, h2⟩ := List.mem_map.mp h
 have := List.mem_range.mp h1
 omega
theorem rng_len (lo hi : Int) : (rng lo hi).length = (hi - lo).toNat := by simp [rng]
theorem loopO_nx {f : α → ν → Out ν ν ρ ξ} {x : α} {xs : List α} {s s' : ν} (h : f x s = .nx s') : loopO (β := β) f (x :: xs) s = loopO f xs s' := by simp only [loopO, h]
theorem loopO_fold {f : α → ν → Out ν ν ρ ξ} (g : ν → α → ν) : ∀ (xs : List α) (s : ν), (∀ x ∈ xs, ∀ s, f x s = .nx (g s x)) → loopO (β := β) f xs s = .nx (xs.foldl g s)
 | [], s, _ => rfl
 | x :: xs, s, h => by rw [loopO_nx (h x List.mem_cons_self s), loopO_fold g xs _ fun y hy => h y (List.mem_cons_of_mem _ hy)]; rfl
theorem shaped_str {x : Str} (h : PyData.strOk x = true) : SeqAt.shaped (.str x) = true := by
 show (PyData.strOk x && decide (0 ≤ 64)) = true
 rw [h]; rfl
theorem eqR_of {d e : PyData} (h1 : SeqAt.shaped d = true) (h2 : SeqAt.shaped e = true) : eqR d e = .ok (PyData.eqv d e) := by
 unfold eqR
 rw [h1, h2]; rfl
theorem neR_of {d e : PyData} (h1 : SeqAt.shaped d = true) (h2 : SeqAt.shaped e = true) : neR d e = .ok (!PyData.eqv d e) := by
 unfold neR
 rw [h1, h2]; rfl
theorem eqR_str {x y : Str} (hx : PyData.strOk x = true) (hy : PyData.strOk y = true) : eqR (.str x) (.str y) = .ok (decide (x = y)) := by
 rw [eqR_of (shaped_str hx) (shaped_str hy)]
 show Res.ok (x == y) = _
 by_cases h : x = y <;> simp [h]
theorem ixR_ok {xs : List α} {i : Nat} {x : α} (h : xs[i]? = some x) : ixR xs (i : Int) = .ok x := by
 unfold ixR
 rw [show atI xs (i : Int) = some x from ?_]; rfl
 unfold atI ixN
 have hl : i < xs.length := by
   rcases Nat.lt_or_ge i xs.length with q | q
   · exact q
   · rw [List.getElem?_eq_none q] at h; cases h
 rw [if_pos (by omega), if_pos (by omega)]
 exact h
theorem ixR_int {xs : List α} {i : Int} {x : α} (h0 : 0 ≤ i) (h : xs[i.toNat]? = some x) : ixR xs i = .ok x := by
 have := ixR_ok h
 rw [show ((i.toNat : Nat) : Int) = i by omega] at this
 exact this
end
abbrev tS (l : List Nat) : Str := ⟨l.toArray⟩
theorem tS_tl (x : Str) : tS x.cps.toList = x := by cases x with | mk a => cases a; rfl
def tOk (n : Nat) (x : Str) : Prop := x.length ≤ n ∧ ∀ c ∈ x.cps.toList, c < 128
theorem tOk.ok {n : Nat} {x : Str} (h : tOk n x) : PyData.strOk x = true := by
 show x.cps.all (· < 0x110000) = true
 rw [← Array.all_toList, List.all_eq_true]
 intro c hc
 have := h.2 c hc
 exact decide_eq_true (by omega)
theorem tOk.le {n m : Nat} {x : Str} (h : tOk n x) (l : n ≤ m) : tOk m x := ⟨Nat.le_trans h.1 l, h.2⟩
theorem tOk.one {c : Nat} (h : c < 128) : tOk 1 (tS [c]) := ⟨Nat.le_refl 1, fun d hd => by rw [List.mem_singleton.mp hd]; exact h⟩
theorem tOk.at {n : Nat} {x : Str} {i : Nat} {c : Nat} (h : tOk n x) (e : x.cps.toList[i]? = some c) : tOk 1 (tS [c]) := .one (h.2 c (List.mem_of_getElem? e))
theorem tOk.tl {n : Nat} {x : Str} (h : tOk n x) : tOk n (tS x.cps.toList) := by rw [tS_tl]; exact h
section
variable {α β γ ν ν' ρ ξ η : Type}
def Oz (m : Out ν β ρ ξ) (N : ν → Prop) (B C : β → Prop) (R : ρ → Prop) (X : Ex → ξ → Prop) : Prop := match m with
 | .nx x => N x
 | .bk x => B x
 | .ct x => C x
 | .rt x => R x
 | .exc e x => X e x
 | .bad => False
section
variable {N : ν → Prop} {N' : ν' → Prop} {B C : β → Prop} {R : ρ → Prop} {X : Ex → ξ → Prop} {P : α → Prop} {P' : γ → Prop} {E : Ex → Prop}
theorem oz_nx {x : ν} : Oz (.nx x : Out ν β ρ ξ) N B C R X ↔ N x := Iff.rfl
theorem oz_bk {x : β} : Oz (.bk x : Out ν β ρ ξ) N B C R X ↔ B x := Iff.rfl
theorem oz_ct {x : β} : Oz (.ct x : Out ν β ρ ξ) N B C R X ↔ C x := Iff.rfl
theorem oz_rt {x : ρ} : Oz (.rt x : Out ν β ρ ξ) N B C R X ↔ R x := Iff.rfl
theorem oz_exc {e : Ex} {x : ξ} : Oz (.exc e x : Out ν β ρ ξ) N B C R X ↔ X e x := Iff.rfl
theorem oz_then {m : Out ν' β ρ ξ} {k : ν' → Out ν β ρ ξ} : Oz (m.then k) N B C R X ↔ Oz m (fun x => Oz (k x) N B C R X) B C R X := by cases m <;> exact Iff.rfl
theorem oz_to {m : Res α} {x : ξ} {k : α → Out ν β ρ ξ} : Oz (m.to x k) N B C R X ↔ Rz m (fun y => Oz (k y) N B C R X) (fun e => X e x) := by cases m <;> exact Iff.rfl
theorem oz_gdO {b : Bool} {m : Out ν β ρ ξ} : Oz (gdO b m) N B C R X ↔ b = true ∧ Oz m N B C R X := by
 cases b with
 | true => exact ⟨fun h => ⟨rfl, h⟩, fun h => h.2⟩
 | false => exact ⟨fun h => h.elim, fun h => nomatch h.1⟩
theorem oz_cond {b : Bool} {m n : Out ν β ρ ξ} : Oz (cond b m n) N B C R X ↔ (b = true → Oz m N B C R X) ∧ (b = false → Oz n N B C R X) := by cases b <;> simp
theorem oz_noEO {m : Out ν β ρ ξ} : Oz (noEO m) N B C R X ↔ Oz m N B C R (fun _ _ => False) := by cases m <;> exact Iff.rfl
theorem oz_catO {cs : List Nat} {p : Nat → Bool} {m : Out ν β ρ η} {h : Ex → η → Out ν β ρ ξ} {o : η → ξ} : Oz (catO cs p m h o) N B C R X ↔ Oz m N B C R (fun e y => e.c ∈ cs ∧ (p e.c = true → Oz (h e y) N B C R X) ∧ (p e.c = false → X e (o y))) := by
 cases m with
 | exc e y =>
   show Oz (cond (decide (e.c ∈ cs)) (cond (p e.c) (h e y) (.exc e (o y))) .bad) N B C R X ↔ _
   rw [oz_cond, oz_cond]
   show (_ → (_ → _) ∧ (_ → X e (o y))) ∧ (_ → False) ↔ e.c ∈ cs ∧ (_ → _) ∧ (_ → X e (o y))
   by_cases q : e.c ∈ cs <;> simp [q]
 | _ => exact Iff.rfl
theorem rz_okI {x : α} : Rz (.ok x) P E ↔ P x := Iff.rfl
theorem rz_excI {e : Ex} : Rz (.exc e) P E ↔ E e := Iff.rfl
theorem rz_gd {b : Bool} {m : Res α} : Rz (gd b m) P E ↔ b = true ∧ Rz m P E := by
 cases b with
 | true => exact ⟨fun h => ⟨rfl, h⟩, fun h => h.2⟩
 | false => exact ⟨fun h => h.elim, fun h => nomatch h.1⟩
theorem rz_cond {b : Bool} {m n : Res α} : Rz (cond b m n) P E ↔ (b = true → Rz m P E) ∧ (b = false → Rz n P E) := by cases b <;> simp
theorem rz_andR {m n : Res Bool} {P : Bool → Prop} : Rz (andR m n) P E ↔ Rz m (fun b => (b = true → Rz n P E) ∧ (b = false → P false)) E := by
 unfold andR
 rw [rz_bind]
 simp only [rz_cond, rz_okI]
theorem rz_orR {m n : Res Bool} {P : Bool → Prop} : Rz (orR m n) P E ↔ Rz m (fun b => (b = true → P true) ∧ (b = false → Rz n P E)) E := by
 unfold orR
 rw [rz_bind]
 simp only [rz_cond, rz_okI]
theorem rz_iteR {m : Res Bool} {a b : Res α} : Rz (iteR m a b) P E ↔ Rz m (fun c => (c = true → Rz a P E) ∧ (c = false → Rz b P E)) E := by
 unfold iteR
 rw [rz_bind]
 simp only [rz_cond]
theorem rz_getR {x : Option α} : Rz (getR x) P E ↔ ∃ y, x = some y ∧ P y := by
 cases x with
 | none => exact ⟨fun h => h.elim, fun ⟨_, h, _⟩ => nomatch h⟩
 | some x => exact ⟨fun h => ⟨x, rfl, h⟩, fun ⟨y, h, k⟩ => by cases h; exact k⟩
theorem rz_outR {o : Out Unit Unit ρ ξ} {P : ρ → Prop} : Rz (outR o) P E ↔ Oz o (fun _ => False) (fun _ => False) (fun _ => False) P (fun e _ => E e) := by cases o <;> exact Iff.rfl
theorem rz_ex {m : Res α} (h : Rz m P (fun _ => False)) : ∃ x, m = .ok x ∧ P x := by
 cases m with
 | ok x => exact ⟨x, rfl, h⟩
 | exc e => exact h.elim
 | bad => exact h.elim
theorem rz_eq {m : Res α} {x : α} (h : Rz m (· = x) (fun _ => False)) : m = .ok x := by
 obtain ⟨y, h1, h2⟩ := rz_ex h
 rw [h1, h2]
end
end
end Q
namespace Q
open PySem L2 PySem.Spec
section
variable {T : Tb} {cs : List Nat} {C : Kc} {Γ : Cx0} {α β γ ν ν' ρ ξ : Type}
theorem Oks.chg {σ : L2.St} {B Z H : Hp} {fp : List Addr} {i : Nat} {o : Ow} (k : Oks Γ σ B Z H fp) (hi : Γ[i]? = some (some o)) :
   ∃ v f, σ[i]? = some (some v) ∧ o.rel B H v f ∧ f.Nodup ∧ (∀ a ∈ f, Z a = none ∧ B a = none) ∧
     ∀ (o' : Ow) (H' : Hp) (f' : List Addr), o'.rel B H' v f' → f'.Nodup → (∀ a, a ∉ f → (H a).isSome = true → H' a = H a) → (∀ a ∈ f', a ∈ f ∨ H a = none) → ∃ fp', Oks (Γ.set i (some o')) σ B Z H' fp' := by
 obtain ⟨v, f, g, q1, q2, q3, q4⟩ := k.env.focus hi
 have al : ∀ a ∈ fp, (H a).isSome = true := k.env.al
 have inf : ∀ a ∈ f, a ∈ fp := fun a ha => q3.mem_iff.mp (List.mem_append_left _ ha)
 have ing : ∀ a ∈ g, a ∈ fp := fun a ha => q3.mem_iff.mp (List.mem_append_right _ ha)
 obtain ⟨n1, n2, n3⟩ := List.nodup_append.mp (q3.nodup_iff.mpr k.nd)
 have ff : ∀ a ∈ f, Z a = none ∧ B a = none := fun a ha => k.fr a (inf a ha)
 refine ⟨v, f, q1, q2, n1, ff, fun o' H' f' r nd ch fr => ?_⟩
 obtain ⟨fp', z1, z2⟩ := q4 B H' o' f' (sm_refl _) (fun a ha => ch a (fun z => n3 a z a ha rfl) (al a (ing a ha))) r
 have up : ∀ (M : Hp), Same M H → (∀ a ∈ f, M a = none) → Same M H' := fun M s n a u e => by
   have h := s a u e
   rw [ch a (fun z => by rw [n a z] at e; cases e) (by rw [h]; rfl)]
   exact h
 refine ⟨fp', z1, z2.nodup_iff.mp (List.nodup_append.mpr ⟨nd, n2, fun a ha b hb e => ?_⟩), fun a ha => ?_, up B k.b fun a ha => (ff a ha).2, up Z k.z fun a ha => (ff a ha).1⟩
 · subst e
   rcases fr a ha with h | h
   · exact n3 a h a hb rfl
   · have := al a (ing a hb)
     rw [h] at this; cases this
 · rcases List.mem_append.mp (z2.mem_iff.mpr ha) with h | h
   · rcases fr a h with h | h
     · exact ff a h
     · exact ⟨none_back k.z h, none_back k.b h⟩
   · exact k.fr a (ing a h)
theorem owl_oV_inv {τ : α → Vw} {B H : Hp} : ∀ {xs : List α} {vs : List V} {f : List Addr}, OwL B H vs (xs.map fun x => oV (τ x)) f → VwL B vs (xs.map τ) ∧ f = []
 | [], [], f, h => ⟨.nil, h⟩
 | [], v :: vs, f, h => h.elim
 | x :: xs, [], f, h => h.elim
 | x :: xs, v :: vs, f, ⟨a, b, h1, h2, h3⟩ => by
   obtain ⟨k1, k2⟩ := owl_oV_inv h3
   exact ⟨.cons h2.1 k1, by rw [h1, h2.2, k2]; rfl⟩
theorem owl_oV' {τ : α → Vw} {B H : Hp} {xs : List α} {vs : List V} (h : VwL B vs (xs.map τ)) : OwL B H vs (xs.map fun x => oV (τ x)) [] := by
 have := owl_oV (B := B) (H := H) h
 rw [List.map_map] at this
 exact this
theorem Oks.list {σ : L2.St} {B Z H : Hp} {fp : List Addr} {i : Nat} {q : V → Prop} {τ : α → Vw} {xs : List α} (k : Oks Γ σ B Z H fp) (hi : Γ[i]? = some (some (oQ q (oL C (fun x => oV (τ x)) xs)))) :
   ∃ l vs, σ[i]? = some (some (.ref l)) ∧ H l = some (.lst vs) ∧ VwL B vs (xs.map τ) ∧ ∀ vs' (ys : List α), VwL B vs' (ys.map τ) → ∃ fp', Oks (Γ.set i (some (oQ q (oL C (fun x => oV (τ x)) ys)))) σ B Z (upd H l (.lst vs')) fp' := by
 obtain ⟨v, f, q1, ⟨qv, l, vs, f0, rfl, hl, ho, rfl⟩, n, fr, up⟩ := k.chg hi
 obtain ⟨h1, rfl⟩ := owl_oV_inv ho
 refine ⟨l, vs, q1, hl, h1, fun vs' ys h => up _ _ [l] ⟨qv, l, vs', [], rfl, upd_same, owl_oV' h, rfl⟩ n (fun a ha _ => upd_ne fun z => ha (by rw [z]; exact List.mem_cons_self)) fun a ha => .inl ha⟩
theorem vwl_app {H : Hp} {τ : α → Vw} {vs us : List V} {xs ys : List α} (h : VwL H vs (xs.map τ)) (k : VwL H us (ys.map τ)) : VwL H (vs ++ us) ((xs ++ ys).map τ) := by
 rw [List.map_append]; exact vwl_append h k
def setI (xs : List α) (j : Int) (y : α) : Option (List α) := (ixN xs.length j).map fun n => xs.set n y
theorem ev_cat {a b : E} {τ : α → Vw} {ma mb : Res (List α)} (ha : EvO T C Γ a (fun xs => oV (vL C τ xs)) ma) (hb : EvO T C Γ b (fun xs => oV (vL C τ xs)) mb) :
   EvO T C Γ (.bin .Add a b) (oL C fun x => oV (τ x)) (ma >>= fun xs => mb >>= fun ys => gd (decide (xs.length + ys.length ≤ sizeLine)) (.ok (xs ++ ys))) := fun W σ B H Q g z => by
 show (rd T C a W).E σ H _
 refine ha W σ B H _ g (rz_imp (rz_bind.mp z) (fun xs z v B1 H1 g1 ⟨fp, ⟨⟨p, vs, hv, h2, h3⟩, _⟩, _, _⟩ => ?_) fun _ z => z)
 subst hv
 show (rd T C b W).E σ H1 _
 refine hb W σ B1 H1 _ (g.up g1.b g1.h g1.s) (rz_imp (rz_bind.mp z) (fun ys z u B2 H2 g2 ⟨fp', ⟨⟨p', us, hu, k2, k3⟩, _⟩, _, _⟩ => ?_) fun _ z => z.up g1.h)
 subst hu
 cases hz : decide (xs.length + ys.length ≤ sizeLine) with
 | false => rw [hz] at z; exact z.elim
 | true =>
   rw [hz] at z
   have e1 := h3.len
   have e2 := k3.len
   rw [List.length_map] at e1 e2
   refine .inr (.inr (.inr (.inr ⟨p, p', vs, us, rfl, rfl, sm_sqL (sm_trans g2.b g2.s) h2, sm_sqL g2.s k2, by rw [e1, e2]; exact of_decide_eq_true hz, fun q hq => ?_⟩)))
   have ho := owl_oV' (B := B2) (H := H2) (vwl_app (h3.mono g2.b) k3)
   obtain ⟨k1, k2, k3, k4⟩ := new_ls (C := C) g2.s hq ho
   have g0 := g1.trans g2
   exact z (.ref q) B2 _ (g0.trans k1) ⟨[q], k2, k3, fun b hb => ⟨none_back g0.h (k4 b hb).1, (k4 b hb).2⟩⟩
theorem bl_lenT {ws : α → List Vw} {n : Nat} (h : ∀ x, (ws x).length = n) : Op1 (fun v H Q => rBlt C.K .len [v] H Q) (fun x => vTup C (ws x)) (pB vInt) fun x => .ok ((n : Nat) : Int) where
 no := fun _ => nox_ok
 run := fun x B H v Q s ⟨p, vs, h1, h2, h3⟩ q => .inl ⟨v, n, rfl, by rw [h1]; exact .inr ⟨vs, SqT.of h2, by rw [h3.len, h]⟩, say_ok s q rfl⟩
end
end Q
namespace Q
open PySem L2 PySem.Spec
theorem fm_lt (a b : Int) (h : 0 < b) : 0 ≤ Int.fmod a b ∧ Int.fmod a b < b := ⟨Int.fmod_nonneg_of_pos _ h, Int.fmod_lt_of_pos _ h⟩
end Q
namespace Q
open PySem L2 PySem.Spec
class KeyC (κ : Type) where
 kk : κ → Key
 inj : ∀ {a b : κ}, kk a = kk b → a = b
instance : KeyC Int := ⟨Sum.inl, fun h => Sum.inl.inj h⟩
instance : KeyC Str := ⟨Sum.inr, fun h => Sum.inr.inj h⟩
class KeyV (κ : Type) [KeyC κ] (τk : outParam (κ → Vw)) : Prop where
 kv : ∀ x H v, (τk x).rel H v → v = kV (KeyC.kk x)
 vk : ∀ x H, (τk x).rel H (kV (KeyC.kk x))
instance : KeyV Int vInt := ⟨fun x H v h => h, fun x H => rfl⟩
instance : KeyV Str vStr := ⟨fun x H v h => h, fun x H => rfl⟩
section
variable {κ α β γ ν ν' ρ ξ : Type} [DecidableEq κ]
def dget (kvs : List (κ × α)) (k : κ) : Option α := (kvs.find? fun p => decide (p.1 = k)).map (·.2)
def dput (kvs : List (κ × α)) (k : κ) (v : α) : List (κ × α) := if (kvs.any fun p => decide (p.1 = k)) = true then kvs.map (fun p => if p.1 = k then (p.1, v) else p) else kvs ++ [(k, v)]
end
section
variable {κ α β : Type} [DecidableEq κ]
theorem dget_at {kvs : List (κ × α)} {k : κ} {x : α} (h : dget kvs k = some x) : ∃ n : Nat, kvs[n]? = some (k, x) := by
 unfold dget at h
 cases e : kvs.find? fun p => decide (p.1 = k) with
 | none => rw [e] at h; cases h
 | some p =>
   rw [e] at h
   cases h
   have h1 := List.find?_some e
   have h2 := List.mem_of_find?_eq_some e
   obtain ⟨n, hn⟩ := List.mem_iff_getElem?.mp h2
   exact ⟨n, by rw [hn, ← of_decide_eq_true h1]⟩
theorem dget_any {kvs : List (κ × α)} {k : κ} : (kvs.any fun p => decide (p.1 = k)) = (dget kvs k).isSome := by
 induction kvs with
 | nil => rfl
 | cons p l ih =>
   rw [List.any_cons]
   unfold dget
   rw [List.find?_cons]
   by_cases h : p.1 = k
   · rw [decide_eq_true h]; rfl
   · rw [decide_eq_false h, Bool.false_or, ih]; rfl
theorem dput_pres {kvs : List (κ × α)} {k : κ} {x y : α} (h : dget kvs k = some x) : dput kvs k y = kvs.map (fun p => if p.1 = k then (p.1, y) else p) := by
 unfold dput
 rw [if_pos (by rw [dget_any, h]; rfl)]
theorem dput_abs {kvs : List (κ × α)} {k : κ} {y : α} (h : dget kvs k = none) : dput kvs k y = kvs ++ [(k, y)] := by
 unfold dput
 rw [if_neg (by rw [dget_any, h]; simp)]
theorem dput_keys {kvs : List (κ × α)} {k : κ} {x y : α} (h : dget kvs k = some x) : (dput kvs k y).map (·.1) = kvs.map (·.1) := by
 rw [dput_pres h, List.map_map]
 refine List.map_congr_left fun p _ => ?_
 show (if p.1 = k then (p.1, y) else p).1 = p.1
 split <;> rfl
theorem dget_none_keys {kvs : List (κ × α)} {k : κ} (h : dget kvs k = none) : k ∉ kvs.map (·.1) := fun z => by
 obtain ⟨p, hp, e⟩ := List.mem_map.mp z
 have : (kvs.any fun p => decide (p.1 = k)) = true := List.any_eq_true.mpr ⟨p, hp, decide_eq_true e⟩
 rw [dget_any, h] at this
 cases this
theorem nodup_dput {kvs : List (κ × α)} {k : κ} {y : α} (nd : (kvs.map (·.1)).Nodup) : ((dput kvs k y).map (·.1)).Nodup := by
 cases h : dget kvs k with
 | some x => rw [dput_keys h]; exact nd
 | none =>
   rw [dput_abs h, List.map_append]
   exact List.nodup_append.mpr ⟨nd, by simp, fun a ha b hb e => by
     simp only [List.map_cons, List.map_nil, List.mem_singleton] at hb
     exact dget_none_keys h (by rw [← hb, ← e]; exact ha)⟩
end
def vN (P : Prop) (w : Vw) : Vw := ⟨fun B v => P ∧ w.rel B v, fun e h => ⟨h.1, w.mono e h.2⟩, fun e h => ⟨h.1, w.lk e h.2⟩⟩
def oN (P : Prop) (o : Ow) : Ow where
 rel := fun B H v fp => P ∧ o.rel B H v fp
 mono := fun e n h => ⟨h.1, o.mono e n h.2⟩
 al := fun h => o.al h.2
 nt := fun h => o.nt h.2
 lk := fun e n h => ⟨h.1, o.lk e n h.2⟩
 vw := vN P o.vw
 sub := fun e n h => ⟨h.1, o.sub e n h.2⟩
section
variable {T : Tb} {cs : List Nat} {C : Kc} {Γ : Cx0} {κ α β γ ν ν' ρ ξ : Type} [KeyC κ] [DecidableEq κ]
def vD (τ : α → Vw) (kvs : List (κ × α)) : Vw := vN (kvs.map (·.1)).Nodup (vDc (kvs.map fun p => (KeyC.kk p.1, τ p.2)))
abbrev dO (τ : α → Ow) (kvs : List (κ × α)) : List (Key × Ow) := kvs.map fun p => (KeyC.kk p.1, τ p.2)
def oDO (τ : α → Ow) (kvs : List (κ × α)) : Ow := oN (kvs.map (·.1)).Nodup (oDc (dO τ kvs))
instance {τ : α → Ow} {w : α → Vw} [i : OwV τ w] : OwV (fun kvs : List (κ × α) => oDO τ kvs) (fun kvs => vD w kvs) := ⟨fun kvs => by
 show vN _ (vDc ((kvs.map fun p => (KeyC.kk p.1, τ p.2)).map fun q => (q.1, q.2.vw))) = vN _ (vDc (kvs.map fun p => (KeyC.kk p.1, w p.2)))
 rw [List.map_map]
 congr 2
 refine List.map_congr_left fun p _ => ?_
 show (KeyC.kk p.1, (τ p.2).vw) = _
 rw [i.eq]⟩
end
end Q
namespace Q
open PySem L2 PySem.Spec
def ostB : List (Str × Nat) → S
 | [] => .nop
 | p :: r => .seq (.ost (.var 0) p.1 (.var p.2)) (ostB r)
def iniB (c : Nat) (msg : Str) (fs : List (Str × Nat)) : S := .seq (.vini c (.cons (.var 0) (.cons (.str msg) .nil))) (ostB fs)
def fsAcc (vs : List V) : List (Str × Nat) → List (Str × V) → List (Str × V)
 | [], acc => acc
 | p :: r, acc => fsAcc vs r ((p.1, vs.getD (p.2 - 1) .non) :: acc)
def fsOf (fs : List (Str × Nat)) (vs : List V) : List (Str × V) := fsAcc vs fs []
structure IniOk (T : Tb) (C : Kc) (c n : Nat) (fs : List (Str × Nat)) : Prop where
 ar : (T.f (T.ini c)).ar = n + 1
 run : ∀ (vs : List V) (a : Addr) (H : Hp) (Q : VK) (E : XK), vs.length = n → H a = none →
   (∀ d H2, H2 a = some (exo a (C.cl c) (some d)) → H2 d = some (exd d (fsOf fs vs)) → H d = none → d ≠ a → (∀ b, b ≠ a → b ≠ d → H2 b = H b) → Q .non H2) → (T.f (T.ini c)).sp C (.ref a :: vs) (upd H a (exo a (C.cl c) none)) Q E
section
variable {T : Tb} {cs : List Nat} {C : Kc} {Γ : Cx0} {α β γ κ ν ρ ξ : Type}
theorem ost_more {C : Kc} {c : Nat} {a : Addr} {vs : List V} {N : Nat} {W : WX} {E : Ends} (oc : OexC C.K (C.cl c)) : ∀ (r : List (Str × Nat)) (acc : List (Str × V)) (d : Addr) (H2 : Hp), d ≠ a → (∀ p ∈ r, PySem.W.findIn C.K (.ref (C.cl c)) p.1 = some none ∧ 1 ≤ p.2 ∧ p.2 ≤ vs.length) → acc.length + r.length ≤ 900 →
   H2 a = some (exo a (C.cl c) (some d)) → H2 d = some (exd d acc) → (∀ H3, H3 a = some (exo a (C.cl c) (some d)) → H3 d = some (exd d (fsAcc vs r acc)) → (∀ b, b ≠ a → b ≠ d → H3 b = H2 b) → E.nx ((V.ref a :: vs).map some ++ List.replicate N none) H3) →
   rs T cs (ostB r) C W E ((V.ref a :: vs).map some ++ List.replicate N none) H2
 | [], acc, d, H2, hd, hp, hl, ha, he, k => k H2 ha he fun _ _ _ => rfl
 | p :: r, acc, d, H2, hd, hp, hl, ha, he, k => by
   obtain ⟨p1, p2, p3⟩ := hp p List.mem_cons_self
   rw [List.length_cons] at hl
   show tOst C.K p.1 (tVar 0) (tVar p.2) { E with nx := rs T cs (ostB r) C W E } _ H2
   refine ⟨vs.getD (p.2 - 1) .non, ?_, .ref a, rfl, a, C.cl c, rfl, oc, p1, .inr ⟨d, acc, ha, he, by omega, ?_⟩⟩
   · obtain ⟨j, hj⟩ : ∃ j, p.2 = j + 1 := ⟨p.2 - 1, by omega⟩
     rw [hj, List.map_cons, List.cons_append, List.getElem?_cons_succ, List.getElem?_append_left (by rw [List.length_map]; omega), List.getElem?_map, List.getD_eq_getElem?_getD, show j + 1 - 1 = j from rfl, List.getElem?_eq_getElem (show j < vs.length by omega)]
     rfl
   · refine ost_more oc r ((p.1, vs.getD (p.2 - 1) .non) :: acc) d _ hd (fun q hq => hp q (List.mem_cons_of_mem _ hq)) (by rw [List.length_cons]; omega) (by rw [upd_ne hd.symm]; exact ha) upd_same fun H3 h1 h2 h3 => k H3 h1 h2 fun b b1 b2 => by rw [h3 b b1 b2, upd_ne b2]
theorem iniOk {T' : Tb} {c n k N : Nat} {msg : Str} {p : Str × Nat} {r : List (Str × Nat)} (hr : (T.f (T.ini c)).ar = n + 1) (hs : ∀ C, (T.f (T.ini c)).sp C = spB T' cs (n + 1) N (iniB k msg (p :: r)) C) (oc : OexC C.K (C.cl c))
   (hf : ∀ q ∈ p :: r, PySem.W.findIn C.K (.ref (C.cl c)) q.1 = some none ∧ 1 ≤ q.2 ∧ q.2 ≤ n) (hn : n ≤ 900) (hl : r.length ≤ 800) : IniOk T C c n (p :: r) where
 ar := hr
 run := fun vs a H Q E hv ha q => by
   rw [hs]
   refine ⟨by rw [List.length_cons, hv], ?_⟩
   obtain ⟨p1, p2, p3⟩ := hf p List.mem_cons_self
   generalize N - (V.ref a :: vs).length = M
   show (tDrop (tVeI C.K (tCons (tVar 0) (tCons (tC (.str msg)) tNil)))) _ _ _
   refine ⟨.ref a, rfl, a, C.cl c, [V.str msg], rfl, Nat.le_of_ble_eq_true rfl, oc, upd_same, ?_⟩
   show tOst C.K p.1 (tVar 0) (tVar p.2) _ _ _
   refine ⟨vs.getD (p.2 - 1) .non, ?_, .ref a, rfl, a, C.cl c, rfl, oc, p1, .inl ⟨upd_same, fun d hd hda => ?_⟩⟩
   · obtain ⟨j, hj⟩ : ∃ j, p.2 = j + 1 := ⟨p.2 - 1, by omega⟩
     rw [hj, List.map_cons, List.cons_append, List.getElem?_cons_succ, List.getElem?_append_left (by rw [List.length_map]; omega), List.getElem?_map, List.getD_eq_getElem?_getD, show j + 1 - 1 = j from rfl, List.getElem?_eq_getElem (show j < vs.length by omega)]
     rfl
   · have hd0 : H d = none := by rw [upd_ne hda] at hd; exact hd
     refine ost_more (T := T') oc r [(p.1, vs.getD (p.2 - 1) .non)] d _ hda (fun q hq => by rw [hv]; exact hf q (List.mem_cons_of_mem _ hq)) (by simp; omega) upd_same (by rw [upd_ne hda]; exact upd_same) fun H3 h1 h2 h3 => ?_
     exact q d H3 h1 h2 hd0 hda fun b b1 b2 => by rw [h3 b b1 b2, upd_ne b1, upd_ne b2, upd_ne b1]
end
end Q
namespace Q
open PySem L2 PySem.Spec
theorem vin_of {P : Program} {w : World} {K : Frag} {C : Addr} (rd : PySem.W.readsIn K C (.type "type") = true) (ga : PySem.W.specialIn K (.ref C) "__getattribute__" = some (some (.builtin "type.__getattribute__")))
   (fc : PySem.W.findCls K (.ref C) (.type "type") "__init__" = some (.val (.builtin "ValueError.__init__"))) (pl : Sem Bool) (A : Around) (s : Shared) (Q : Value × List Value → Shared → Prop) (E' : Value → Shared → Prop) (X : K.In s.heap) (h : Q (.builtin "ValueError.__init__", []) { s with toks := s.toks + 1 }) :
   wpAny (model P w) A (getMethod (.ref C) "__init__" pl) Q E' s := PySem.W.method_cls X ga (PySem.W.cls_value X rd fc rfl h)
structure OexW (K : Frag) (C f : Addr) : Prop where
 oc : OexC K C
 fi : PySem.W.findIn K (.ref C) "__init__" = some (some (.ref f))
 ty : PySem.W.typeIn K (.ref f) = some (.type "function")
structure Wd1 (K : Frag) (cl : Nat → Addr) (ini : Nat → Nat) (iad : Nat → Addr) (rs1 : List Nat) (bas : List Nat) : Prop where
 ow : ∀ n ∈ rs1, OexW K (cl n) (iad n)
 rd : ∀ n ∈ bas, PySem.W.readsIn K (cl n) (.type "type") = true ∧ PySem.W.specialIn K (.ref (cl n)) "__getattribute__" = some (some (.builtin "type.__getattribute__")) ∧ PySem.W.findCls K (.ref (cl n)) (.type "type") "__init__" = some (.val (.builtin "ValueError.__init__"))
section
variable {L : Lw} {T T' : Tb} {P : Program} {w : World} {K : Frag} {mg : Str → Option Value} {base : Heap} {cl : Nat → Addr} {gl : Nat → V}
theorem Wd.world1 (W : Wd L K mg cl gl) {ini : Nat → Nat} {iad : Nat → Addr} {rs1 bas : List Nat} (W1 : Wd1 K cl ini iad rs1 bas) {k : Nat} {rs : List Nat}
   (h : rs.all (fun n => decide (n ∈ L.cs) && (decide (n ∈ L.rs0 ∧ T.ini n = 0) || decide (n ∈ rs1 ∧ T.ini n ≠ 0) || decide (T.mt n "#vini" = 1 ∧ n ∈ bas ∧ n ∈ L.rs0 ∧ T.ini n = 0)) && (decide (T.mt n "#vini" ≠ 1) || decide (n ∈ bas))) = true)
   (hi : ∀ n ∈ rs, n ∈ rs1 → T.ini n ≠ 0 → ∃ k', k' + 1 ≤ k ∧ FnC (gx L T P w K mg base cl gl) k' (T.f (T.ini n)) (iad n)) (hs : T.sub = L.sub) : WorldT (gx L T P w K mg base cl gl) k rs :=
 have H : ∀ n ∈ rs, n ∈ L.cs ∧ ((n ∈ L.rs0 ∧ T.ini n = 0) ∨ (n ∈ rs1 ∧ T.ini n ≠ 0)) ∧ (T.mt n "#vini" = 1 → n ∈ bas) := fun n hn => by
   have := List.all_eq_true.mp h n hn
   simp only [Bool.and_eq_true, Bool.or_eq_true, decide_eq_true_eq] at this
   refine ⟨this.1.1, ?_, fun z => this.2.elim (fun q => absurd z q) id⟩
   rcases this.1.2 with (q | q) | q
   · exact .inl q
   · exact .inr q
   · exact .inl q.2.2
 { cls :=
     { mg := fun n h => (W.one n h).mg
       sub := fun n h => (H n h).1
       kp := fun n h => (W.one n (H n h).1).kp
       bs := fun n h => (W.one n (H n h).1).bs
       ty := fun n h => (W.one n (H n h).1).ty
       exI := fun n h z => W.ex n ((H n h).2.1.elim (fun q => q.1) fun q => absurd z q.2)
       exO := fun n h z => by
         have q := (H n h).2.1.resolve_left fun q => z q.2
         obtain ⟨k', hk, hf⟩ := hi n h q.1 z
         exact ⟨(W1.ow n q.1).oc, iad n, k', hk, hf, (W1.ow n q.1).fi, (W1.ow n q.1).ty⟩
       vin := fun n h z => by
         obtain ⟨r1, r2, r3⟩ := W1.rd n ((H n h).2.2 z)
         exact fun pl A s Q E' X q => vin_of r1 r2 r3 pl A s Q E' X q
       exm := fun m hm n hn => by
         rw [show (gx L T P w K mg base cl gl).T.sub m n = L.sub m n from congrFun (congrFun hs m) n]
         exact PySem.W.exm_ref (W.one n hn).bs (W.one n hn).hd (W.one n hn).ty (W.pr m hm n hn)
       kit := fun m hm n hn => by
         rw [show (gx L T P w K mg base cl gl).T.sub m n = L.sub m n from congrFun (congrFun hs m) n]
         exact kit_ref (W.one n hn).hd (W.one n hn).ty (W.pr m hm n hn) fun e => W.rf m hm n hn (Value.ref.inj (beq_iff_eq.mp e))
       exc := fun n h => (W.one n h).exc
       ve := fun n h => kit_ve (W.one n h).ve }
   ex := rfl
   blt := W.blt
   glo := W.glo }
end
def clsSt : Stmt → Nat → Stmt
 | .ClassDef (body := b) .., j => b.getD j (.Pass ⟨0, 0, 0, 0⟩)
 | s, _ => s
theorem elv_nilE {T : Tb} {C : Kc} {Γ : Cx0} {γ : Type} {f : Unit → Res γ} {n : Res γ} (h : f () = n) : EvLV T C Γ .nil (fun _ => []) f n := h ▸ elv_nil
theorem elo_nilE {T : Tb} {C : Kc} {Γ : Cx0} {γ : Type} {f : Unit → Res γ} {n : Res γ} (h : f () = n) : EvLO T C Γ .nil (fun _ => []) f n := h ▸ elo_nil
theorem ev_slLP {T : Tb} {C : Kc} {Γ : Cx0} {α : Type} {a lo hi : E} {τ : α → Vw} {xs : List α} {i j : Option Int} (ha : EvO T C Γ a (fun xs => oV (vL C τ xs)) (.ok xs)) (hl : EvOp T C Γ lo (.ok i)) (hh : EvOp T C Γ hi (.ok j)) :
   EvO T C Γ (.sl a lo hi) (oL C fun x => oV (τ x)) (.ok (cutL xs i j)) := ev_slL ha hl hh
end Q
namespace Q
open PySem L2 PySem.Spec
section
variable {α γ : Type}
theorem lcR_mem {c : α → Res Bool} {f : α → Res γ} (p : α → Bool) (g : α → γ) : ∀ (xs : List α), (∀ x ∈ xs, c x = .ok (p x) ∧ f x = .ok (g x)) → lcR c f xs = .ok ((xs.filter p).map g)
 | [], _ => rfl
 | x :: xs, h => by
   obtain ⟨h1, h2⟩ := h x List.mem_cons_self
   unfold lcR
   rw [h1, h2, lcR_mem p g xs fun z hz => h z (List.mem_cons_of_mem _ hz)]
   cases q : p x <;> simp [q]
end
def okD (k : Nat) (d : PyData) : Prop := d.canLay0 = true ∧ d.depth ≤ k ∧ PyData.eqv d d = true
theorem okD.sh {k : Nat} {d : PyData} (h : okD k d) (hk : k ≤ 64) : SeqAt.shaped d = true := by
 show (d.canLay0 && decide (d.depth ≤ 64)) = true
 rw [h.1, decide_eq_true (Nat.le_trans h.2.1 hk)]; rfl
theorem okD.eq {k : Nat} {d : PyData} (h : okD k d) (hk : k ≤ 64) : eqR d d = .ok true := by rw [eqR_of (h.sh hk) (h.sh hk), h.2.2]
theorem okD.ne {k : Nat} {d : PyData} (h : okD k d) (hk : k ≤ 64) : neR d d = .ok false := by rw [neR_of (h.sh hk) (h.sh hk), h.2.2]; rfl
theorem okD_int (i : Int) : okD 0 (.int i) := ⟨rfl, Nat.le_refl 0, by show (i == i) = true; simp⟩
def okAll (k : Nat) (ds : List PyData) : Prop := PyData.canLayAll0 ds = true ∧ PyData.depthAll ds ≤ k ∧ PyData.eqvAll ds ds = true
theorem okAll_nil (k : Nat) : okAll k [] := ⟨rfl, Nat.zero_le _, rfl⟩
theorem okAll_cons {k : Nat} {d : PyData} {ds : List PyData} (h : okD k d) (g : okAll k ds) : okAll k (d :: ds) :=
 ⟨by show (d.canLay0 && PyData.canLayAll0 ds) = true; rw [h.1, g.1]; rfl, Nat.max_le.mpr ⟨h.2.1, g.2.1⟩, by show (PyData.eqv d d && PyData.eqvAll ds ds) = true; rw [h.2.2, g.2.2]; rfl⟩
theorem okAll_map {α : Type} {k : Nat} {f : α → PyData} : ∀ {xs : List α}, (∀ x ∈ xs, okD k (f x)) → okAll k (xs.map f)
 | [], _ => okAll_nil k
 | x :: xs, h => okAll_cons (h x List.mem_cons_self) (okAll_map fun y hy => h y (List.mem_cons_of_mem _ hy))
theorem okD.up {k m : Nat} {d : PyData} (h : okD k d) (l : k ≤ m) : okD m d := ⟨h.1, Nat.le_trans h.2.1 l, h.2.2⟩
theorem okD_lst {k : Nat} {ds : List PyData} (h : okAll k ds) : okD (k + 1) (.list ds) := ⟨h.1, Nat.succ_le_succ h.2.1, h.2.2⟩
theorem okD_tup {k : Nat} {ds : List PyData} (h : okAll k ds) : okD (k + 1) (.tuple ds) := ⟨h.1, Nat.succ_le_succ h.2.1, h.2.2⟩
theorem bits_lt {i : Int} {k : Nat} (h : Builtin.Int.intBits i ≤ k) : i.natAbs < 2 ^ k := by
 unfold Builtin.Int.intBits at h
 split at h
 · rename_i z
   have : i.natAbs = 0 := by simpa using z
   rw [this]; exact Nat.pow_pos (by decide)
 · have := Nat.lt_log2_self (n := i.natAbs)
   exact Nat.lt_of_lt_of_le this (Nat.pow_le_pow_right (by decide) h)
end Q
namespace Q
open PySem L2 PySem.Spec
section
variable {T : Tb} {cs : List Nat} {C : Kc} {Γ : Cx0} {α β γ ν ν' ρ ξ : Type}
theorem Oks.take {o : Ow} {σ : L2.St} {B Z H : Hp} {fp : List Addr} {i : Nat} (ok : Oks Γ σ B Z H fp) (h : Γ[i]? = some (some o)) :
   ∃ v f g, σ[i]? = some (some v) ∧ o.rel B H v f ∧ Oks (Γ.set i none) σ B Z H g ∧ f.Nodup ∧ (∀ a ∈ f, Z a = none ∧ B a = none) ∧ ∀ a ∈ f, a ∉ g := by
 have : ∀ {Γ : Cx0} {σ : List (Option V)} {fp : List Addr} {i : Nat}, EnvO B H σ Γ fp → Γ[i]? = some (some o) → ∃ v f g, σ[i]? = some (some v) ∧ o.rel B H v f ∧ EnvO B H σ (Γ.set i none) g ∧ (f ++ g).Perm fp := fun {Γ} => by
   induction Γ with
   | nil => intro σ fp i _ e; simp at e
   | cons a Γ ih =>
     intro σ fp i h e
     cases σ with
     | nil => cases a <;> cases h
     | cons u σ =>
       cases i with
       | zero =>
         simp only [List.getElem?_cons_zero, Option.some.injEq] at e
         subst e
         obtain ⟨v, f, g, h0, h1, h2, h3⟩ := h
         subst h0 h1
         exact ⟨v, f, g, rfl, h2, h3, .refl _⟩
       | succ i =>
         simp only [List.getElem?_cons_succ] at e
         cases a with
         | none =>
           obtain ⟨v, f, g, q1, q2, q3, q4⟩ := ih (σ := σ) h e
           exact ⟨v, f, g, q1, q2, q3, q4⟩
         | some b =>
           obtain ⟨w, f0, g0, h0, h1, h2, h3⟩ := h
           obtain ⟨v, f, g, q1, q2, q3, q4⟩ := ih h3 e
           subst h1
           refine ⟨v, f, f0 ++ g, q1, q2, ⟨w, f0, g, h0, rfl, h2, q3⟩, ?_⟩
           exact (List.perm_append_comm_assoc f f0 g).trans (q4.append_left f0)
 obtain ⟨v, f, g, q1, q2, q3, q4⟩ := this ok.env h
 obtain ⟨n1, n2, n3⟩ := List.nodup_append.mp (q4.nodup_iff.mpr ok.nd)
 exact ⟨v, f, g, q1, q2, ⟨q3, n2, fun a ha => ok.fr a (q4.mem_iff.mp (List.mem_append_right _ ha)), ok.b, ok.z⟩, n1, fun a ha => ok.fr a (q4.mem_iff.mp (List.mem_append_left _ ha)), fun a ha hb => n3 a ha a hb rfl⟩
theorem OwL.at {B H : Hp} {τ : α → Ow} : ∀ {xs : List α} {vs : List V} {f : List Addr} {n : Nat} {x : α}, OwL B H vs (xs.map τ) f → xs[n]? = some x →
   ∃ v f1 fx f2, vs[n]? = some v ∧ f = f1 ++ (fx ++ f2) ∧ (τ x).rel B H v fx ∧ ∀ H' y fy, (∀ a ∈ f1, H' a = H a) → (∀ a ∈ f2, H' a = H a) → (τ y).rel B H' v fy → OwL B H' vs ((xs.set n y).map τ) (f1 ++ (fy ++ f2))
 | [], _, _, _, _, _, e => by simp at e
 | x0 :: xs, [], _, _, _, h, _ => h.elim
 | x0 :: xs, v :: vs, f, 0, x, ⟨a, b, h1, h2, h3⟩, e => by
   simp only [List.getElem?_cons_zero, Option.some.injEq] at e
   subst e h1
   exact ⟨v, [], a, b, rfl, rfl, h2, fun H' y fy _ n2 r => ⟨fy, b, rfl, r, OwL.mono (sm_refl _) n2 h3⟩⟩
 | x0 :: xs, v :: vs, f, n + 1, x, ⟨a, b, h1, h2, h3⟩, e => by
   simp only [List.getElem?_cons_succ] at e
   obtain ⟨w, f1, fx, f2, k1, k2, k3, k4⟩ := OwL.at h3 e
   subst h1 k2
   refine ⟨w, a ++ f1, fx, f2, k1, by rw [List.append_assoc], k3, fun H' y fy n1 n2 r => ⟨a, f1 ++ (fy ++ f2), by rw [List.append_assoc], (τ x0).mono (sm_refl _) (fun c hc => n1 c (List.mem_append_left _ hc)) h2, k4 H' y fy (fun c hc => n1 c (List.mem_append_right _ hc)) n2 r⟩⟩
theorem ixN_lt {n : Nat} {i : Int} {k : Nat} (h : ixN n i = some k) : k < n := by
 unfold ixN at h
 split at h
 · split at h
   · cases h; omega
   · cases h
 · split at h
   · cases h; omega
   · cases h
end
end Q
namespace Q
open PySem L2 PySem.Spec
theorem nonrfl' {α : Sort _} {a b : α} (h : a = b) : a = b := h
theorem ok_toN {α ν β ρ ξ : Type} (a : α) (x : ξ) (k : α → Out ν β ρ ξ) : (Res.ok a).to x k = k a := nonrfl' rfl
theorem ok_bindN {α β : Type} (x : α) (k : α → Res β) : (Res.ok x >>= k) = k x := nonrfl' rfl
def wd (cf : Int → Int) (m : Int) : Str := tS ((rng 0 m).map fun x => 97 + (cf x).toNat)
def nOk (x : Str) : Prop := x.length ≤ 8 ∧ ∀ c ∈ x.cps.toList, 97 ≤ c ∧ c < 128
theorem nOk.t {x : Str} (h : nOk x) : tOk 8 x := ⟨h.1, fun c hc => (h.2 c hc).2⟩
def cellF (a0 : (List Int)) (a1 : Int) : Out Unit Unit Int Unit :=
 (Res.ok (decide (a1 < (a0.length : Int)))).to () fun b3 => cond b3
 ((ixR a0 a1).to () fun r4 => .rt r4)
 ((Res.ok (0 : Int)).to () fun r5 => .rt r5)
def mixF (a0 : Int) (a1 : Int) : Out Unit Unit Int Unit :=
 (((((gd (!decide ((2147483647 : Int) = 0)) (Res.ok (Int.fmod a0 (2147483647 : Int))) >>= fun x45 => (Res.ok (x45 + (17 : Int)))) >>= fun x46 => (gd (mulB x46 a1) (Res.ok (x46 * a1)))) >>= fun x47 => (gd (!decide ((2147483399 : Int) = 0)) (Res.ok (Int.fmod x47 (2147483399 : Int))))) >>= fun x48 => (gd (divOk (97 : Int)) (Res.ok (Int.fdiv x48 (97 : Int)))))).to () fun r49 => .rt r49
theorem cell_ok (ns : List Int) (i : Int) (h : 0 ≤ i) : ∃ z, outR (cellF ns i) = .ok z ∧ (z ∈ ns ∨ z = 0) := by
 refine ⟨if i < ns.length then ns.getD i.toNat 0 else 0, rz_eq (rz_outR.mpr ?_), ?_⟩
 · unfold cellF
   simp only [oz_nx, oz_bk, oz_ct, oz_rt, oz_exc, oz_then, oz_to, oz_gdO, oz_cond, oz_noEO, oz_catO, rz_okI, rz_excI, rz_gd, rz_cond, rz_andR, rz_orR, rz_iteR, rz_getR, rz_bind, decide_eq_true_eq, decide_eq_false_iff_not]
   refine ⟨fun h1 => ?_, fun h1 => ?_⟩
   · have h2 : i.toNat < ns.length := by omega
     rw [ixR_int h (List.getElem?_eq_getElem h2), if_pos h1]
     show _ = ns.getD _ _
     rw [List.getD_eq_getElem?_getD, List.getElem?_eq_getElem h2]; rfl
   · rw [if_neg h1]
 · by_cases h1 : i < ns.length
   · have h2 : i.toNat < ns.length := by omega
     rw [if_pos h1, List.getD_eq_getElem?_getD, List.getElem?_eq_getElem h2]
     exact .inl (List.getElem_mem h2)
   · rw [if_neg h1]; exact .inr rfl
theorem mix_ok (c b : Int) (h : 0 ≤ b ∧ b < 2 ^ 40) : ∃ z, outR (mixF c b) = .ok z ∧ 0 ≤ z ∧ z < 2 ^ 40 := by
 refine rz_ex (rz_outR.mpr ?_)
 unfold mixF
 simp only [oz_nx, oz_bk, oz_ct, oz_rt, oz_exc, oz_then, oz_to, oz_gdO, oz_cond, oz_noEO, oz_catO, rz_okI, rz_excI, rz_gd, rz_cond, rz_andR, rz_orR, rz_iteR, rz_getR, rz_bind]
 have q := fm_lt c 2147483647 (by decide)
 have q2 := fm_lt ((Int.fmod c 2147483647 + 17) * b) 2147483399 (by decide)
 rw [Int.fdiv_eq_ediv_of_nonneg _ (by decide)]
 refine ⟨by decide, mulB_of 40 40 (by omega) (by omega) (by decide), by decide, by decide, by omega, by omega⟩
end Q
namespace Q
open PySem L2 PySem.Spec
end Q
namespace Q
open PySem L2 PySem.Spec
section
variable {T : Tb} {cs : List Nat} {C : Kc} {Γ Γ' Γ'' : Cx0} {α β γ κ ν ν' ρ ξ : Type}
def Cv (Γ Γ' : Cx0) : Prop := ∀ σ B Z H fp, Oks Γ σ B Z H fp → ∃ fq, Oks Γ' σ B Z H fq
theorem Cv.refl (Γ : Cx0) : Cv Γ Γ := fun _ _ _ _ fp o => ⟨fp, o⟩
theorem Cv.trans (a : Cv Γ Γ') (b : Cv Γ' Γ'') : Cv Γ Γ'' := fun σ B Z H fp o => by
 obtain ⟨fq, o2⟩ := a σ B Z H fp o
 exact b σ B Z H fq o2
theorem Cv.wk (w : Wk Γ Γ') : Cv Γ Γ' := fun _ _ _ _ _ o => o.wk w
def ap (k : α → β) (x : α) : β := k x
theorem EnvO.envC {B H : Hp} {σ : L2.St} {fp : List Addr} (h : EnvO B H σ Γ fp) (s : Same B H) : EnvC Γ σ B H := ⟨fun i o e => by
 obtain ⟨v, f, h1, h2, _⟩ := h.get e
 exact ⟨v, f, h1, h2⟩, s, h.len⟩
theorem perm_cnt {a b : List Addr} : a.Perm b ↔ ∀ x, a.count x = b.count x := List.perm_iff_count
structure Pl (T : Tb) (C : Kc) (Γ : Cx0) (oe : Option E) (τ : α → Ow) (x : α) (put : Ow → Cx0) (pt : α → Cx0) : Prop where
 run : ∀ (σ : L2.St) (B H : Hp) (fp : List Addr), EnvO B H σ Γ fp → Same B H → ∃ u fx g,
   (∀ e, oe = some e → ∀ (W : WX) (Q : VK) (Bx Hx : Hp), Gon B H Bx Hx → (∀ B1 H1, Gon Bx Hx B1 H1 → Q u H1) → (rd T C e W).E σ Hx Q) ∧ (τ x).rel B H u fx ∧ (fx ++ g).Perm fp ∧
   ∀ B' H' (x' : Ow) fy, Same B B' → (∀ a ∈ g, H' a = H a) → x'.rel B' H' u fy → ∃ fp', EnvO B' H' σ (put x') fp' ∧ (fy ++ g).Perm fp'
 eq : ∀ y, put (τ y) = pt y
theorem pl_v {i : Nat} {τ : α → Ow} {x : α} (h : Γ[i]? = some (some (τ x))) : Pl T C Γ (some (.var i)) τ x (fun o => Γ.set i (some o)) (fun y => Γ.set i (some (τ y))) where
 run := fun σ B H fp k s => by
   obtain ⟨v, f, g, q1, q2, q3, q4⟩ := k.focus h
   refine ⟨v, f, g, fun e he W Q Bx Hx gx q => ?_, q2, q3, fun B' H' x' fy b n r => q4 B' H' x' fy b n r⟩
   cases he
   exact ⟨v, q1, q Bx Hx (.refl gx.s)⟩
 eq := fun _ => rfl
theorem Pl.un {oe : Option E} {τ : α → Ow} {x : α} {put : Ow → Cx0} {pt : α → Cx0} (h : Pl T C Γ oe τ x put pt) : Pl T C Γ none τ x put pt where
 run := fun σ B H fp k s => by
   obtain ⟨v, f, g, q1, q2, q3, q4⟩ := h.run σ B H fp k s
   exact ⟨v, f, g, fun e he => (nomatch he), q2, q3, q4⟩
 eq := h.eq
theorem OwL.foc {B H : Hp} : ∀ {os : List Ow} {vs : List V} {f : List Addr} {n : Nat} {o : Ow}, OwL B H vs os f → os[n]? = some o →
   ∃ v fx g, vs[n]? = some v ∧ (fx ++ g).Perm f ∧ o.rel B H v fx ∧ ∀ B' H' o' fy, Same B B' → (∀ a ∈ g, H' a = H a) → o'.rel B' H' v fy → ∃ f', OwL B' H' vs (os.set n o') f' ∧ (fy ++ g).Perm f'
 | [], _, _, _, _, _, e => by simp at e
 | x0 :: os, [], _, _, _, h, _ => h.elim
 | x0 :: os, v :: vs, f, 0, x, ⟨a, b, h1, h2, h3⟩, e => by
   simp only [List.getElem?_cons_zero, Option.some.injEq] at e
   subst e h1
   exact ⟨v, a, b, rfl, .refl _, h2, fun B' H' o' fy s n r => ⟨fy ++ b, ⟨fy, b, rfl, r, OwL.mono s n h3⟩, .refl _⟩⟩
 | x0 :: os, v :: vs, f, n + 1, x, ⟨a, b, h1, h2, h3⟩, e => by
   simp only [List.getElem?_cons_succ] at e
   obtain ⟨w, fx, g, k1, k2, k3, k4⟩ := OwL.foc h3 e
   subst h1
   refine ⟨w, fx, a ++ g, k1, (List.perm_append_comm_assoc fx a g).trans (k2.append_left a), k3, fun B' H' o' fy s n r => ?_⟩
   obtain ⟨f', z1, z2⟩ := k4 B' H' o' fy s (fun c hc => n c (List.mem_append_right _ hc)) r
   exact ⟨a ++ f', ⟨a, f', rfl, x0.mono s (fun c hc => n c (List.mem_append_left _ hc)) h2, z1⟩, (List.perm_append_comm_assoc fy a g).trans (z2.append_left a)⟩
theorem pl_tup {oe : Option E} {n : Nat} {os : α → List Ow} {x : α} {put : Ow → Cx0} {pt : α → Cx0} {τ : β → Ow} {y : β} {up : β → α}
   (h : Pl T C Γ oe (fun x => oTup C (os x)) x put pt) (ho : (os x)[n]? = some (τ y)) (hu : ∀ z, (os x).set n (τ z) = os (up z)) :
   Pl T C Γ (oe.map fun e => .ix e (.int n)) τ y (fun o => put (oTup C ((os x).set n o))) (fun z => pt (up z)) where
 run := fun σ B H fp k s => by
   obtain ⟨v, f0, g, q1, ⟨p, vs, rfl, hp, hl⟩, q3, q4⟩ := h.run σ B H fp k s
   obtain ⟨w, fx, g2, k1, k2, k3, k4⟩ := OwL.foc hl ho
   refine ⟨w, fx, g2 ++ g, fun e he W Q Bx Hx gx q => ?_, k3, ?_, fun B' H' x' fy b n' r => ?_⟩
   · cases oe with
     | none => cases he
     | some e0 =>
       cases he
       refine q1 e0 rfl W _ Bx Hx gx fun B1 H1 g1 => ?_
       have hl : n < vs.length := by
         rcases Nat.lt_or_ge n vs.length with q | q
         · exact q
         · rw [List.getElem?_eq_none q] at k1; cases k1
       refine .inl (.inr (.inl ⟨p, vs, n, w, rfl, rfl, sm_sqT (sm_trans (sm_trans gx.b g1.b) g1.s) (SqT.of hp), ?_, q B1 H1 g1⟩))
       unfold atI ixN
       rw [if_pos (by omega), if_pos (by omega)]
       exact k1
   · rw [perm_cnt] at k2 q3 ⊢
     intro a
     have h1 := k2 a
     have h2 := q3 a
     simp only [List.count_append] at h1 h2 ⊢
     omega
   · obtain ⟨f', z1, z2⟩ := k4 B' H' x' fy b (fun a ha => n' a (List.mem_append_left _ ha)) r
     obtain ⟨fp', y1, y2⟩ := q4 B' H' (oTup C ((os x).set n x')) f' b (fun a ha => n' a (List.mem_append_right _ ha)) ⟨p, vs, rfl, b _ _ hp, z1⟩
     refine ⟨fp', y1, ?_⟩
     rw [perm_cnt] at z2 y2 ⊢
     intro a
     have h1 := z2 a
     have h2 := y2 a
     simp only [List.count_append] at h1 h2 ⊢
     omega
 eq := fun z => by rw [hu z]; exact h.eq _
def setJ (xs : List α) (j : Int) (y : α) : List α := match ixN xs.length j with
 | some n => xs.set n y
 | none => xs
theorem pl_ix {oe : Option E} {i : E} {j : Int} {τ : α → Ow} {xs : List α} {x : α} {put : Ow → Cx0} {pt : List α → Cx0} (h : Pl T C Γ oe (oL C τ) xs put pt) (hi : ∀ e, oe = some e → EvB T C Γ i vInt (.ok j)) (hx : ixR xs j = .ok x) :
   Pl T C Γ (oe.map fun e => .ix e i) τ x (fun o => put (oLs C (setJ (xs.map τ) j o))) (fun y => pt (setJ xs j y)) := by
 obtain ⟨n, hn, hxn⟩ : ∃ n, ixN xs.length j = some n ∧ xs[n]? = some x := by
   unfold ixR at hx
   cases q : atI xs j with
   | none => rw [q] at hx; cases hx
   | some z =>
     rw [q] at hx
     cases hx
     unfold atI at q
     cases q2 : ixN xs.length j with
     | none => rw [q2] at q; cases q
     | some n => rw [q2] at q; exact ⟨n, rfl, q⟩
 have e1 : ∀ o : Ow, setJ (xs.map τ) j o = (xs.map τ).set n o := fun o => by
   unfold setJ
   rw [List.length_map, hn]
 have e2 : ∀ y : α, setJ xs j y = xs.set n y := fun y => by
   unfold setJ
   rw [hn]
 refine ⟨fun σ B H fp k s => ?_, fun y => ?_⟩
 · obtain ⟨v, f0, g, q1, ⟨p, vs, ff, rfl, hp, hl, rfl⟩, q3, q4⟩ := h.run σ B H fp k s
   obtain ⟨w, fx, g2, k1, k2, k3, k4⟩ := OwL.foc (n := n) (o := τ x) hl (by rw [List.getElem?_map, hxn]; rfl)
   refine ⟨w, fx, p :: (g2 ++ g), fun e he W Q Bx Hx gx q => ?_, k3, ?_, fun B' H' x' fy b n' r => ?_⟩
   · cases oe with
     | none => cases he
     | some e0 =>
       cases he
       refine q1 e0 rfl W _ Bx Hx gx fun B1 H1 g1 => ?_
       have gx1 := gx.trans g1
       refine hi e0 rfl W σ B1 H1 _ ((k.envC s).up gx1.b gx1.h gx1.s) fun u B2 H2 g2 e2 => ?_
       cases e2
       refine .inl (.inl ⟨p, vs, j, w, rfl, rfl, .inl (.inl (g2.h _ _ (gx1.h _ _ hp))), ?_, q B2 H2 (g1.trans g2)⟩)
       unfold atI
       rw [hl.len, List.length_map, hn]
       exact k1
   · rw [perm_cnt] at k2 q3 ⊢
     intro a
     have h1 := k2 a
     have h2 := q3 a
     simp only [List.count_append, List.count_cons] at h1 h2 ⊢
     omega
   · obtain ⟨f', z1, z2⟩ := k4 B' H' x' fy b (fun a ha => n' a (List.mem_cons_of_mem _ (List.mem_append_left _ ha))) r
     obtain ⟨fp', y1, y2⟩ := q4 B' H' (oLs C (setJ (xs.map τ) j x')) (p :: f') b (fun a ha => n' a (List.mem_cons_of_mem _ (List.mem_append_right _ ha))) ⟨p, vs, f', rfl, by rw [n' p List.mem_cons_self]; exact hp, by rw [e1]; exact z1, rfl⟩
     refine ⟨fp', y1, ?_⟩
     rw [perm_cnt] at z2 y2 ⊢
     intro a
     have h1 := z2 a
     have h2 := y2 a
     simp only [List.count_append, List.count_cons] at h1 h2 ⊢
     omega
 · show put (oLs C (setJ (xs.map τ) j (τ y))) = pt (setJ xs j y)
   rw [e1, e2, ← h.eq]
   show put (oLs C _) = put (oLs C _)
   rw [← List.map_set]
theorem Oks.fresh {σ : L2.St} {B B1 Z H : Hp} {fp : List Addr} (k : Oks Γ σ B Z H fp) {a : Addr} (h : H a = none) (b : B1 a = none) : a ∉ fp ∧ Z a = none ∧ B1 a = none := ⟨fun z => absurd (k.env.al a z) (by rw [h]; decide), none_back k.z h, b⟩
theorem Pl.chg {oe : Option E} {τ : α → Ow} {x : α} {put : Ow → Cx0} {pt : α → Cx0} (h : Pl T C Γ oe τ x put pt) {σ : L2.St} {B Z H : Hp} {fp : List Addr} (k : Oks Γ σ B Z H fp) :
   ∃ u fx, (∀ e, oe = some e → ∀ (W : WX) (Q : VK) (Bx Hx : Hp), Gon B H Bx Hx → (∀ B1 H1, Gon Bx Hx B1 H1 → Q u H1) → (rd T C e W).E σ Hx Q) ∧ (τ x).rel B H u fx ∧ fx.Nodup ∧ (∀ a ∈ fx, a ∈ fp ∧ Z a = none ∧ B a = none) ∧
     ∀ B1 H1, Gon B H B1 H1 → ∀ (o' : Ow) (H' : Hp) (f' : List Addr), o'.rel B1 H' u f' → f'.Nodup → (∀ a, a ∉ fx → (H1 a).isSome = true → H' a = H1 a) → (∀ a ∈ f', a ∈ fx ∨ (a ∉ fp ∧ Z a = none ∧ B1 a = none)) → ∃ fp', Oks (put o') σ B1 Z H' fp' := by
 obtain ⟨u, fx, g, q1, q2, q3, q4⟩ := h.run σ B H fp k.env k.b
 have al : ∀ a ∈ fp, (H a).isSome = true := k.env.al
 have inf : ∀ a ∈ fx, a ∈ fp := fun a ha => q3.mem_iff.mp (List.mem_append_left _ ha)
 have ing : ∀ a ∈ g, a ∈ fp := fun a ha => q3.mem_iff.mp (List.mem_append_right _ ha)
 obtain ⟨n1, n2, n3⟩ := List.nodup_append.mp (q3.nodup_iff.mpr k.nd)
 refine ⟨u, fx, q1, q2, n1, fun a ha => ⟨inf a ha, k.fr a (inf a ha)⟩, fun B1 H1 g1 o' H' f' r nd ch fr => ?_⟩
 have b1 : ∀ a ∈ fp, B1 a = none := fun a ha => newB_none g1.n (k.fr a ha).2 (al a ha) (k.env.nt a ha)
 have alg : ∀ a ∈ fp, H1 a = H a := fun a ha => by
   obtain ⟨w, hw⟩ := Option.isSome_iff_exists.mp (al a ha)
   rw [hw, g1.h a w hw]
 obtain ⟨fp', z1, z2⟩ := q4 B1 H' o' f' g1.b (fun a ha => by
   rw [ch a (fun z => n3 a z a ha rfl) (by rw [alg a (ing a ha)]; exact al a (ing a ha)), alg a (ing a ha)]) r
 have up : ∀ (M : Hp), Same M H1 → (∀ a ∈ fx, M a = none) → Same M H' := fun M s n a w e => by
   have hw := s a w e
   rw [ch a (fun z => by rw [n a z] at e; cases e) (by rw [hw]; rfl)]
   exact hw
 refine ⟨fp', z1, z2.nodup_iff.mp (List.nodup_append.mpr ⟨nd, n2, fun a ha b hb e => ?_⟩), fun a ha => ?_, up B1 g1.s fun a ha => b1 a (inf a ha), up Z (sm_trans k.z g1.h) fun a ha => (k.fr a (inf a ha)).1⟩
 · subst e
   rcases fr a ha with h | ⟨h, _⟩
   · exact n3 a h a hb rfl
   · exact h (ing a hb)
 · rcases List.mem_append.mp (z2.mem_iff.mpr ha) with h | h
   · rcases fr a h with h | ⟨_, h⟩
     · exact ⟨(k.fr a (inf a h)).1, b1 a (inf a h)⟩
     · exact h
   · exact ⟨(k.fr a (ing a h)).1, b1 a (ing a h)⟩
theorem b_exact {D : Ds ν β ρ ξ} {s : S} {m : Out ν β ρ ξ} {oe : Option E} {τ : α → Ow} {x : α} {put : Ow → Cx0} {pt : α → Cx0} (h : Pl T C Γ oe τ x put pt) (hs : ∀ u, Blk T cs C D (put (oQ (· = u) (τ x))) s m) : Blk T cs C D Γ s m := fun W E σ B Z H fp o p => by
 obtain ⟨u, fx, q1, q2, q3, q4, q5⟩ := h.chg o
 obtain ⟨fp', o'⟩ := q5 B H (.refl o.b) (oQ (· = u) (τ x)) H fx ⟨rfl, q2⟩ q3 (fun _ _ _ => rfl) (fun a ha => .inl ha)
 exact hs u W E σ B Z H fp' o' p
theorem exc_cv {D : Ds ν β ρ ξ} {e : Ex} {x0 : ξ} {W : WX} {E : Ends} {σ : L2.St} {B Z H H' : Hp} {fp : List Addr} {cls : Value} {d : Option Addr} (o : Oks Γ σ B Z H fp) (w : Cv Γ (D.x x0)) (p : Post C D (.exc e x0) W E B Z) (s : Same H H') (r : ExR C e cls d H H') : W cls d σ H' := by
 obtain ⟨us, os, B', fp', g, o2, x⟩ := exd_of o s r
 obtain ⟨fq, o3⟩ := x.cv w o2
 exact p cls d σ B' H' fq us os g o3 r.1 x
theorem evO_post {D : Ds ν β ρ ξ} {e : E} {τ : α → Ow} {m : Res α} {x0 : ξ} {k : α → Out ν β ρ ξ} (h : EvO T C Γ e τ m) (w : Cv Γ (D.x x0)) {W : WX} {E : Ends} {σ : L2.St} {B Z H : Hp} {fp : List Addr} {Q : VK} (o : Oks Γ σ B Z H fp) (p : Post C D (m.to x0 k) W E B Z)
   (q : ∀ x v B' H' fq, Gon B H B' H' → (τ x).rel B' H' v fq → fq.Nodup → (∀ a ∈ fq, H a = none ∧ B' a = none) → Oks Γ σ B' Z H' fp → Post C D (k x) W E B' Z → Q v H') : (rd T C e W).E σ H Q := by
 refine h W σ B H Q o.envC ?_
 cases m with
 | ok x => exact fun v B' H' g ⟨fq, r, n, f⟩ => q x v B' H' fq g r n f (o.gon g) (p.up (g.gz o.z))
 | exc e => exact fun cls d H' s r => exc_cv o w p s r
 | bad => exact p
theorem evB_post {D : Ds ν β ρ ξ} {e : E} {τ : α → Vw} [Flat τ] {m : Res α} {x0 : ξ} {k : α → Out ν β ρ ξ} (h : EvB T C Γ e τ m) (w : Cv Γ (D.x x0)) {W : WX} {E : Ends} {σ : L2.St} {B Z H : Hp} {fp : List Addr} {Q : VK} (o : Oks Γ σ B Z H fp) (p : Post C D (m.to x0 k) W E B Z)
   (q : ∀ x v B' H', Gon B H B' H' → (∀ H, (τ x).rel H v) → Oks Γ σ B' Z H' fp → Post C D (k x) W E B' Z → Q v H') : (rd T C e W).E σ H Q :=
 evO_post (ev_flat h) w o p fun x v B' H' fq g r n f o' p' => q x v B' H' g (fun H => Flat.fl x _ _ v r.1) o' p'
theorem p_app {D : Ds ν β ρ ξ} {pe e : E} {s : S} {τ : α → Ow} {xs : List α} {put : Ow → Cx0} {pt : List α → Cx0} {m : Res α} {x0 : ξ} {k : α → Out ν β ρ ξ} (hp : Pl T C Γ (some pe) (oL C τ) xs put pt) (h : EvO T C Γ e τ m) (w : Cv Γ (D.x x0))
   (hs : ∀ y, Blk T cs C D (pt (xs ++ [y])) s (k y)) : Blk T cs C D Γ (.seq (.exp (.bm .lApp pe (.cons e .nil))) s) (m.to x0 fun y => gdO (decide (xs.length < sizeLine)) (k y)) := fun W E σ B Z H fp o p => by
 show (rd T C pe W).E σ H _
 obtain ⟨u, fx, q1, ⟨l, vs, f0, rfl, hl, ho, rfl⟩, q3, q4, q5⟩ := hp.chg o
 refine q1 pe rfl W _ B H (.refl o.b) fun Ba Ha ga => ⟨.inl ⟨rfl, vs, .inl (.inl (ga.h _ _ hl))⟩, ?_⟩
 show (rd T C e W).E σ Ha _
 refine evO_post h w (o.gon ga) (p.up (ga.gz o.z)) fun y v B1 H1 fq g1' r n f o1 p1 => ?_
 have g1 := ga.trans g1'
 cases hz : decide (xs.length < sizeLine) with
 | false => rw [hz] at p1; exact p1.elim
 | true =>
   rw [hz] at p1
   have ln := ho.len
   rw [List.length_map] at ln
   have al : ∀ a ∈ l :: f0, (H a).isSome = true := fun a ha => by
     rcases List.mem_cons.mp ha with rfl | ha
     · rw [hl]; rfl
     · exact OwL.al ho a ha
   have hl1 : H1 l = some (.lst vs) := g1.h l _ hl
   have nf : ∀ a ∈ fq, a ∉ l :: f0 := fun a ha z => by
     have h1 := al a z
     rw [none_back ga.h (f a ha).1] at h1; cases h1
   obtain ⟨m1, m2⟩ := List.nodup_cons.mp q3
   have up : ∀ a, a ≠ l → upd H1 l (.lst (vs ++ [v])) a = H1 a := fun a ha => upd_ne ha
   obtain ⟨fp', o2⟩ := q5 B1 H1 g1 (oL C τ (xs ++ [y])) (upd H1 l (.lst (vs ++ [v]))) (l :: (f0 ++ fq)) ⟨l, vs ++ [v], f0 ++ fq, rfl, upd_same, by
       show OwL _ _ _ ((xs ++ [y]).map τ) _
       rw [List.map_append]
       refine OwL.append (OwL.mono g1.b (fun a ha => ?_) ho) ⟨fq, [], by simp, (τ y).mono (sm_refl _) (fun a ha => up a fun z => nf a ha (by rw [z]; exact List.mem_cons_self)) r, rfl⟩
       rw [up a (fun z => m1 (z ▸ ha))]
       obtain ⟨w', hw⟩ := Option.isSome_iff_exists.mp (OwL.al ho a ha)
       rw [hw, g1.h a w' hw], rfl⟩ (List.nodup_cons.mpr ⟨fun z => (List.mem_append.mp z).elim m1 fun z => nf l z List.mem_cons_self, List.nodup_append.mpr ⟨m2, n, fun a ha b hb e => nf b hb (by rw [← e]; exact List.mem_cons_of_mem _ ha)⟩⟩)
     (fun a ha _ => up a fun z => ha (by rw [z]; exact List.mem_cons_self)) (fun a ha => by
       rcases List.mem_cons.mp ha with rfl | ha
       · exact .inl List.mem_cons_self
       · rcases List.mem_append.mp ha with ha | ha
         · exact .inl (List.mem_cons_of_mem _ ha)
         · exact .inr (o.fresh (none_back ga.h (f a ha).1) (f a ha).2))
   rw [hp.eq] at o2
   exact ⟨l, vs, v, rfl, rfl, hl1, by rw [ln]; exact of_decide_eq_true hz, hs y W E σ B1 Z _ fp' o2 p1⟩
theorem p_clr {D : Ds ν β ρ ξ} {pe : E} {s : S} {τ : α → Ow} {xs : List α} {put : Ow → Cx0} {pt : List α → Cx0} {m : Out ν β ρ ξ} (hp : Pl T C Γ (some pe) (oL C τ) xs put pt)
   (hs : Blk T cs C D (pt []) s m) : Blk T cs C D Γ (.seq (.exp (.bm .lClr pe .nil)) s) m := fun W E σ B Z H fp o p => by
 show (rd T C pe W).E σ H _
 obtain ⟨u, fx, q1, ⟨l, vs, f0, rfl, hl, ho, rfl⟩, q3, q4, q5⟩ := hp.chg o
 refine q1 pe rfl W _ B H (.refl o.b) fun Ba Ha ga => ⟨.inl ⟨rfl, vs, .inl (.inl (ga.h _ _ hl))⟩, ?_⟩
 obtain ⟨fp', o2⟩ := q5 Ba Ha ga (oL C τ []) (upd Ha l (.lst [])) [l] ⟨l, [], [], rfl, upd_same, rfl, rfl⟩ (by simp) (fun a ha _ => upd_ne fun z => ha (by rw [z]; exact List.mem_cons_self)) (fun a ha => by
   rw [List.mem_singleton.mp ha]; exact .inl List.mem_cons_self)
 rw [hp.eq] at o2
 exact ⟨l, vs, rfl, rfl, ga.h _ _ hl, hs W E σ Ba Z _ fp' o2 (p.up (ga.gz o.z))⟩
end
end Q
namespace Q
open PySem L2 PySem.Spec
section
variable {T : Tb} {cs : List Nat} {C : Kc} {Γ Γ' Γ'' : Cx0} {α β γ ν ν' ρ ξ : Type}
theorem OwL.rep {B H : Hp} : ∀ {os : List Ow} {vs : List V} {f : List Addr} {n : Nat} {o : Ow}, OwL B H vs os f → os[n]? = some o →
   ∃ v fx g, vs[n]? = some v ∧ (fx ++ g).Perm f ∧ o.rel B H v fx ∧ ∀ B' H' o' v' fy, Same B B' → (∀ a ∈ g, H' a = H a) → o'.rel B' H' v' fy → ∃ f', OwL B' H' (vs.set n v') (os.set n o') f' ∧ (fy ++ g).Perm f'
 | [], _, _, _, _, _, e => by simp at e
 | x0 :: os, [], _, _, _, h, _ => h.elim
 | x0 :: os, v :: vs, f, 0, x, ⟨a, b, h1, h2, h3⟩, e => by
   simp only [List.getElem?_cons_zero, Option.some.injEq] at e
   subst e h1
   exact ⟨v, a, b, rfl, .refl _, h2, fun B' H' o' v' fy s n r => ⟨fy ++ b, ⟨fy, b, rfl, r, OwL.mono s n h3⟩, .refl _⟩⟩
 | x0 :: os, v :: vs, f, n + 1, x, ⟨a, b, h1, h2, h3⟩, e => by
   simp only [List.getElem?_cons_succ] at e
   obtain ⟨w, fx, g, k1, k2, k3, k4⟩ := OwL.rep h3 e
   subst h1
   refine ⟨w, fx, a ++ g, k1, (List.perm_append_comm_assoc fx a g).trans (k2.append_left a), k3, fun B' H' o' v' fy s n r => ?_⟩
   obtain ⟨f', z1, z2⟩ := k4 B' H' o' v' fy s (fun c hc => n c (List.mem_append_right _ hc)) r
   exact ⟨a ++ f', ⟨a, f', rfl, x0.mono s (fun c hc => n c (List.mem_append_left _ hc)) h2, z1⟩, (List.perm_append_comm_assoc fy a g).trans (z2.append_left a)⟩
theorem chg_new {fx fp f' fq : List Addr} {Z B1 : Hp} {d : List Addr} (p : (f' ++ d).Perm (fx ++ fq)) (n1 : fx.Nodup) (n2 : fq.Nodup) (inf : ∀ a ∈ fx, a ∈ fp) (fr : ∀ a ∈ fq, a ∉ fp ∧ Z a = none ∧ B1 a = none) : f'.Nodup ∧ ∀ a ∈ f', a ∈ fx ∨ (a ∉ fp ∧ Z a = none ∧ B1 a = none) := by
 have nd : (fx ++ fq).Nodup := List.nodup_append.mpr ⟨n1, n2, fun a ha b hb e => by
   subst e
   exact (fr a hb).1 (inf a ha)⟩
 refine ⟨(List.nodup_append.mp (p.nodup_iff.mpr nd)).1, fun a ha => ?_⟩
 exact (List.mem_append.mp (p.mem_iff.mp (List.mem_append_left _ ha))).imp_right (fr a)
theorem same_at {H H1 : Hp} (s : Same H H1) {a : Addr} (h : (H a).isSome = true) : H1 a = H a := by
 obtain ⟨w, hw⟩ := Option.isSome_iff_exists.mp h
 rw [hw, s a w hw]
theorem upd_at {H H1 : Hp} {p : Addr} {o : HO} (s : Same H H1) {a : Addr} (h : (H a).isSome = true) (ne : a ≠ p) : upd H1 p o a = H a := by rw [upd_ne ne, same_at s h]
theorem ow_upd {o : Ow} {B H B1 H1 : Hp} {v : V} {f : List Addr} {p : Addr} {u : HO} (r : o.rel B H v f) (b : Same B B1) (s : Same H H1) (ne : p ∉ f) : o.rel B1 (upd H1 p u) v f := o.mono b (fun a ha => upd_at s (o.al r a ha) fun z => ne (z ▸ ha)) r
theorem p_setl {D : Ds ν β ρ ξ} {pe i e : E} {s : S} {τ : α → Ow} {xs : List α} {put : Ow → Cx0} {pt : List α → Cx0} {m : Res α} {mi : Res Int} {x0 : ξ} {k : List α → Out ν β ρ ξ} (hp : Pl T C Γ (some pe) (oL C τ) xs put pt) (hi : EvB T C Γ i vInt mi) (h : EvO T C Γ e τ m) (w : Cv Γ (D.x x0))
   (hs : ∀ ys, Blk T cs C D (pt ys) s (k ys)) : Blk T cs C D Γ (.seq (.setl pe i e) s) (m.to x0 fun y => mi.to x0 fun j => (getR (setI xs j y)).to x0 k) := fun W E σ B Z H fp o p => by
 show (rd T C e W).E σ H _
 obtain ⟨u, fx, q1, ⟨l, vs, f0, rfl, hl, ho, rfl⟩, q3, q4, q5⟩ := hp.chg o
 refine evO_post h w o p fun y v B1 H1 fq g1 r n fr o1 p1 => ?_
 refine q1 pe rfl W _ B1 H1 g1 fun B2 H2 g2 => ?_
 show (rd T C i W).E σ H2 _
 refine evB_post hi w (o1.gon g2) (p1.up (g2.gz o1.z)) fun j v' B3 H3 g3 r' o3 p3 => ?_
 obtain rfl : v' = .int j := r' H3
 have g23 := g2.trans g3
 have g := g1.trans g23
 cases hz : ixN xs.length j with
 | none =>
   have : setI xs j y = none := by unfold setI; rw [hz]; rfl
   rw [this] at p3
   exact p3.elim
 | some n' =>
   have e0 : setI xs j y = some (xs.set n' y) := by unfold setI; rw [hz]; rfl
   rw [e0] at p3
   have ln := ho.len
   rw [List.length_map] at ln
   refine ⟨l, vs, j, n', rfl, rfl, g.h _ _ hl, by rw [ln]; exact hz, ?_⟩
   have hn : n' < xs.length := ixN_lt hz
   obtain ⟨w', fz, gz, k1, k2, k3, k4⟩ := OwL.rep (n := n') (o := τ xs[n']) ho (by rw [List.getElem?_map, List.getElem?_eq_getElem hn]; rfl)
   have nd := List.nodup_cons.mp q3
   have frq : ∀ b ∈ fq, b ∉ fp ∧ Z b = none ∧ B3 b = none := fun b hb => o.fresh (fr b hb).1 (newB_none g23.n (fr b hb).2 ((τ y).al r b hb) ((τ y).nt r b hb))
   have lfp : l ∈ fp := (q4 l List.mem_cons_self).1
   have rq : (τ y).rel B3 (upd H3 l (.lst (vs.set n' v))) v fq := ow_upd r g23.b g23.h fun z => (frq l z).1 lfp
   obtain ⟨f', z1, z2⟩ := k4 B3 (upd H3 l (.lst (vs.set n' v))) (τ y) v fq g.b (fun b hb => by
     have hb' := k2.mem_iff.mp (List.mem_append_right _ hb)
     exact upd_at g.h (o.env.al b (q4 b (List.mem_cons_of_mem _ hb')).1) fun z => nd.1 (z ▸ hb')) rq
   obtain ⟨c1, c2⟩ := chg_new (f' := l :: f') (d := fz) (fx := l :: f0) (fq := fq) (fp := fp) (Z := Z) (B1 := B3) (by
     rw [perm_cnt] at z2 k2 ⊢
     intro c
     have h1 := z2 c
     have h2 := k2 c
     simp only [List.count_append, List.count_cons] at h1 h2 ⊢
     omega) q3 n (fun b hb => (q4 b hb).1) frq
   obtain ⟨fp', o2⟩ := q5 B3 H3 g (oL C τ (xs.set n' y)) _ (l :: f') ⟨l, _, f', rfl, upd_same, by rw [List.map_set]; exact z1, rfl⟩ c1 (fun b hb _ => upd_ne fun z => hb (by rw [z]; exact List.mem_cons_self)) c2
   rw [hp.eq] at o2
   exact hs _ W E σ B3 Z _ fp' o2 p3
end
end Q
namespace Q
open PySem L2 PySem.Spec
section
variable {T : Tb} {cs : List Nat} {C : Kc} {Γ Γ' Γ'' : Cx0} {κ α β γ ν ν' ρ ξ : Type} [KeyC κ] [DecidableEq κ]
end
end Q
namespace Q
open PySem L2 PySem.Spec
section
variable {T : Tb} {cs : List Nat} {C : Kc} {Γ Γ' : Cx0} {α β γ ν ρ ξ ι ι' η κ κ' : Type}
structure Ln (T : Tb) (C : Kc) (Γ : Cx0) (us : List V) (xs : List Ow) (back : List Ow → Cx0) : Prop where
 run : ∀ (σ : L2.St) (B H : Hp) (fp : List Addr), EnvO B H σ Γ fp → Same B H → ∃ fx g, OwL B H us xs fx ∧ (fx ++ g).Perm fp ∧
   ∀ B' H' (xs' : List Ow) fy, Same B B' → Same B' H' → (∀ a ∈ g, H' a = H a) → OwL B' H' us xs' fy → ∃ fp', EnvO B' H' σ (back xs') fp' ∧ (fy ++ g).Perm fp'
def Out.mth {ν β' ρ ξ : Type} (m : Out Unit Unit (β × ι') η) (x1 : η → ξ) (k : β → ι' → Out ν β' ρ ξ) : Out ν β' ρ ξ := match m with
 | .rt r => k r.1 r.2
 | .exc e s => .exc e (x1 s)
 | _ => .bad
end
end Q
namespace Q
open PySem L2 PySem.Spec
def TSame (B B' : Hp) : Prop := ∀ a u, tupB u = true → B a = some u → B' a = some u
class VT {α : Type} (τ : α → Vw) : Prop where
 vt : ∀ x B B' v, TSame B B' → (τ x).rel B v → (τ x).rel B' v
class CloT {α : Type} (τ : α → Ow) : Prop where
 ct : ∀ x B B' H v fp, TSame B B' → (τ x).rel B H v fp → (τ x).rel B' H v fp
def CTL (os : List Ow) : Prop := ∀ B B' H vs fp, TSame B B' → OwL B H vs os fp → OwL B' H vs os fp
section
variable {T : Tb} {cs : List Nat} {C : Kc} {Γ Γ' : Cx0} {α β γ ν ν' ρ ξ ι ι' η κ κ' : Type}
instance {τ : α → Vw} [i : Flat τ] : VT τ := ⟨fun x B B' v _ h => i.fl x B B' v h⟩
theorem vt_opt {τ : α → Vw} (i : VT τ) : VT (vOpt τ) := ⟨fun x B B' v s h => match x, h with
 | none, h => h
 | some x, h => i.vt x B B' v s h⟩
instance {τ : α → Vw} [i : VT τ] : VT (vOpt τ) := vt_opt i
theorem sqT_ts {K : Frag} {B B' : Hp} {p : Addr} {vs : List V} (s : TSame B B') (h : SqT K B p vs) : SqT K B' p vs := by
 rcases h with (h | ⟨o, h⟩) | h
 · exact .inl (.inl (s p _ rfl h))
 · exact .inl (.inr ⟨o, s p _ rfl h⟩)
 · exact .inr h
instance {τ : α → Vw} [i : VT τ] : CloT (fun x => oV (τ x)) := ⟨fun x B B' H v fp s h => ⟨i.vt x B B' v s h.1, h.2⟩⟩
theorem ctl_nil : CTL [] := fun _ _ _ vs _ _ h => by cases vs <;> exact h
theorem ctl_cons {τ : α → Ow} [i : CloT τ] {x : α} {os : List Ow} (h : CTL os) : CTL (τ x :: os) := fun B B' H vs fp s q => match vs, q with
 | v :: vs, ⟨f, g, h1, h2, h3⟩ => ⟨f, g, h1, i.ct x B B' H v f s h2, h B B' H vs g s h3⟩
theorem ctl_map {τ : α → Ow} [i : CloT τ] : ∀ xs : List α, CTL (xs.map τ)
 | [] => ctl_nil
 | _ :: xs => ctl_cons (ctl_map xs)
theorem clot_ls {os : α → List Ow} (h : ∀ x, CTL (os x)) : CloT (fun x => oLs C (os x)) := ⟨fun x B B' H v fp s ⟨p, vs, f, h1, h2, h3, h4⟩ => ⟨p, vs, f, h1, h2, h x B B' H vs f s h3, h4⟩⟩
instance {τ : α → Ow} [i : CloT τ] : CloT (oL C τ) := clot_ls (os := fun xs : List α => xs.map τ) fun xs => ctl_map xs
theorem clot_tup {os : α → List Ow} (h : ∀ x, CTL (os x)) : CloT (fun x => oTup C (os x)) := ⟨fun x B B' H v fp s ⟨p, vs, h1, h2, h3⟩ => ⟨p, vs, h1, s p _ rfl h2, h x B B' H vs fp s h3⟩⟩
instance [KeyC κ] {τ : α → Ow} [i : CloT τ] : CloT (fun kvs : List (κ × α) => oDO τ kvs) := ⟨fun kvs B B' H v fp s ⟨nd, p, vs, f, h1, h2, ⟨h3, h3'⟩, h4⟩ => ⟨nd, p, vs, f, h1, h2, ⟨h3, by
   have e : (dO τ kvs).map (·.2) = (kvs.map (·.2)).map τ := by unfold dO; rw [List.map_map, List.map_map]; rfl
   rw [e] at h3' ⊢
   exact ctl_map _ B B' H _ f s h3'⟩, h4⟩⟩
theorem bor_evC {e : E} {τ : α → Ow} [i : CloT τ] {m : Res α} (b : Bor Γ Γ') (h : EvO T C Γ' e τ m) : EvO T C Γ e τ m := fun W σ B H Q g z => by
 refine h W σ H H Q (b.envC g) (rz_imp z (fun x q v B' H' g1 ⟨fp, r, n, f⟩ => ?_) fun _ z => z)
 let O : Hp := fun a => match B a with
   | some u => some u
   | none => match B' a with
     | some u => if tupB u = true then some u else none
     | none => none
 have oB : ∀ a u, B a = some u → O a = some u := fun a u e => by show (match B a with | some u => some u | none => _) = _; rw [e]
 have oN : ∀ a, B a = none → O a = (match B' a with | some u => if tupB u = true then some u else none | none => none) := fun a e => by show (match B a with | some u => some u | none => _) = _; rw [e]
 have inv : ∀ a u, O a = some u → B a = some u ∨ (B' a = some u ∧ tupB u = true) := fun a u e => by
   cases hb : B a with
   | some w => rw [oB a w hb] at e; exact .inl e
   | none =>
     rw [oN a hb] at e
     cases hb' : B' a with
     | none => rw [hb'] at e; cases e
     | some w =>
       rw [hb'] at e
       simp only at e
       split at e
       · rename_i ht
         cases e
         exact .inr ⟨rfl, ht⟩
       · cases e
 have ts : TSame B' O := fun a u ht e => by
   cases hb : B a with
   | some w =>
     have := g1.b a w (g.sub a w hb)
     rw [e] at this
     cases this
     exact oB a u hb
   | none => rw [oN a hb, e]; simp only [if_pos ht]
 refine q v O H' ⟨fun a u e => oB a u e, g1.h, fun a u e => ?_, fun a u e => ?_⟩ ⟨fp, i.ct x B' O H' v fp ts r, n, fun a ha => ⟨(f a ha).1, ?_⟩⟩
 · rcases inv a u e with h | ⟨h, _⟩
   · exact g1.h a u (g.sub a u h)
   · exact g1.s a u h
 · rcases inv a u e with h | ⟨h, ht⟩
   · exact .inl h
   · rcases g1.n a u h with h | h | h
     · exact .inr (.inr ⟨h, ht⟩)
     · exact .inr (.inl h)
     · exact .inr (.inr ⟨h.1, ht⟩)
 · rw [oN a (none_back g.sub (f a ha).1), (f a ha).2]
theorem evP_ix {a b : E} {τ : α → Ow} {m : Res (List α)} {mb : Res Int} (h : EvP T C Γ a (oL C τ) m) (hb : EvB T C Γ b vInt mb) : EvP T C Γ (.ix a b) τ (m >>= fun xs => mb >>= fun j => ixR xs j) := fun W σ B H Q g z => by
 show (rd T C a W).E σ H _
 refine h W σ B H _ g (rz_imp (rz_bind.mp z) (fun xs z v B1 H1 g1 ⟨fp, p, vs, ff, hv, hp, hl, _⟩ => ?_) fun _ z => z)
 subst hv
 refine hb W σ B1 H1 _ (g.up g1.b g1.h g1.s) (rz_imp (rz_bind.mp z) (fun j z u B2 H2 g2 e => ?_) fun _ z => z.up g1.h)
 have e : u = .int j := e
 subst e
 unfold ixR at z
 cases q : atI xs j with
 | none => rw [q] at z; exact z.elim
 | some x =>
   rw [q] at z
   unfold atI at q
   cases q2 : ixN xs.length j with
   | none => rw [q2] at q; cases q
   | some n =>
     rw [q2] at q
     have q : xs[n]? = some x := q
     obtain ⟨w, fx, gg, k1, k2, k3, k4⟩ := OwL.foc (n := n) (o := τ x) hl (by rw [List.getElem?_map, q]; rfl)
     refine .inl (.inl ⟨p, vs, j, w, rfl, rfl, .inl (.inl (g2.h _ _ hp)), ?_, z w B2 H2 (g1.trans g2) ⟨fx, ow_up k3 g2.b g2.h⟩⟩)
     unfold atI
     rw [hl.len, List.length_map, q2]
     exact k1
end
end Q
namespace Q
open PySem L2 PySem.Spec
section
variable {T : Tb} {cs : List Nat} {C : Kc} {Γ Γ' : Cx0} {α β γ ν ν' ρ ξ ι ι' η κ κ' : Type}
theorem thaw {τ : α → Ow} [i : CloT τ] {x : α} {B H B' H' : Hp} {v : V} {fp : List Addr} (g : Same B H) (g1 : Gon H H B' H') (r : (τ x).rel B' H' v fp) (f : ∀ a ∈ fp, H a = none ∧ B' a = none) : ∃ O, Gon B H O H' ∧ (τ x).rel O H' v fp ∧ ∀ a ∈ fp, H a = none ∧ O a = none := by
 let O : Hp := fun a => match B a with
   | some u => some u
   | none => match B' a with
     | some u => if tupB u = true then some u else none
     | none => none
 have oB : ∀ a u, B a = some u → O a = some u := fun a u e => by show (match B a with | some u => some u | none => _) = _; rw [e]
 have oN : ∀ a, B a = none → O a = (match B' a with | some u => if tupB u = true then some u else none | none => none) := fun a e => by show (match B a with | some u => some u | none => _) = _; rw [e]
 have inv : ∀ a u, O a = some u → B a = some u ∨ (B' a = some u ∧ tupB u = true) := fun a u e => by
   cases hb : B a with
   | some w => rw [oB a w hb] at e; exact .inl e
   | none =>
     rw [oN a hb] at e
     cases hb' : B' a with
     | none => rw [hb'] at e; cases e
     | some w =>
       rw [hb'] at e
       simp only at e
       split at e
       · rename_i ht
         cases e
         exact .inr ⟨rfl, ht⟩
       · cases e
 have ts : TSame B' O := fun a u ht e => by
   cases hb : B a with
   | some w =>
     have := g1.b a w (g a w hb)
     rw [e] at this
     cases this
     exact oB a u hb
   | none => rw [oN a hb, e]; simp only [if_pos ht]
 refine ⟨O, ⟨fun a u e => oB a u e, g1.h, fun a u e => ?_, fun a u e => ?_⟩, i.ct x B' O H' v fp ts r, fun a ha => ⟨(f a ha).1, ?_⟩⟩
 · rcases inv a u e with h | ⟨h, _⟩
   · exact g1.h a u (g a u h)
   · exact g1.s a u h
 · rcases inv a u e with h | ⟨h, ht⟩
   · exact .inl h
   · rcases g1.n a u h with h | h | h
     · exact .inr (.inr ⟨h, ht⟩)
     · exact .inr (.inl h)
     · exact .inr (.inr ⟨h.1, ht⟩)
 · rw [oN a (none_back g (f a ha).1), (f a ha).2]
theorem ev_callT {i : Nat} {es : E} {os : κ → List Vw} {ws : κ' → List Vw} {τ : β → Ow} [CloT τ] {f : κ' → Res β} {g : κ → κ'} {dv : List V} {wd : List Vw} {m : Res β} (hf : FnT C (T.f i) ws τ f)
   (har : elen es ≤ (T.f i).ar ∧ (T.f i).ar ≤ elen es + (T.f i).dfl.length) (hdv : (T.f i).dfl.drop (elen es + (T.f i).dfl.length - (T.f i).ar) = dv) (hwd : ∀ H, VwL H dv wd) (hg : ∀ k, ws (g k) = os k ++ wd)
   (h : EvLV T C Γ es os (fun k => f (g k)) m) : EvO T C Γ (.call i es) τ m := fun W σ B H Q c z => by
 show rCall (T.f i) C (elen es) (WE W) (rd T C es W).L σ H Q
 unfold rCall
 rw [if_pos har, hdv]
 refine h W σ B H _ _ c z fun k vs B1 H1 g1 p1 z1 => ?_
 refine hf (g k) (vs ++ dv) H1 H1 Q (WE W σ) (sm_refl _) (by rw [hg]; exact vwl_append p1 (hwd H1)) (rz_imp z1 (fun y q v B2 H2 g2 ⟨fp, r, n, fr⟩ => ?_) fun e z cls d H' s r => z cls d H' s r)
 obtain ⟨O, gO, rO, fO⟩ := thaw g1.s g2 r fr
 exact q v O H2 (g1.trans gO) ⟨fp, rO, n, fun a ha => ⟨none_back g1.h (fO a ha).1, (fO a ha).2⟩⟩
def Out.noX {ν β ρ ξ : Type} (m : Out ν β ρ ξ) : Out ν β ρ ξ := match m with
 | .exc _ _ => .bad
 | m => m
theorem lock_lk {B : Hp} {p : Addr} {od : Obj} {u : HO} (hu : dicB u = true) (h : B p = some u) : Lk B (upd B p (.frz od u)) := fun a => by
 by_cases e : a = p
 · subst e
   exact .inr ⟨u, hu, .inl ⟨h, od, upd_same⟩⟩
 · exact .inl (by rw [upd_ne e])
end
end Q
namespace Q
open PySem L2 PySem.Spec
section
variable {T : Tb} {cs : List Nat} {C : Kc} {Γ Γ' : Cx0} {α β γ ν ν' ρ ξ ι ι' η κ κ' : Type}
theorem VwF.nth {δ : Type} {H : Hp} : ∀ {vs : List (δ × V)} {ws : List (δ × Vw)} {j : Nat} {w : δ × Vw}, VwF H vs ws → ws[j]? = some w → ∃ v, vs[j]? = some v ∧ v.1 = w.1 ∧ w.2.rel H v.2
 | _, _, _, _, .nil, e => by simp at e
 | _, _, 0, _, .cons h l, e => by
   simp only [List.getElem?_cons_zero, Option.some.injEq] at e
   subst e
   exact ⟨_, rfl, h⟩
 | _, _, i + 1, _, .cons h l, e => by
   simp only [List.getElem?_cons_succ] at e ⊢
   exact VwF.nth l e
structure DAt [KeyC κ] (T : Tb) (C : Kc) (Γ : Cx0) (e : E) (τ : α → Vw) (kvs : List (κ × α)) : Prop where
 run : ∀ (σ : L2.St) (B Z H : Hp) (fp : List Addr), Oks Γ σ B Z H fp → ∃ q vs, (B q = some (.dK vs) ∨ ∃ od, B q = some (.frz od (.dK vs))) ∧ VwF B vs (kvs.map fun p => (KeyC.kk p.1, τ p.2)) ∧
   ∀ (W : WX) (H' : Hp) (R : V → Hp → Prop), (∀ p c dx fs, B p = some (.ins c dx fs) → H' p = some (.ins c dx fs)) → R (.ref q) H' → (rd T C e W).E σ H' R
end
end Q
namespace Q
open PySem L2 PySem.Spec
section
variable {T : Tb} {cs : List Nat} {C : Kc} {Γ Γ' : Cx0} {α β γ ν ν' ρ ξ ι ι' η κ κ' κ2 : Type}
theorem b_okR {D : Ds ν β ρ ξ} {s : S} {m : Res α} {x0 : ξ} {k : α → Out ν β ρ ξ} (no : NoX m) (h : ∀ x, m = .ok x → Blk T cs C D Γ s (k x)) : Blk T cs C D Γ s (m.to x0 k) := fun W E σ B Z H fp o p => by
 cases q : m with
 | ok x => rw [q] at p; exact h x q W E σ B Z H fp o p
 | exc e => exact absurd q (no e)
 | bad => rw [q] at p; exact p.elim
theorem p_fz {D : Ds ν β ρ ξ} {i : Nat} {o : α → Ow} {v : α → Vw} [iv : OwV o v] {x : α} {s : S} {m : Out ν β ρ ξ} (hi : Γ[i]? = some (some (o x))) (h : Blk T cs C D (Γ.set i (some (oV (v x)))) s m) : Blk T cs C D Γ s m := by
 refine b_frz hi ?_
 rw [show (o x).vw = v x from iv.eq x]
 exact h
end
end Q
namespace Q
open PySem L2 PySem.Spec
section
variable {T : Tb} {cs : List Nat} {C : Kc} {Γ Γ' : Cx0} {α β γ ν ν' ρ ξ ι ι' η κ κ' : Type}
theorem ev_lcT {it t e : E} {js : List Nat} {ws : α → List Vw} {ε : γ → Ow} {c : α → Res Bool} {f : α → Res γ} {m : Res (List α)} (h : EvO T C Γ it (fun xs => oV (vL C (fun x => vTup C (ws x)) xs)) m) (hj : 2 ≤ js.length) (hw : ∀ x, js.length = (ws x).length) (l : ∀ st : Unit, ∀ j ∈ js, j < Γ.length)
   (hc : ∀ x, EvPs T C (setL (wipeΓ Γ js) js (ws x)) t (c x)) (he : ∀ x, EvO T C (setL (wipeΓ Γ js) js (ws x)) e ε (f x)) : EvO T C Γ (.lc js (.iL it) t e) (oL C ε) (m >>= fun xs => gd (decide (xs.length ≤ sizeLine)) (lcR c f xs)) := fun W σ B H Q g z => by
 refine .inl ?_
 show (rd T C it W).E σ H _
 refine h W σ B H _ g (rz_imp (rz_bind.mp z) (fun xs z v B1 H1 g1 ⟨fp, ⟨⟨a, vs, hv, hl, hp⟩, hfp⟩, _, _⟩ => ?_) fun _ z => z)
 subst hv
 have hgd : decide (xs.length ≤ sizeLine) = true ∧ Rz (lcR c f xs) (fun x => ∀ (v : V) (B' H' : Hp), Gon B H B' H' → pO (oL C ε) x B H B' H' v → Q v H') (ExK C W σ H) := by
   cases hd : decide (xs.length ≤ sizeLine) with
   | true => rw [hd] at z; exact ⟨rfl, z⟩
   | false => rw [hd] at z; exact z.elim
 refine ⟨a, rfl, ⟨vs, sm_sqL g1.s hl⟩, fun D hD => ?_⟩
 have g0 := wipe_env (g.up g1.b g1.h g1.s) js
 refine lc_core (α := α) (xs := xs) (js := js) (σ := σ) (ε := ε) (Γ1 := fun x => setL (wipeΓ Γ js) js (ws x)) (E := ExK C W σ H) (W0 := fun cls d _ H' => W cls d σ H') (fun _ _ _ s h => h.up (sm_trans g1.h s)) g1.s (of_decide_eq_true hgd.1) (fun i x hx H2 s => ?_) (fun H2 s => ?_) (fun i x hx B' H2 v H' Q2 sb s sh y q => ?_) hc he (rz_imp hgd.2 (fun ys q v B' H' g2 p => q v B' H' (g1.trans g2) (Back.bk (P := pO (oL C ε)) ys B H B1 H1 B' H' v g1 p)) fun _ z => z) D hD
 · obtain ⟨v, h1, h2⟩ := vwl_nth (τ := fun x => vTup C (ws x)) hp hx
   exact ⟨vs, v, sm_sqL (sm_trans g1.s s) hl, h1⟩
 · exact ⟨vs, sm_sqL (sm_trans g1.s s) hl, by rw [hp.len, List.length_map]; exact Nat.le_refl _⟩
 · obtain ⟨rfl, y⟩ := y
   obtain ⟨u, h1, h2⟩ := vwl_nth (τ := fun x => vTup C (ws x)) hp hx
   have := y vs (sm_sqL (sm_trans g1.s sh) hl)
   rw [h1] at this
   cases this
   obtain ⟨c', us, rfl, h3, h4⟩ := h2
   rw [gTg_tup hj]
   refine ⟨c', us, rfl, sm_sqT (sm_trans g1.s sh) (SqT.of h3), by rw [h4.len, hw x], ?_⟩
   exact envC_setL (js0 := js) (σ0 := σ) (h4.mono sb) (hw x) (fun j hj => hj) wipe_wipe (g0.up sb sh s) fun σ2 h5 h6 => q σ2 h5 (sm_refl _) h6
end
end Q
namespace Q
open PySem L2 PySem.Spec
section
variable {T : Tb} {cs : List Nat} {C : Kc} {Γ Γ' : Cx0} {α β γ ν ν' ρ ξ ι ι' η κ κ' : Type}
end
end Q
namespace Q
open PySem L2 PySem.Spec
section
variable {T : Tb} {cs : List Nat} {C : Kc} {Γ Γ' : Cx0} {α β γ ν ν' ρ ξ ι ι' η κ κ' : Type}
theorem evP_ixP {a b : E} {τ : α → Ow} {x : List α} {y : Int} (h : EvP T C Γ a (oL C τ) (.ok x)) (hb : EvB T C Γ b vInt (.ok y)) : EvP T C Γ (.ix a b) τ (ixR x y) := evP_ix h hb
theorem evP_ixL {a b : E} {τ : α → Ow} {x : List α} {mb : Res Int} (h : EvP T C Γ a (oL C τ) (.ok x)) (hb : EvB T C Γ b vInt mb) : EvP T C Γ (.ix a b) τ (mb >>= fun j => ixR x j) := evP_ix h hb
end
section
variable {T : Tb} {C : Kc} {Γ : Cx0}
end
end Q
namespace Q
open PySem L2 PySem.Spec
def ltT (a b : Str) : Bool := ltCps a.cps.toList b.cps.toList
def insT (x : Str) : List Str → List Str
 | [] => [x]
 | y :: l => cond (ltT y x) (y :: insT x l) (x :: y :: l)
def sortS : List Str → List Str
 | [] => []
 | x :: l => insT x (sortS l)
def dedS : List Str → List Str
 | [] => []
 | x :: l => cond (decide (x ∈ l)) (dedS l) (x :: dedS l)
def sset (l : List Str) : List Str := sortS (dedS l)
section
variable {T : Tb} {C : Kc} {Γ : Cx0} {α : Type}
end
theorem OwL.split {B H : Hp} : ∀ {os : List Ow} {vs : List V} {f : List Addr} (n : Nat), OwL B H vs os f → ∃ f1 f2, f = f1 ++ f2 ∧ OwL B H (vs.take n) (os.take n) f1 ∧ OwL B H (vs.drop n) (os.drop n) f2
 | os, vs, f, 0, h => ⟨[], f, rfl, by rw [List.take_zero, List.take_zero]; rfl, by rw [List.drop_zero, List.drop_zero]; exact h⟩
 | [], [], f, n + 1, h => ⟨[], f, rfl, by rw [List.take_nil, List.take_nil]; rfl, by rw [List.drop_nil, List.drop_nil]; exact h⟩
 | o :: os, v :: vs, f, n + 1, ⟨f1, g, e, h1, h2⟩ => by
   obtain ⟨g1, g2, e2, h3, h4⟩ := OwL.split n h2
   exact ⟨f1 ++ g1, g2, by rw [e, e2, List.append_assoc], ⟨f1, g1, rfl, h1, h3⟩, h4⟩
section
variable {T : Tb} {cs : List Nat} {C : Kc} {Γ : Cx0} {α ν β ρ ξ : Type}
end
end Q
namespace Q
open PySem L2 PySem.Spec
section
variable {T : Tb} {C : Kc} {Γ : Cx0} {β κ κ' ι ι' η : Type}
end
end Q
namespace Q
open PySem L2 PySem.Spec
structure FinI (K : Frag) (C f : Addr) : Prop where
 rd : PySem.W.readsIn K C (.type "type") = true
 ga : PySem.W.specialIn K (.ref C) "__getattribute__" = some (some (.builtin "type.__getattribute__"))
 fc : PySem.W.findCls K (.ref C) (.type "type") "__init__" = some (.val (.ref f))
section
variable {T : Tb} {C : Kc} {Γ : Cx0} {β κ κ' ι ι' η : Type}
end
end Q
namespace Q
open PySem L2 PySem.Spec
class TKeyC (κ : Type) where
 tk : κ → List Key
 inj : ∀ {a b : κ}, tk a = tk b → a = b
class TKeyV {κ : Type} [TKeyC κ] (τk : κ → Vw) : Prop where
 kv : ∀ x H v, (τk x).rel H v → ∃ b, v = .ref b ∧ H b = some (.tup ((TKeyC.tk x).map kV))
instance {α β : Type} [KeyC α] [KeyC β] : TKeyC (α × β) := ⟨fun x => [KeyC.kk x.1, KeyC.kk x.2], fun {a b} h => by
 simp only [List.cons.injEq, and_true] at h
 exact Prod.ext (KeyC.inj h.1) (KeyC.inj h.2)⟩
instance {α β γ : Type} [KeyC α] [KeyC β] [KeyC γ] : TKeyC (α × β × γ) := ⟨fun x => [KeyC.kk x.1, KeyC.kk x.2.1, KeyC.kk x.2.2], fun {a b} h => by
 simp only [List.cons.injEq, and_true] at h
 exact Prod.ext (KeyC.inj h.1) (Prod.ext (KeyC.inj h.2.1) (KeyC.inj h.2.2))⟩
section
variable {T : Tb} {cs : List Nat} {C : Kc} {Γ : Cx0} {α ν β ρ ξ : Type}
end
section
variable {T : Tb} {cs : List Nat} {C : Kc} {Γ : Cx0} {κ α β γ ν ν' ρ ξ : Type} [TKeyC κ] [DecidableEq κ]
def vDT (τ : α → Vw) (kvs : List (κ × α)) : Vw := vN (kvs.map (·.1)).Nodup (vDt (kvs.map fun p => (TKeyC.tk p.1, τ p.2)))
abbrev dOT (τ : α → Ow) (kvs : List (κ × α)) : List (List Key × Ow) := kvs.map fun p => (TKeyC.tk p.1, τ p.2)
def oDOT (τ : α → Ow) (kvs : List (κ × α)) : Ow := oN (kvs.map (·.1)).Nodup (oDt (dOT τ kvs))
instance {τ : α → Ow} {w : α → Vw} [i : OwV τ w] : OwV (fun kvs : List (κ × α) => oDOT τ kvs) (fun kvs => vDT w kvs) := ⟨fun kvs => by
 show vN _ (vDt ((kvs.map fun p => (TKeyC.tk p.1, τ p.2)).map fun q => (q.1, q.2.vw))) = vN _ (vDt (kvs.map fun p => (TKeyC.tk p.1, w p.2)))
 rw [List.map_map]
 congr 2
 refine List.map_congr_left fun p _ => ?_
 show (TKeyC.tk p.1, (τ p.2).vw) = _
 rw [i.eq]⟩
end
section
variable {T : Tb} {cs : List Nat} {C : Kc} {Γ : Cx0} {κ α β γ ν ν' ρ ξ : Type}
class TRow (κ : Type) [TKeyC κ] where
 rw_ : κ → List Str
 m : Nat
 tk : ∀ k : κ, TKeyC.tk k = (rw_ k).map Sum.inr
 len : ∀ k : κ, (rw_ k).length = m + 1
class TKeyW {κ : Type} [TKeyC κ] (τk : κ → Vw) : Prop where
 vk : ∀ x H b, H b = some (.tup ((TKeyC.tk x).map kV)) → (τk x).rel H (.ref b)
instance : TRow (Str × Str) := ⟨fun k => [k.1, k.2], 1, fun _ => rfl, fun _ => rfl⟩
variable [TKeyC κ] [TRow κ]
variable [DecidableEq κ]
end
section
variable {T : Tb} {C : Kc} {Γ : Cx0} {κ α : Type} [KeyC κ] [DecidableEq κ]
end
end Q
namespace Q
open PySem L2 PySem.Spec
section
variable {T : Tb} {cs : List Nat} {C : Kc} {Γ : Cx0} {α β γ : Type}
def vSum (τ : α → Vw) (τ' : β → Vw) : α ⊕ β → Vw
 | .inl x => τ x
 | .inr y => τ' y
instance {τ : α → Vw} {τ' : β → Vw} [i : Flat τ] [j : Flat τ'] : Flat (vSum τ τ') := ⟨fun x B B' v h => match x, h with
 | .inl x, h => i.fl x B B' v h
 | .inr y, h => j.fl y B B' v h⟩
instance {τ : α → Vw} {τ' : β → Vw} [i : NN τ] [j : NN τ'] : NN (vSum τ τ') := ⟨fun x H v h => match x, h with
 | .inl x, h => i.nn x H v h
 | .inr y, h => j.nn y H v h⟩
instance {τ : α → Vw} {τ' : β → Vw} [i : VT τ] [j : VT τ'] : VT (vSum τ τ') := ⟨fun x B B' v s h => match x, h with
 | .inl x, h => i.vt x B B' v s h
 | .inr y, h => j.vt y B B' v s h⟩
def pdSum (a : α → PyData) (b : β → PyData) : α ⊕ β → PyData
 | .inl x => a x
 | .inr y => b y
instance {τ : α → Vw} {τ' : β → Vw} {a : α → PyData} {b : β → PyData} [i : Pd C τ a] [j : Pd C τ' b] : Pd C (vSum τ τ') (pdSum a b) := ⟨fun x H v h => match x, h with
 | .inl x, h => i.dp x H v h
 | .inr y, h => j.dp y H v h⟩
end
end Q
namespace Q
open PySem L2 PySem.Spec
section
variable {T : Tb} {cs : List Nat} {C : Kc} {Γ Γ' : Cx0} {α β ν ρ ξ : Type}
end
end Q
namespace Q
open PySem L2 PySem.Spec
section
variable {T : Tb} {cs : List Nat} {C : Kc} {Γ : Cx0} {α ν ν' β ρ ξ : Type}
theorem gz_less {B Z Z' B' : Hp} (s : Same Z Z') (g : Gz B Z' B') : Gz B Z B' := ⟨g.b, fun a o e => by
 rcases g.n a o e with h | h | ⟨h, t⟩
 · exact .inl h
 · exact .inr (.inl (none_back s h))
 · cases q : Z a with
   | none => exact .inr (.inl rfl)
   | some u =>
     have := s a u q
     rw [h] at this
     cases this
     exact .inr (.inr ⟨rfl, t⟩)⟩
theorem Oks.less {σ : L2.St} {B Z Z' H : Hp} {fp : List Addr} (s : Same Z Z') (o : Oks Γ σ B Z' H fp) : Oks Γ σ B Z H fp := ⟨o.env, o.nd, fun a ha => ⟨none_back s (o.fr a ha).1, (o.fr a ha).2⟩, o.b, sm_trans s o.z⟩
end
end Q
namespace Q
open PySem L2 PySem.Spec
mutual
theorem dp_sm {K : Frag} {H H' : Hp} (e : Same H H') : ∀ {d : PyData} {v : V}, Dp K H v d → Dp K H' v d
 | _, _, .non => .non
 | _, _, .bl b => .bl b
 | _, _, .int i => .int i
 | _, _, .str x => .str x
 | _, _, .lst h r => .lst (sm_sqL e h) (dpAll_sm e r)
 | _, _, .tup h r => .tup (sm_sqT e h) (dpAll_sm e r)
theorem dpAll_sm {K : Frag} {H H' : Hp} (e : Same H H') : ∀ {ds : List PyData} {vs : List V}, DpAll K H vs ds → DpAll K H' vs ds
 | _, _, .nil => .nil
 | _, _, .cons h r => .cons (dp_sm e h) (dpAll_sm e r)
end
mutual
theorem dp_lk {K : Frag} {H H' : Hp} (e : Lk H H') : ∀ {d : PyData} {v : V}, Dp K H v d → Dp K H' v d
 | _, _, .non => .non
 | _, _, .bl b => .bl b
 | _, _, .int i => .int i
 | _, _, .str x => .str x
 | _, _, .lst h r => .lst (lk_sqL e h) (dpAll_lk e r)
 | _, _, .tup h r => .tup (lk_sqT e h) (dpAll_lk e r)
theorem dpAll_lk {K : Frag} {H H' : Hp} (e : Lk H H') : ∀ {ds : List PyData} {vs : List V}, DpAll K H vs ds → DpAll K H' vs ds
 | _, _, .nil => .nil
 | _, _, .cons h r => .cons (dp_lk e h) (dpAll_lk e r)
end
def vP (C : Kc) (d : PyData) : Vw := ⟨fun B v => Dp C.K B v d, fun e h => dp_sm e h, fun e h => dp_lk e h⟩
section
variable {T : Tb} {cs : List Nat} {C : Kc} {Γ : Cx0} {α β γ : Type}
instance : Pd C (vP C) (fun d => d) := ⟨fun _ _ _ h => h⟩
def asI : PyData → Option Int
 | .int i => some i
 | _ => none
def asS : PyData → Option Str
 | .str x => some x
 | _ => none
def asBo : PyData → Option Bool
 | .bool b => some b
 | _ => none
def asL : PyData → Option (List PyData)
 | .list ds => some ds
 | _ => none
class AsP (C : Kc) (τ : α → Vw) (f : outParam (PyData → Option α)) : Prop where
 as : ∀ d x H v, f d = some x → Dp C.K H v d → (τ x).rel H v
theorem dpAll_vwl {H : Hp} : ∀ {ds : List PyData} {vs : List V}, DpAll C.K H vs ds → VwL H vs (ds.map (vP C))
 | _, _, .nil => .nil
 | _, _, .cons h r => .cons h (dpAll_vwl r)
instance : AsP C vInt asI := ⟨fun d x H v e h => by cases h <;> cases e; rfl⟩
instance : AsP C vStr asS := ⟨fun d x H v e h => by cases h <;> cases e; rfl⟩
instance : AsP C vBl asBo := ⟨fun d x H v e h => by cases h <;> cases e; rfl⟩
instance : AsP C (vL C (vP C)) asL := ⟨fun d x H v e h => by
 cases h with
 | lst h r => cases e; exact ⟨_, _, rfl, h, dpAll_vwl r⟩
 | _ => cases e⟩
mutual
def noL : PyData → Bool
 | .list _ => false
 | .dict _ => false
 | .tuple ds => noLs ds
 | _ => true
def noLs : List PyData → Bool
 | [] => true
 | d :: ds => noL d && noLs ds
end
mutual
theorem dp_ts {B B' : Hp} (s : TSame B B') : ∀ {d : PyData} {v : V}, noL d = true → Dp C.K B v d → Dp C.K B' v d
 | _, _, _, .non => .non
 | _, _, _, .bl b => .bl b
 | _, _, _, .int i => .int i
 | _, _, _, .str x => .str x
 | _, _, n, .lst _ _ => by cases n
 | _, _, n, .tup h r => .tup (sqT_ts s h) (dpAll_ts s n r)
theorem dpAll_ts {B B' : Hp} (s : TSame B B') : ∀ {ds : List PyData} {vs : List V}, noLs ds = true → DpAll C.K B vs ds → DpAll C.K B' vs ds
 | _, _, _, .nil => .nil
 | d :: ds, _, n, .cons h r => by
   have n : (noL d && noLs ds) = true := n
   rw [Bool.and_eq_true] at n
   exact .cons (dp_ts s n.1 h) (dpAll_ts s n.2 r)
end
def vQ (C : Kc) (d : PyData) : Vw := ⟨fun B v => Dp C.K B v d ∧ noL d = true, fun e h => ⟨dp_sm e h.1, h.2⟩, fun e h => ⟨dp_lk e h.1, h.2⟩⟩
instance : VT (vQ C) := ⟨fun _ _ _ _ s h => ⟨dp_ts s h.2 h.1, h.2⟩⟩
instance : Pd C (vQ C) (fun d => d) := ⟨fun _ _ _ h => h.1⟩
class NL {α : Type} (pd : α → PyData) : Prop where
 nl : ∀ x, noL (pd x) = true
instance : NL PyData.int := ⟨fun _ => rfl⟩
instance : NL PyData.str := ⟨fun _ => rfl⟩
instance : NL PyData.bool := ⟨fun _ => rfl⟩
instance : NL (fun _ : Unit => PyData.none) := ⟨fun _ => rfl⟩
instance {pd : α → PyData} [i : NL pd] : NL (pdOpt pd) := ⟨fun x => match x with
 | none => rfl
 | some x => i.nl x⟩
end
end Q
namespace Q
open PySem L2 PySem.Spec
section
variable {T : Tb} {cs : List Nat} {C : Kc} {Γ Γ' : Cx0} {α β ν ρ ξ : Type}
end
end Q
namespace Q
open PySem L2 PySem.Spec
section
variable {T : Tb} {cs : List Nat} {C : Kc} {Γ Γ' : Cx0} {α β γ κ κ' ν β' ρ ξ : Type}
theorem ev_getF {τ : α → Vw} {e : E} {m : Res (Option α)} (h : EvO T C Γ e (fun x => oV (vOpt τ x)) m) : EvO T C Γ e (fun x => oV (τ x)) (m >>= getR) := fun W σ B H Q g z => h W σ B H Q g (rz_imp (rz_bind.mp z) (fun x q v B' H' g1 p => by
 match x, q, p with
 | some y, q, p => exact q v B' H' g1 p
 | none, q, _ => exact q.elim) fun _ z => z)
end
end Q
namespace Q
open PySem L2 PySem.Spec
theorem ev_cg {T : Tb} {C : Kc} {Γ : Cx0} {α : Type} {P : PR α} {e : E} {m m' : Res α} (h : m = m') (d : Ev T C P Γ e m) : Ev T C P Γ e m' := h ▸ d
theorem gdB {α β : Type} {b : Bool} {m : Res α} {k : α → Res β} (h : b = true) : (m >>= fun x => gd b (k x)) = (m >>= fun x => k x) := by subst h; rfl
instance {C : Kc} : Pd C (vL C (vP C)) PyData.list := ⟨fun xs H v r => by
 have := (inferInstance : Pd C (vL C (vP C)) (fun xs : List PyData => PyData.list (xs.map fun d => d))).dp xs H v r
 rwa [List.map_id'] at this⟩
end Q
namespace Q
open PySem L2 PySem.Spec
def vb (n : Nat) : E → Bool
 | .var i => decide (i < n)
 | .int _ => true | .str _ => true | .bl _ => true | .non => true | .glo _ => true
 | .bin _ a b => vb n a && vb n b
 | .neg a => vb n a
 | .cmp _ a b => vb n a && vb n b
 | .chn _ _ a b c => vb n a && (vb n b && vb n c)
 | .nt a => vb n a
 | .and es => vb n es
 | .or es => vb n es
 | .ife c a b => vb n c && (vb n a && vb n b)
 | .tup es => vb n es
 | .lst es => vb n es
 | .nil => true
 | .cons e es => vb n e && vb n es
 | .ix a i => vb n a && vb n i
 | .sl a lo hi => vb n a && (vb n lo && vb n hi)
 | .call _ es => vb n es
 | .blt _ es => vb n es
 | .isi a _ => vb n a
 | .isC a _ _ _ => vb n a
 | .att a _ => vb n a
 | .mth _ a _ es => vb n a && vb n es
 | .mk _ es => vb n es
 | .bm _ a es => vb n a && vb n es
 | .dget d k z => vb n d && (vb n k && vb n z)
 | _ => false
def Wdl (W : WX) : WX := fun cls d σ H => W cls d σ.dropLast H
structure RdE (r r' : Rd) (σ : L2.St) (u : Option V) : Prop where
 E : r'.E (σ ++ [u]) = r.E σ
 T : r'.T (σ ++ [u]) = r.T σ
 L : r'.L (σ ++ [u]) = r.L σ
 O : r'.O (σ ++ [u]) = r.O σ
 A : r'.A (σ ++ [u]) = r.A σ
 R : r'.R (σ ++ [u]) = r.R σ
 AV : r'.AV (σ ++ [u]) = r.AV σ
 RV : r'.RV (σ ++ [u]) = r.RV σ
theorem rde_val {t t' : TE} {σ : L2.St} {u : Option V} (h : t' (σ ++ [u]) = t σ) : RdE (Rd.val t) (Rd.val t') σ u :=
 ⟨h, by show tB t' (σ ++ [u]) = tB t σ; unfold tB; rw [h], rfl, rfl, rfl, rfl, rfl, rfl⟩
theorem we_wdl (W : WX) (σ : L2.St) (u : Option V) : WE (Wdl W) (σ ++ [u]) = WE W σ := by
 unfold WE Wdl
 rw [List.dropLast_concat]
theorem rcall_ext {R : Row} {C : Kc} {n : Nat} {W : WX} {t t' : TA} {σ : L2.St} {u : Option V} (h : t' (σ ++ [u]) = t σ) : rCall R C n (WE (Wdl W)) t' (σ ++ [u]) = rCall R C n (WE W) t σ := by
 unfold rCall
 split
 · unfold tCallD; rw [h, we_wdl]
 · rfl
theorem rmake_ext {T : Tb} {C : Kc} {c n : Nat} {W : WX} {t t' : TA} {σ : L2.St} {u : Option V} (h : t' (σ ++ [u]) = t σ) : rMake T C c n (WE (Wdl W)) t' (σ ++ [u]) = rMake T C c n (WE W) t σ := by
 unfold rMake
 split
 · unfold tMakeD; rw [h, we_wdl]
 · rfl
theorem rmeth_ext {T : Tb} {C : Kc} {cs : List Nat} {m : Str} {n : Nat} {W : WX} {ta ta' : TE} {t t' : TA} {σ : L2.St} {u : Option V} (h1 : ta' (σ ++ [u]) = ta σ) (h : t' (σ ++ [u]) = t σ) : rMeth T C cs m n (WE (Wdl W)) ta' t' (σ ++ [u]) = rMeth T C cs m n (WE W) ta t σ := by
 unfold rMeth tMethD
 rw [h1, h, we_wdl]
theorem rd_ext {T : Tb} {C : Kc} {σ : L2.St} {u : Option V} {W : WX} : ∀ (e : E), vb σ.length e = true → RdE (rd T C e W) (rd T C e (Wdl W)) σ u
 | .var i, h => rde_val (by
     have h := of_decide_eq_true h
     show (fun (H : Hp) (Q : VK) => ∃ v, (σ ++ [u])[i]? = some (some v) ∧ Q v H) = fun (H : Hp) (Q : VK) => ∃ v, σ[i]? = some (some v) ∧ Q v H
     rw [List.getElem?_append_left h])
 | .int _, _ => rde_val rfl
 | .str _, _ => rde_val rfl
 | .bl _, _ => rde_val rfl
 | .non, _ => rde_val rfl
 | .glo _, _ => rde_val rfl
 | .bin o a b, h => rde_val (by
     have h := (Bool.and_eq_true _ _).mp h
     unfold tOp; rw [(rd_ext a h.1).E, (rd_ext b h.2).E])
 | .neg a, h => rde_val (by unfold tUn; rw [(rd_ext a h).E])
 | .cmp o a b, h => rde_val (by
     have h := (Bool.and_eq_true _ _).mp h
     unfold tOp; rw [(rd_ext a h.1).E, (rd_ext b h.2).E])
 | .chn o p a b c, h => rde_val (by
     have h := (Bool.and_eq_true _ _).mp h
     have h2 := (Bool.and_eq_true _ _).mp h.2
     unfold tChain; rw [(rd_ext a h.1).E, (rd_ext b h2.1).E, (rd_ext c h2.2).E])
 | .nt a, h => ⟨by show tNotV (rd T C a (Wdl W)).E _ = tNotV (rd T C a W).E _; unfold tNotV; rw [(rd_ext a h).E], by show tNot (rd T C a (Wdl W)).T _ = tNot (rd T C a W).T _; unfold tNot; rw [(rd_ext a h).T], rfl, rfl, rfl, rfl, rfl, rfl⟩
 | .and es, h => ⟨(rd_ext es h).AV, (rd_ext es h).A, rfl, rfl, rfl, rfl, rfl, rfl⟩
 | .or es, h => ⟨(rd_ext es h).RV, (rd_ext es h).R, rfl, rfl, rfl, rfl, rfl, rfl⟩
 | .ife c a b, h => by
     have h := (Bool.and_eq_true _ _).mp h
     have h2 := (Bool.and_eq_true _ _).mp h.2
     exact ⟨by show tIf (rd T C c (Wdl W)).T (rd T C a (Wdl W)).E (rd T C b (Wdl W)).E _ = tIf (rd T C c W).T (rd T C a W).E (rd T C b W).E _; unfold tIf; rw [(rd_ext c h.1).T, (rd_ext a h2.1).E, (rd_ext b h2.2).E], rfl, rfl, rfl, rfl, rfl, rfl, rfl⟩
 | .tup es, h => rde_val (by unfold tTup; rw [(rd_ext es h).L])
 | .lst es, h => rde_val (by unfold tLst; rw [(rd_ext es h).L])
 | .nil, _ => ⟨rfl, rfl, rfl, rfl, rfl, rfl, rfl, rfl⟩
 | .cons e es, h => by
     have h := (Bool.and_eq_true _ _).mp h
     have a := rd_ext (T := T) (C := C) (u := u) (W := W) e h.1
     have b := rd_ext (T := T) (C := C) (u := u) (W := W) es h.2
     refine ⟨rfl, rfl, ?_, ?_, ?_, ?_, ?_, ?_⟩
     · show tCons (rd T C e (Wdl W)).E (rd T C es (Wdl W)).L _ = tCons (rd T C e W).E (rd T C es W).L _; unfold tCons; rw [a.E, b.L]
     · show tPart (rd T C e (Wdl W)).E _ = tPart (rd T C e W).E _; unfold tPart; rw [a.E]
     · show (if elen es = 0 then (rd T C e (Wdl W)).T else tAnd (rd T C e (Wdl W)).T (rd T C es (Wdl W)).A) _ = (if elen es = 0 then (rd T C e W).T else tAnd (rd T C e W).T (rd T C es W).A) _
       split
       · exact a.T
       · unfold tAnd; rw [a.T, b.A]
     · show (if elen es = 0 then (rd T C e (Wdl W)).T else tOr (rd T C e (Wdl W)).T (rd T C es (Wdl W)).R) _ = (if elen es = 0 then (rd T C e W).T else tOr (rd T C e W).T (rd T C es W).R) _
       split
       · exact a.T
       · unfold tOr; rw [a.T, b.R]
     · show (if elen es = 0 then (rd T C e (Wdl W)).E else tAndV (rd T C e (Wdl W)).E (rd T C es (Wdl W)).AV) _ = (if elen es = 0 then (rd T C e W).E else tAndV (rd T C e W).E (rd T C es W).AV) _
       split
       · exact a.E
       · unfold tAndV; rw [a.E, b.AV]
     · show (if elen es = 0 then (rd T C e (Wdl W)).E else tOrV (rd T C e (Wdl W)).E (rd T C es (Wdl W)).RV) _ = (if elen es = 0 then (rd T C e W).E else tOrV (rd T C e W).E (rd T C es W).RV) _
       split
       · exact a.E
       · unfold tOrV; rw [a.E, b.RV]
 | .ix a i, h => rde_val (by
     have h := (Bool.and_eq_true _ _).mp h
     unfold tOp; rw [(rd_ext a h.1).E, (rd_ext i h.2).E])
 | .sl a lo hi, h => rde_val (by
     have h := (Bool.and_eq_true _ _).mp h
     have h2 := (Bool.and_eq_true _ _).mp h.2
     unfold tSl; rw [(rd_ext a h.1).E, (rd_ext lo h2.1).O, (rd_ext hi h2.2).O])
 | .call i es, h => rde_val (rcall_ext (rd_ext es h).L)
 | .blt f es, h => rde_val (by unfold tCB; rw [(rd_ext es h).L])
 | .isi a t, h => rde_val (by unfold tCB tCons; rw [(rd_ext a h).E]; rfl)
 | .isC a n m b, h => rde_val (by unfold tCB tCons; rw [(rd_ext a h).E]; rfl)
 | .att a f, h => rde_val (by unfold tFld; rw [(rd_ext a h).E])
 | .mth cs a m es, h => by
     have h := (Bool.and_eq_true _ _).mp h
     exact rde_val (rmeth_ext (rd_ext a h.1).E (rd_ext es h.2).L)
 | .mk c es, h => rde_val (rmake_ext (rd_ext es h).L)
 | .bm m a es, h => by
     have h := (Bool.and_eq_true _ _).mp h
     refine rde_val ?_
     split
     · unfold tBM0; rw [(rd_ext a h.1).E]
     · unfold tBM; rw [(rd_ext a h.1).E, (rd_ext es h.2).L]
 | .dget d k z, h => rde_val (by
     have h := (Bool.and_eq_true _ _).mp h
     have h2 := (Bool.and_eq_true _ _).mp h.2
     unfold tDGet2; rw [(rd_ext d h.1).E, (rd_ext k h2.1).E, (rd_ext z h2.2).E])
def stb (vs : List Nat) : E → Bool
 | .var i => decide (i ∈ vs)
 | .int _ => true | .str _ => true | .bl _ => true | .non => true | .glo _ => true
 | _ => false
mutual
inductive Hole (T : Tb) (n : Nat) (vs : List Nat) : E → E → E → Prop
 | here {h : E} : Hole T n vs h h (.var n)
 | binL {o : Operator} {a a' b h : E} : Hole T n vs a h a' → vb n b = true → Hole T n vs (.bin o a b) h (.bin o a' b)
 | binR {o : Operator} {a b b' h : E} : stb vs a = true → Hole T n vs b h b' → Hole T n vs (.bin o a b) h (.bin o a b')
 | neg {a a' h : E} : Hole T n vs a h a' → Hole T n vs (.neg a) h (.neg a')
 | cmpL {o : CmpOp} {a a' b h : E} : Hole T n vs a h a' → vb n b = true → Hole T n vs (.cmp o a b) h (.cmp o a' b)
 | cmpR {o : CmpOp} {a b b' h : E} : stb vs a = true → Hole T n vs b h b' → Hole T n vs (.cmp o a b) h (.cmp o a b')
 | nt {a a' h : E} : Hole T n vs a h a' → Hole T n vs (.nt a) h (.nt a')
 | and {es es' h : E} : HoleH T n vs es h es' → Hole T n vs (.and es) h (.and es')
 | or {es es' h : E} : HoleH T n vs es h es' → Hole T n vs (.or es) h (.or es')
 | tup {es es' h : E} : HoleL T n vs es h es' → Hole T n vs (.tup es) h (.tup es')
 | lst {es es' h : E} : HoleL T n vs es h es' → Hole T n vs (.lst es) h (.lst es')
 | ixL {a a' b h : E} : Hole T n vs a h a' → vb n b = true → Hole T n vs (.ix a b) h (.ix a' b)
 | ixR {a b b' h : E} : stb vs a = true → Hole T n vs b h b' → Hole T n vs (.ix a b) h (.ix a b')
 | sl {a a' lo hi h : E} : Hole T n vs a h a' → vb n lo = true → vb n hi = true → Hole T n vs (.sl a lo hi) h (.sl a' lo hi)
 | call {i : Nat} {es es' h : E} : elen es ≤ (T.f i).ar ∧ (T.f i).ar ≤ elen es + (T.f i).dfl.length → HoleL T n vs es h es' → Hole T n vs (.call i es) h (.call i es')
 | blt {f : Blt} {es es' h : E} : HoleL T n vs es h es' → Hole T n vs (.blt f es) h (.blt f es')
 | isi {a a' h : E} {t : String} : Hole T n vs a h a' → Hole T n vs (.isi a t) h (.isi a' t)
 | isC {a a' h : E} {k m : Nat} {b : Bool} : Hole T n vs a h a' → Hole T n vs (.isC a k m b) h (.isC a' k m b)
 | att {a a' h : E} {f : Str} : Hole T n vs a h a' → Hole T n vs (.att a f) h (.att a' f)
 | mth {c : Nat} {a a' es h : E} {m : Str} : elen es + 1 ≤ (T.f (T.mt c m)).ar ∧ (T.f (T.mt c m)).ar ≤ elen es + 1 + (T.f (T.mt c m)).dfl.length → Hole T n vs a h a' → vb n es = true → Hole T n vs (.mth [c] a m es) h (.mth [c] a' m es)
 | mk {c : Nat} {es es' h : E} : elen es + 1 ≤ (T.f (T.ini c)).ar ∧ (T.f (T.ini c)).ar ≤ elen es + 1 + (T.f (T.ini c)).dfl.length → HoleL T n vs es h es' → Hole T n vs (.mk c es) h (.mk c es')
 | join {s : Str} {a a' h : E} : Hole T n vs a h a' → Hole T n vs (.join s a) h (.join s a')
inductive HoleL (T : Tb) (n : Nat) (vs : List Nat) : E → E → E → Prop
 | hd {e e' es h : E} : Hole T n vs e h e' → vb n es = true → HoleL T n vs (.cons e es) h (.cons e' es)
 | tl {e es es' h : E} : stb vs e = true → HoleL T n vs es h es' → HoleL T n vs (.cons e es) h (.cons e es')
inductive HoleH (T : Tb) (n : Nat) (vs : List Nat) : E → E → E → Prop
 | hd {e e' es h : E} : Hole T n vs e h e' → vb n es = true → HoleH T n vs (.cons e es) h (.cons e' es)
end
theorem stb_val {T : Tb} {C : Kc} {vs : List Nat} {σ : L2.St} {e : E} (h : stb vs e = true) (hv : ∀ i ∈ vs, ∃ x, σ[i]? = some (some x)) : ∃ x : V, ∀ (W : WX) (u : Option V) (H : Hp) (P : VK), (rd T C e W).E σ H P = P x H ∧ (rd T C e (Wdl W)).E (σ ++ [u]) H P = P x H := by
 cases e with
 | var i =>
   obtain ⟨x, hx⟩ := hv i (of_decide_eq_true h)
   have hl : i < σ.length := by
     rcases Nat.lt_or_ge i σ.length with q | q
     · exact q
     · rw [List.getElem?_eq_none q] at hx; cases hx
   refine ⟨x, fun W u H Q => ⟨?_, ?_⟩⟩
   · show (∃ v, σ[i]? = some (some v) ∧ Q v H) = _
     rw [hx]
     exact propext ⟨fun ⟨v, e, q⟩ => by cases e; exact q, fun q => ⟨x, rfl, q⟩⟩
   · show (∃ v, (σ ++ [u])[i]? = some (some v) ∧ Q v H) = _
     rw [List.getElem?_append_left hl, hx]
     exact propext ⟨fun ⟨v, e, q⟩ => by cases e; exact q, fun q => ⟨x, rfl, q⟩⟩
 | int n => exact ⟨.int n, fun W u H Q => ⟨rfl, rfl⟩⟩
 | str n => exact ⟨.str n, fun W u H Q => ⟨rfl, rfl⟩⟩
 | bl n => exact ⟨.bl n, fun W u H Q => ⟨rfl, rfl⟩⟩
 | non => exact ⟨.non, fun W u H Q => ⟨rfl, rfl⟩⟩
 | glo n => exact ⟨C.gl n, fun W u H Q => ⟨rfl, rfl⟩⟩
 | _ => cases h
theorem HoleL.elen {T : Tb} {n : Nat} {vs : List Nat} : ∀ {es h es' : E}, HoleL T n vs es h es' → elen es' = elen es
 | _, _, _, .hd _ _ => rfl
 | _, _, _, .tl _ k => congrArg (· + 1) k.elen
section
variable {T : Tb} {C : Kc} {σ : L2.St} {W : WX} {vs : List Nat} (hv : ∀ i ∈ vs, ∃ x, σ[i]? = some (some x))
include hv
mutual
theorem rd_hole : ∀ {e h e' : E}, Hole T σ.length vs e h e' → ∀ (H : Hp) (Q : VK), (rd T C h W).E σ H (fun v H1 => (rd T C e' (Wdl W)).E (σ ++ [some v]) H1 Q) → (rd T C e W).E σ H Q
 | _, h, _, .here, H, Q, z => by
   have : (fun v H1 => (rd T C (.var σ.length) (Wdl W)).E (σ ++ [some v]) H1 Q) = Q := funext fun v => funext fun H1 => by
     show (∃ w, (σ ++ [some v])[σ.length]? = some (some w) ∧ Q w H1) = _
     rw [List.getElem?_append_right (Nat.le_refl _), Nat.sub_self]
     exact propext ⟨fun ⟨w, e, q⟩ => by cases e; exact q, fun q => ⟨v, rfl, q⟩⟩
   rw [this] at z
   exact z
 | _, _, _, .binL (b := b) k hb, H, Q, z => rd_hole k H _ (by
     refine cast ?_ z
     congr 1; funext v H1
     show tOp _ _ _ _ _ _ = _
     unfold tOp; rw [(rd_ext b hb).E])
 | _, _, _, .binR (a := a) (b := b) (b' := b') ha k, H, Q, z => by
     obtain ⟨x, hx⟩ := stb_val (T := T) (C := C) ha hv
     refine (hx W none H _).1.mpr ?_
     refine rd_hole k H _ (cast ?_ z)
     congr 1; funext v H1
     exact (hx W (some v) H1 _).2
 | _, _, _, .neg k, H, Q, z => rd_hole k H _ z
 | _, _, _, .cmpL (b := b) k hb, H, Q, z => rd_hole k H _ (by
     refine cast ?_ z
     congr 1; funext v H1
     show tOp _ _ _ _ _ _ = _
     unfold tOp; rw [(rd_ext b hb).E])
 | _, _, _, .cmpR (a := a) ha k, H, Q, z => by
     obtain ⟨x, hx⟩ := stb_val (T := T) (C := C) ha hv
     refine (hx W none H _).1.mpr ?_
     refine rd_hole k H _ (cast ?_ z)
     congr 1; funext v H1
     exact (hx W (some v) H1 _).2
 | _, _, _, .nt k, H, Q, z => rd_hole k H _ z
 | _, _, _, .and k, H, Q, z => (rd_holeH k H Q).1 z
 | _, _, _, .or k, H, Q, z => (rd_holeH k H Q).2 z
 | _, _, _, .tup k, H, Q, z => rd_holeL k H _ z
 | _, _, _, .lst k, H, Q, z => rd_holeL k H _ z
 | _, _, _, .ixL (b := b) k hb, H, Q, z => rd_hole k H _ (by
     refine cast ?_ z
     congr 1; funext v H1
     show tOp _ _ _ _ _ _ = _
     unfold tOp; rw [(rd_ext b hb).E])
 | _, _, _, .ixR (a := a) ha k, H, Q, z => by
     obtain ⟨x, hx⟩ := stb_val (T := T) (C := C) ha hv
     refine (hx W none H _).1.mpr ?_
     refine rd_hole k H _ (cast ?_ z)
     congr 1; funext v H1
     exact (hx W (some v) H1 _).2
 | _, _, _, .sl (lo := lo) (hi := hi) k h1 h2, H, Q, z => rd_hole k H _ (by
     refine cast ?_ z
     congr 1; funext v H1
     show tSl _ _ _ _ _ _ _ = _
     unfold tSl; rw [(rd_ext lo h1).O, (rd_ext hi h2).O])
 | _, _, _, .call (i := i) (es := es) (es' := es') hc k, H, Q, z => by
     have z : (rd T C _ W).E σ H (fun v H1 => rCall (T.f i) C (_root_.Q.elen es') (WE (Wdl W)) (rd T C es' (Wdl W)).L (σ ++ [some v]) H1 Q) := z
     show rCall (T.f i) C (_root_.Q.elen es) (WE W) (rd T C es W).L σ H Q
     rw [k.elen] at z
     unfold rCall at z ⊢
     rw [if_pos hc] at z ⊢
     refine rd_holeL k H _ (cast ?_ z)
     congr 1; funext v H1
     unfold tCallD; rw [we_wdl]
 | _, _, _, .blt k, H, Q, z => rd_holeL k H _ z
 | _, _, _, .isi k, H, Q, z => rd_hole k H _ z
 | _, _, _, .isC k, H, Q, z => rd_hole k H _ z
 | _, _, _, .att k, H, Q, z => rd_hole k H _ z
 | _, _, _, .mth (c := c) (a := a) (a' := a') (es := es) (m := m) hc k hb, H, Q, z => by
     have z : (rd T C _ W).E σ H (fun v H1 => rMeth T C [c] m (_root_.Q.elen es) (WE (Wdl W)) (rd T C a' (Wdl W)).E (rd T C es (Wdl W)).L (σ ++ [some v]) H1 Q) := z
     show rMeth T C [c] m (_root_.Q.elen es) (WE W) (rd T C a W).E (rd T C es W).L σ H Q
     refine ⟨c, List.mem_singleton.mpr rfl, hc, ?_⟩
     refine rd_hole k H _ (cast ?_ z)
     congr 1; funext v H1
     refine propext ⟨fun ⟨c', m', _, q⟩ => ?_, fun q => ⟨c, List.mem_singleton.mpr rfl, hc, ?_⟩⟩
     · cases List.mem_singleton.mp m'
       unfold tMethD at q
       rw [we_wdl, (rd_ext es hb).L] at q
       exact q
     · unfold tMethD
       rw [we_wdl, (rd_ext es hb).L]
       exact q
 | _, _, _, .mk (c := c) (es := es) (es' := es') hc k, H, Q, z => by
     have z : (rd T C _ W).E σ H (fun v H1 => rMake T C c (_root_.Q.elen es') (WE (Wdl W)) (rd T C es' (Wdl W)).L (σ ++ [some v]) H1 Q) := z
     show rMake T C c (_root_.Q.elen es) (WE W) (rd T C es W).L σ H Q
     rw [k.elen] at z
     unfold rMake at z ⊢
     rw [if_pos hc] at z ⊢
     refine rd_holeL k H _ (cast ?_ z)
     congr 1; funext v H1
     unfold tMakeD; rw [we_wdl]
 | _, _, _, .join (s := s) (a := a) (a' := a') k, H, Q, z => by
     show (∃ b, V.str s = V.str b) ∧ _
     refine ⟨⟨s, rfl⟩, rd_hole k H _ (cast ?_ z)⟩
     congr 1; funext v H1
     exact propext ⟨fun q => q.2, fun q => ⟨⟨s, rfl⟩, q⟩⟩
theorem rd_holeL : ∀ {es h es' : E}, HoleL T σ.length vs es h es' → ∀ (H : Hp) (Q : List V → Hp → Prop), (rd T C h W).E σ H (fun v H1 => (rd T C es' (Wdl W)).L (σ ++ [some v]) H1 Q) → (rd T C es W).L σ H Q
 | _, _, _, .hd (es := es) k hb, H, Q, z => rd_hole k H _ (by
     refine cast ?_ z
     congr 1; funext v H1
     show tCons _ _ _ _ _ = _
     unfold tCons; rw [(rd_ext es hb).L])
 | _, _, _, .tl (e := e) ha k, H, Q, z => by
     obtain ⟨x, hx⟩ := stb_val (T := T) (C := C) ha hv
     refine (hx W none H _).1.mpr ?_
     refine rd_holeL k H _ (cast ?_ z)
     congr 1; funext v H1
     exact (hx W (some v) H1 _).2
theorem rd_holeH : ∀ {es h es' : E}, HoleH T σ.length vs es h es' → ∀ (H : Hp) (Q : VK), ((rd T C h W).E σ H (fun v H1 => (rd T C es' (Wdl W)).AV (σ ++ [some v]) H1 Q) → (rd T C es W).AV σ H Q) ∧ ((rd T C h W).E σ H (fun v H1 => (rd T C es' (Wdl W)).RV (σ ++ [some v]) H1 Q) → (rd T C es W).RV σ H Q)
 | _, _, _, .hd (e := e) (e' := e') (es := es) k hb, H, Q => by
     by_cases c : elen es = 0
     · constructor
       · intro z
         have z : (rd T C _ W).E σ H (fun v H1 => (if elen es = 0 then (rd T C e' (Wdl W)).E else tAndV (rd T C e' (Wdl W)).E (rd T C es (Wdl W)).AV) (σ ++ [some v]) H1 Q) := z
         show (if elen es = 0 then (rd T C e W).E else tAndV (rd T C e W).E (rd T C es W).AV) σ H Q
         rw [if_pos c] at z ⊢
         exact rd_hole k H _ z
       · intro z
         have z : (rd T C _ W).E σ H (fun v H1 => (if elen es = 0 then (rd T C e' (Wdl W)).E else tOrV (rd T C e' (Wdl W)).E (rd T C es (Wdl W)).RV) (σ ++ [some v]) H1 Q) := z
         show (if elen es = 0 then (rd T C e W).E else tOrV (rd T C e W).E (rd T C es W).RV) σ H Q
         rw [if_pos c] at z ⊢
         exact rd_hole k H _ z
     · constructor
       · intro z
         have z : (rd T C _ W).E σ H (fun v H1 => (if elen es = 0 then (rd T C e' (Wdl W)).E else tAndV (rd T C e' (Wdl W)).E (rd T C es (Wdl W)).AV) (σ ++ [some v]) H1 Q) := z
         show (if elen es = 0 then (rd T C e W).E else tAndV (rd T C e W).E (rd T C es W).AV) σ H Q
         rw [if_neg c] at z ⊢
         refine rd_hole k H _ (cast ?_ z)
         congr 1; funext v H1
         unfold tAndV; rw [(rd_ext es hb).AV]
       · intro z
         have z : (rd T C _ W).E σ H (fun v H1 => (if elen es = 0 then (rd T C e' (Wdl W)).E else tOrV (rd T C e' (Wdl W)).E (rd T C es (Wdl W)).RV) (σ ++ [some v]) H1 Q) := z
         show (if elen es = 0 then (rd T C e W).E else tOrV (rd T C e W).E (rd T C es W).RV) σ H Q
         rw [if_neg c] at z ⊢
         refine rd_hole k H _ (cast ?_ z)
         congr 1; funext v H1
         unfold tOrV; rw [(rd_ext es hb).RV]
end
end
mutual
def tokE : E → Bool
 | .nt a => tokE a
 | .and es => tokL es
 | .or es => tokL es
 | .nil => false
 | .cons _ _ => false
 | .ife _ _ _ => false
 | .iL _ => false | .iT _ => false | .iR1 _ => false | .iR2 _ _ => false | .iR3 _ _ _ => false | .iEn _ => false | .iZp _ _ => false | .iIt _ => false | .iDv _ => false | .iDk _ => false | .iSt _ => false | .iRv _ => false
 | _ => true
def tokL : E → Bool
 | .cons e es => tokE e && (decide (elen es = 0) || tokL es)
 | _ => false
end
theorem tb_not (r : TE) : tNot (tB r) = tB (tNotV r) := by
 funext σ H Q
 show r σ H (fun x H1 => ∃ c, x = V.bl c ∧ Q (!c) H1) = r σ H (fun x H1 => ∃ c, x = V.bl c ∧ ∃ c', V.bl (!c) = V.bl c' ∧ Q c' H1)
 congr 1; funext x H1
 exact propext ⟨fun ⟨c, e, q⟩ => ⟨c, e, _, rfl, q⟩, fun ⟨c, e, c', e', q⟩ => ⟨c, e, by cases e'; exact q⟩⟩
theorem tb_and (r s : TE) : tAnd (tB r) (tB s) = tB (tAndV r s) := by
 funext σ H Q
 show r σ H (fun x H1 => ∃ c, x = V.bl c ∧ if c = true then tB s σ H1 Q else Q false H1) = r σ H (fun x H1 => ∃ c, x = V.bl c ∧ if c = true then s σ H1 (fun x H1 => ∃ c, x = V.bl c ∧ Q c H1) else ∃ c', V.bl false = V.bl c' ∧ Q c' H1)
 congr 1; funext x H1
 refine propext ⟨fun ⟨c, e, q⟩ => ⟨c, e, ?_⟩, fun ⟨c, e, q⟩ => ⟨c, e, ?_⟩⟩
 · cases c with
   | true => exact q
   | false => exact ⟨false, rfl, q⟩
 · cases c with
   | true => exact q
   | false => obtain ⟨c', e', q⟩ := q; cases e'; exact q
theorem tb_or (r s : TE) : tOr (tB r) (tB s) = tB (tOrV r s) := by
 funext σ H Q
 show r σ H (fun x H1 => ∃ c, x = V.bl c ∧ if c = true then Q true H1 else tB s σ H1 Q) = r σ H (fun x H1 => ∃ c, x = V.bl c ∧ if c = true then (∃ c', V.bl true = V.bl c' ∧ Q c' H1) else s σ H1 (fun x H1 => ∃ c, x = V.bl c ∧ Q c H1))
 congr 1; funext x H1
 refine propext ⟨fun ⟨c, e, q⟩ => ⟨c, e, ?_⟩, fun ⟨c, e, q⟩ => ⟨c, e, ?_⟩⟩
 · cases c with
   | true => exact ⟨true, rfl, q⟩
   | false => exact q
 · cases c with
   | true => obtain ⟨c', e', q⟩ := q; cases e'; exact q
   | false => exact q
mutual
theorem rd_TE {T : Tb} {C : Kc} {W : WX} : ∀ (e : E), tokE e = true → (rd T C e W).T = tB (rd T C e W).E
 | .nt a, h => by
     show tNot (rd T C a W).T = tB (tNotV (rd T C a W).E)
     rw [rd_TE a h, tb_not]
 | .and es, h => (rd_TL es h).1
 | .or es, h => (rd_TL es h).2
 | .nil, h => nomatch h
 | .cons _ _, h => nomatch h
 | .ife _ _ _, h => nomatch h
 | .iL _, h => nomatch h
 | .iT _, h => nomatch h
 | .iR1 _, h => nomatch h
 | .iR2 _ _, h => nomatch h
 | .iR3 _ _ _, h => nomatch h
 | .iEn _, h => nomatch h
 | .iZp _ _, h => nomatch h
 | .iIt _, h => nomatch h
 | .iDv _, h => nomatch h
 | .iDk _, h => nomatch h
 | .iSt _, h => nomatch h
 | .iRv _, h => nomatch h
 | .var _, _ => rfl
 | .int _, _ => rfl
 | .str _, _ => rfl
 | .bl _, _ => rfl
 | .non, _ => rfl
 | .glo _, _ => rfl
 | .bin _ _ _, _ => rfl
 | .neg _, _ => rfl
 | .cmp _ _ _, _ => rfl
 | .chn _ _ _ _ _, _ => rfl
 | .tup _, _ => rfl
 | .lst _, _ => rfl
 | .ix _ _, _ => rfl
 | .sl _ _ _, _ => rfl
 | .call _ _, _ => rfl
 | .callH _ _, _ => rfl
 | .blt _ _, _ => rfl
 | .isi _ _, _ => rfl
 | .isC _ _ _ _, _ => rfl
 | .dd0 _ _ _, _ => rfl
 | .att _ _, _ => rfl
 | .mth _ _ _ _, _ => rfl
 | .mthH _ _ _ _, _ => rfl
 | .mk _ _, _ => rfl
 | .binit _ _, _ => rfl
 | .bm _ _ _, _ => rfl
 | .join _ _, _ => rfl
 | .dct, _ => rfl
 | .dtt, _ => rfl
 | .dget _ _ _, _ => rfl
 | .dsetd _ _ _, _ => rfl
 | .dpop _ _, _ => rfl
 | .ditm _, _ => rfl
 | .dvl _, _ => rfl
 | .lrev _, _ => rfl
 | .sset _, _ => rfl
 | .lc _ _ _ _, _ => rfl
 | .isx _ _, _ => rfl
 | .isxs _ _, _ => rfl
 | .isv _, _ => rfl
 | .exf _ _, _ => rfl
theorem rd_TL {T : Tb} {C : Kc} {W : WX} : ∀ (es : E), tokL es = true → (rd T C es W).A = tB (rd T C es W).AV ∧ (rd T C es W).R = tB (rd T C es W).RV
 | .cons e es, h => by
     have h : (tokE e && (decide (elen es = 0) || tokL es)) = true := h
     have h := (Bool.and_eq_true _ _).mp h
     have a := rd_TE (T := T) (C := C) (W := W) e h.1
     constructor
     · show (if elen es = 0 then (rd T C e W).T else tAnd (rd T C e W).T (rd T C es W).A) = tB (if elen es = 0 then (rd T C e W).E else tAndV (rd T C e W).E (rd T C es W).AV)
       by_cases c : elen es = 0
       · rw [if_pos c, if_pos c, a]
       · rw [if_neg c, if_neg c, a, (rd_TL es (by have := h.2; rw [decide_eq_false c, Bool.false_or] at this; exact this)).1, tb_and]
     · show (if elen es = 0 then (rd T C e W).T else tOr (rd T C e W).T (rd T C es W).R) = tB (if elen es = 0 then (rd T C e W).E else tOrV (rd T C e W).E (rd T C es W).RV)
       by_cases c : elen es = 0
       · rw [if_pos c, if_pos c, a]
       · rw [if_neg c, if_neg c, a, (rd_TL es (by have := h.2; rw [decide_eq_false c, Bool.false_or] at this; exact this)).2, tb_or]
 | .nil, h => nomatch h
 | .nt _, h => nomatch h
 | .and _, h => nomatch h
 | .or _, h => nomatch h
 | .ife _ _ _, h => nomatch h
 | .iL _, h => nomatch h
 | .iT _, h => nomatch h
 | .iR1 _, h => nomatch h
 | .iR2 _ _, h => nomatch h
 | .iR3 _ _ _, h => nomatch h
 | .iEn _, h => nomatch h
 | .iZp _ _, h => nomatch h
 | .iIt _, h => nomatch h
 | .iDv _, h => nomatch h
 | .iDk _, h => nomatch h
 | .iSt _, h => nomatch h
 | .iRv _, h => nomatch h
 | .var _, h => nomatch h
 | .int _, h => nomatch h
 | .str _, h => nomatch h
 | .bl _, h => nomatch h
 | .non, h => nomatch h
 | .glo _, h => nomatch h
 | .bin _ _ _, h => nomatch h
 | .neg _, h => nomatch h
 | .cmp _ _ _, h => nomatch h
 | .chn _ _ _ _ _, h => nomatch h
 | .tup _, h => nomatch h
 | .lst _, h => nomatch h
 | .ix _ _, h => nomatch h
 | .sl _ _ _, h => nomatch h
 | .call _ _, h => nomatch h
 | .callH _ _, h => nomatch h
 | .blt _ _, h => nomatch h
 | .isi _ _, h => nomatch h
 | .isC _ _ _ _, h => nomatch h
 | .dd0 _ _ _, h => nomatch h
 | .att _ _, h => nomatch h
 | .mth _ _ _ _, h => nomatch h
 | .mthH _ _ _ _, h => nomatch h
 | .mk _ _, h => nomatch h
 | .binit _ _, h => nomatch h
 | .bm _ _ _, h => nomatch h
 | .join _ _, h => nomatch h
 | .dct, h => nomatch h
 | .dtt, h => nomatch h
 | .dget _ _ _, h => nomatch h
 | .dsetd _ _ _, h => nomatch h
 | .dpop _ _, h => nomatch h
 | .ditm _, h => nomatch h
 | .dvl _, h => nomatch h
 | .lrev _, h => nomatch h
 | .sset _, h => nomatch h
 | .lc _ _ _ _, h => nomatch h
 | .isx _ _, h => nomatch h
 | .isxs _ _, h => nomatch h
 | .isv _, h => nomatch h
 | .exf _ _, h => nomatch h
end
end Q
namespace Q
open PySem L2 PySem.Spec
section
variable {T : Tb} {cs : List Nat} {C : Kc} {Γ : Cx0} {ν β ρ ξ : Type}
theorem envo_ext {B H : Hp} {u : Option V} : ∀ {Γ : Cx0} {σ : List (Option V)} {fp : List Addr}, EnvO B H σ Γ fp → EnvO B H (σ ++ [u]) (Γ ++ [none]) fp
 | [], [], fp, h => h
 | [], _ :: _, fp, h => h.elim
 | none :: Γ, [], fp, h => h.elim
 | some _ :: Γ, [], fp, h => h.elim
 | none :: Γ, _ :: σ, fp, h => envo_ext (Γ := Γ) (σ := σ) h
 | some o :: Γ, _ :: σ, fp, ⟨v, f, g, h0, h1, h2, h3⟩ => ⟨v, f, g, h0, h1, h2, envo_ext (Γ := Γ) (σ := σ) h3⟩
theorem envo_put {B H : Hp} {o : Ow} {v : V} {f : List Addr} (r : o.rel B H v f) : ∀ {Γ : Cx0} {σ : List (Option V)} {fp : List Addr}, EnvO B H σ Γ fp → EnvO B H (σ ++ [some v]) (Γ ++ [some o]) (fp ++ f)
 | [], [], fp, h => by
   have h : fp = [] := h
   subst h
   exact ⟨v, f, [], rfl, by simp, r, rfl⟩
 | [], _ :: _, fp, h => h.elim
 | none :: Γ, [], fp, h => h.elim
 | some _ :: Γ, [], fp, h => h.elim
 | none :: Γ, _ :: σ, fp, h => envo_put r (Γ := Γ) (σ := σ) h
 | some o :: Γ, _ :: σ, fp, ⟨w, f0, g, h0, h1, h2, h3⟩ => ⟨w, f0, g ++ f, h0, by rw [h1, List.append_assoc], h2, envo_put r (Γ := Γ) (σ := σ) h3⟩
theorem Oks.ext {σ : L2.St} {B Z H : Hp} {fp : List Addr} {u : Option V} (h : Oks Γ σ B Z H fp) : Oks (Γ ++ [none]) (σ ++ [u]) B Z H fp := ⟨envo_ext h.env, h.nd, h.fr, h.b, h.z⟩
theorem Oks.back {σ : L2.St} {B Z H : Hp} {fp : List Addr} {o : Ow} {v : V} (h : Oks (some o :: Γ) (some v :: σ) B Z H fp) : ∃ fq, Oks (Γ ++ [some o]) (σ ++ [some v]) B Z H fq := by
 obtain ⟨⟨u, f, g, h0, h1, h2, h3⟩, nd, fr, b, z⟩ := h
 cases h0
 subst h1
 exact ⟨g ++ f, envo_put h2 h3, (List.perm_append_comm.nodup_iff).mp nd, fun a ha => fr a (List.perm_append_comm.mem_iff.mp ha), b, z⟩
section
variable {D : Ds ν β ρ ξ} {ι : Type} {Γ' : ι → Cx0} {k : Bool → ι → Out ν β ρ ξ} {m : Out ν β ρ ξ} {t u us : E}
end
end
section
variable {T : Tb} {cs : List Nat} {C : Kc} {Γ : Cx0} {ν β ρ ξ : Type}
end
section
variable {T : Tb} {cs : List Nat} {C : Kc} {Γ : Cx0} {κ κ' η ι ι' : Type}
end
section
variable {T : Tb} {cs : List Nat} {C : Kc} {Γ : Cx0} {ν β ρ ξ : Type}
end
end Q
namespace Q
open PySem L2 PySem.Spec
section
variable {T : Tb} {cs : List Nat} {C : Kc} {Γ : Cx0} {α β γ : Type}
end
section
variable {T : Tb} {cs : List Nat} {C : Kc} {Γ : Cx0} {α γ : Type}
end
end Q
namespace Q
open PySem L2 PySem.Spec
section
variable {T : Tb} {cs : List Nat} {C : Kc} {Γ : Cx0} {α ν ν' β ρ ξ γ κ : Type}
theorem owl_vwl {B H : Hp} {τ : α → Vw} : ∀ {xs : List α} {vs : List V} {f : List Addr}, OwL B H vs (xs.map fun x => oV (τ x)) f → VwL B vs (xs.map τ)
 | [], [], _, _ => .nil
 | [], _ :: _, _, h => h.elim
 | _ :: _, [], _, h => h.elim
 | x :: xs, v :: vs, _, ⟨_, _, _, h2, h3⟩ => .cons h2.1 (owl_vwl h3)
def AtL (C : Kc) (Γ : Cx0) (i : Nat) (u : V) (τ : α → Vw) (xs : List α) : Prop := ∃ o, Γ[i]? = some (some o) ∧ ∀ B H v f, o.rel B H v f → v = u ∧ (oL C (fun x => oV (τ x)) xs).rel B H v f
theorem AtL.get {i : Nat} {u : V} {τ : α → Vw} {xs : List α} (h : AtL C Γ i u τ xs) {σ : L2.St} {B Z H : Hp} {fp : List Addr} (o : Oks Γ σ B Z H fp) : ∃ a vs, u = .ref a ∧ σ[i]? = some (some u) ∧ H a = some (.lst vs) ∧ VwL B vs (xs.map τ) := by
 obtain ⟨w, h1, h2⟩ := h
 obtain ⟨v, f, q1, q2, _⟩ := o.env.get h1
 obtain ⟨e, p, vs, f0, e2, hl, ho, _⟩ := h2 _ _ _ _ q2
 exact ⟨p, vs, by rw [← e, e2], by rw [← e]; exact q1, hl, owl_vwl ho⟩
end
end Q
namespace Q
open PySem L2 PySem.Spec
section
variable {T : Tb} {cs : List Nat} {C : Kc} {Γ : Cx0} {α β γ : Type}
end
end Q
namespace Q
open PySem L2 PySem.Spec
def vAny (_ : Unit) : Vw := ⟨fun _ _ => True, fun _ h => h, fun _ h => h⟩
section
variable {T : Tb} {cs : List Nat} {C : Kc} {Γ : Cx0} {α β γ ν ν' ρ ξ : Type}
theorem owl_any {B H : Hp} : ∀ (vs : List V), OwL B H vs ((List.replicate vs.length ()).map fun x => oV (vAny x)) []
 | [] => rfl
 | v :: vs => ⟨[], [], rfl, ⟨trivial, rfl⟩, owl_any vs⟩
theorem re_own {σ : L2.St} {B Z H : Hp} {fp : List Addr} {i n : Nat} {a : Addr} {vs : List V} (o : Oks Γ σ B Z H fp) (hi : Γ[i]? = some (some (oV (vC (.ref a))))) (ha : H a = some (.lst vs)) (hn : vs.length = n) (h : a ∉ fp ∧ Z a = none ∧ B a = none) :
   ∃ fq, Oks (Γ.set i (some (oL C (fun x => oV (vAny x)) (List.replicate n ())))) σ B Z H fq := by
 subst hn
 obtain ⟨v, f, g, q1, q2, q3, q4⟩ := o.env.focus hi
 have ev : v = .ref a := q2.1
 have ef : f = [] := q2.2
 subst ev ef
 have hg : ∀ c, c ∈ g ↔ c ∈ fp := fun c => by
   have := q3.mem_iff (a := c)
   simpa using this
 obtain ⟨fq, k1, k2⟩ := q4 B H (oL C (fun x => oV (vAny x)) (List.replicate vs.length ())) [a] (sm_refl _) (fun _ _ => rfl) ⟨a, vs, [], rfl, ha, owl_any vs, rfl⟩
 refine ⟨fq, k1, k2.nodup_iff.mp (List.nodup_cons.mpr ⟨fun z => h.1 ((hg a).mp z), ?_⟩), fun c hc => ?_, o.b, o.z⟩
 · have := q3.nodup_iff.mpr o.nd
   simpa using this
 · rcases List.mem_cons.mp (k2.mem_iff.mpr hc) with rfl | hc
   · exact h.2
   · exact o.fr c ((hg c).mp hc)
theorem for_coreON {D : Ds ν' β ρ ξ} {Γ0 : ν → Cx0} {i0 : Nat} {τ : α → Ow} {f : α → ν → Out ν ν ρ ξ} {xs : List α} {j : Nat} {b : S} {W : WX} {E : Ends} {B Z H : Hp} {σ : L2.St} {fp fr : List Addr} {s0 : ν} {a : Addr} {vs : List V}
   (l : ∀ st, j < (Γ0 st).length) (hi0 : ∀ st, (Γ0 st)[i0]? = some (some (oV (vC (.ref a))))) (hb : ∀ x st, Blk T cs C ({ n := Γ0, b := Γ0, t := D.t, r := D.r, x := D.x } : Ds ν ν ρ ξ) ((Γ0 st).set j (some (τ x))) b (f x st))
   (p : Post C ({ n := fun st => (Γ0 st).set i0 (some (oL C (fun x => oV (vAny x)) (List.replicate xs.length ()))), b := D.b, t := D.t, r := D.r, x := D.x } : Ds ν β ρ ξ) (loopO f xs s0) W E B Z) (o : Oks (Γ0 s0) σ B Z H fp)
   (ha : H a = some (.lst vs)) (hv : OwL B H vs (xs.map τ) fr) (nd : (a :: fr).Nodup) (fz : ∀ c ∈ a :: fr, c ∉ fp ∧ Z c = none ∧ B c = none) :
   ∃ Wi : Nat → Nat → L2.St → Hp → Prop, (∃ m, Wi 0 m σ H) ∧ ∀ i m σ H, Wi i m σ H → ((Itl C.K a).stop i H ∧ E.nx σ H) ∨ ((Itl C.K a).go i H ∧ ∃ N : L2.St → Hp → Prop, (∀ σ' H', N σ' H' → ∃ m', m' < m ∧ Wi (i + 1) m' σ' H') ∧
     ∀ x H', (Itl C.K a).yld i H x H' → gTg C.K [j] x σ H' fun σ2 H2 => rs T cs b C W { E with nx := N, ct := N, bk := E.nx } σ2 H2) := by
 have vl : vs.length = xs.length := by rw [hv.len, List.length_map]
 let Wi : Nat → Nat → L2.St → Hp → Prop := fun i m σ H => i + m = xs.length ∧ ∃ st B' fp fr, Gz B Z B' ∧ Oks (Γ0 st) σ B' Z H fp ∧ Post C ({ n := fun st => (Γ0 st).set i0 (some (oL C (fun x => oV (vAny x)) (List.replicate xs.length ()))), b := D.b, t := D.t, r := D.r, x := D.x } : Ds ν β ρ ξ) (loopO f (xs.drop i) st) W E B' Z ∧
   H a = some (.lst vs) ∧ OwL B' H (vs.drop i) ((xs.drop i).map τ) fr ∧ (a :: fr).Nodup ∧ ∀ c ∈ a :: fr, c ∉ fp ∧ Z c = none ∧ B' c = none
 refine ⟨Wi, ⟨xs.length, by omega, s0, B, fp, fr, Gz.refl _ _, o, by rw [List.drop_zero]; exact p, ha, by rw [List.drop_zero, List.drop_zero]; exact hv, nd, fz⟩, fun i m σ H ⟨hm, st, B', fp, fr, g, o, p, ha, hv, nd, fz⟩ => ?_⟩
 rcases Nat.lt_or_ge i xs.length with hi | hi
 · refine .inr ?_
   have hi' : i < vs.length := by omega
   have hd : xs.drop i = xs[i] :: xs.drop (i + 1) := List.drop_eq_getElem_cons hi
   have hd' : vs.drop i = vs[i] :: vs.drop (i + 1) := List.drop_eq_getElem_cons hi'
   refine ⟨⟨vs, vs[i], SqL.of ha, List.getElem?_eq_getElem hi'⟩, Wi (i + 1) (m - 1), fun σ' H' w => ⟨m - 1, by omega, w⟩, fun v H' hy => ?_⟩
   obtain ⟨rfl, y⟩ := hy
   have ev := y vs (SqL.of ha)
   rw [List.getElem?_eq_getElem hi'] at ev
   obtain rfl := Option.some.inj ev
   rw [hd, hd', List.map_cons] at hv
   obtain ⟨f1, f2, rfl, r1, r2⟩ := hv
   rw [hd] at p
   obtain ⟨na, nfr⟩ := List.nodup_cons.mp nd
   obtain ⟨n1, n2, n3⟩ := List.nodup_append.mp nfr
   -- what stands still in the turn
   let Zi : Hp := fun c => if c ∈ a :: f2 then H' c else Z c
   have zin : ∀ c ∈ a :: f2, Zi c = H' c := fun c hc => if_pos hc
   have zout : ∀ c, c ∉ a :: f2 → Zi c = Z c := fun c hc => if_neg hc
   have hid : ∀ c ∈ a :: f2, c ∉ fp ∧ Z c = none ∧ B' c = none := fun c hc => by
     rcases List.mem_cons.mp hc with rfl | hc
     · exact fz _ List.mem_cons_self
     · exact fz c (List.mem_cons_of_mem _ (List.mem_append_right _ hc))
   have sZ : Same Z Zi := fun c u e => by
     rw [zout c fun hc => by rw [(hid c hc).2.1] at e; cases e]
     exact e
   have sH : Same Zi H' := fun c u e => by
     by_cases hc : c ∈ a :: f2
     · rw [zin c hc] at e; exact e
     · rw [zout c hc] at e; exact o.z c u e
   have al : ∀ c ∈ a :: f2, (H' c).isSome = true := fun c hc => by
     rcases List.mem_cons.mp hc with rfl | hc
     · rw [ha]; rfl
     · exact OwL.al r2 c hc
   have nt : ∀ c ∈ a :: f2, nTup H' c := fun c hc => by
     rcases List.mem_cons.mp hc with rfl | hc
     · intro u e; rw [ha] at e; cases e; rfl
     · exact OwL.nt r2 c hc
   have h1 : ∀ c ∈ f1, c ∉ a :: f2 ∧ c ∉ fp ∧ Z c = none ∧ B' c = none := fun c hc => by
     refine ⟨fun z => ?_, fz c (List.mem_cons_of_mem _ (List.mem_append_left _ hc))⟩
     rcases List.mem_cons.mp z with rfl | z
     · exact na (List.mem_append_left _ hc)
     · exact n3 c hc c z rfl
   have o1 : Oks (some (τ xs[i]) :: Γ0 st) (some vs[i] :: σ) B' Zi H' (f1 ++ fp) := by
     refine ⟨⟨vs[i], f1, fp, rfl, rfl, r1, o.env⟩, List.nodup_append.mpr ⟨n1, o.nd, fun c hc d hd e => (h1 c hc).2.1 (by rw [e]; exact hd)⟩, fun c hc => ?_, o.b, sH⟩
     rcases List.mem_append.mp hc with hc | hc
     · obtain ⟨q1, _, q3, q4⟩ := h1 c hc
       exact ⟨by rw [zout c q1]; exact q3, q4⟩
     · have := o.fr c hc
       exact ⟨by rw [zout c fun z => (hid c z).1 hc]; exact this.1, this.2⟩
   obtain ⟨fp2, o2⟩ := o1.set (l st)
   show rs T cs b C W _ (σ.set j (some vs[i])) H'
   refine hb xs[i] st W _ _ B' Zi H' fp2 o2 ?_
   unfold loopO at p
   have nxt : ∀ s', Post C ({ n := fun st => (Γ0 st).set i0 (some (oL C (fun x => oV (vAny x)) (List.replicate xs.length ()))), b := D.b, t := D.t, r := D.r, x := D.x } : Ds ν β ρ ξ) (loopO f (xs.drop (i + 1)) s') W E B' Z → ∀ σ3 B3 H3 fp3, Gz B' Zi B3 → Oks (Γ0 s') σ3 B3 Zi H3 fp3 → Wi (i + 1) (m - 1) σ3 H3 := fun s' p σ3 B3 H3 fp3 g3 o3 => by
     have keep : ∀ c ∈ a :: f2, H3 c = H' c := fun c hc => by
       obtain ⟨u, hu⟩ := Option.isSome_iff_exists.mp (al c hc)
       rw [hu]
       exact o3.z c u (by rw [zin c hc]; exact hu)
     have g4 := gz_less sZ g3
     refine ⟨by omega, s', B3, fp3, f2, g.trans g4, o3.less sZ, p.up g4, by rw [keep a List.mem_cons_self]; exact ha, OwL.mono g3.b (fun c hc => keep c (List.mem_cons_of_mem _ hc)) r2, List.nodup_cons.mpr ⟨fun z => na (List.mem_append_right _ z), n2⟩, fun c hc => ⟨fun z => ?_, (hid c hc).2.1, ?_⟩⟩
     · obtain ⟨u, hu⟩ := Option.isSome_iff_exists.mp (al c hc)
       have := (o3.fr c z).1
       rw [zin c hc, hu] at this
       cases this
     · cases q : B3 c with
       | none => rfl
       | some u =>
         rcases g3.n c u q with e | e | ⟨e, t⟩
         · rw [(hid c hc).2.2] at e; cases e
         · have := al c hc
           rw [zin c hc] at e
           rw [e] at this; cases this
         · rw [zin c hc] at e
           rw [nt c hc u e] at t; cases t
   cases q : f xs[i] st with
   | nx s' =>
     rw [q] at p
     exact nxt s' p
   | ct s' =>
     rw [q] at p
     exact nxt s' p
   | bk s' =>
     rw [q] at p
     intro σ3 B3 H3 fp3 g3 o3
     have c3 : H3 a = some (.lst vs) := o3.z a _ (by rw [zin a List.mem_cons_self]; exact ha)
     have f3 : a ∉ fp3 ∧ Z a = none ∧ B3 a = none := by
       refine ⟨fun z => ?_, (hid a List.mem_cons_self).2.1, ?_⟩
       · have := (o3.fr a z).1
         rw [zin a List.mem_cons_self, ha] at this
         cases this
       · cases q : B3 a with
         | none => rfl
         | some u =>
           rcases g3.n a u q with e | e | ⟨e, t⟩
           · rw [(hid a List.mem_cons_self).2.2] at e; cases e
           · rw [zin a List.mem_cons_self, ha] at e; cases e
           · rw [zin a List.mem_cons_self] at e
             rw [nt a List.mem_cons_self u e] at t; cases t
     obtain ⟨fq, o'⟩ := re_own (o3.less sZ) (hi0 s') c3 vl f3
     exact p σ3 B3 H3 fq (gz_less sZ g3) o'
   | rt r =>
     rw [q] at p
     exact fun v σ3 B3 H3 fp3 g3 o3 => p v σ3 B3 H3 fp3 (gz_less sZ g3) (o3.less sZ)
   | exc e y =>
     rw [q] at p
     exact fun cls d σ3 B3 H3 fp3 us3 os3 g3 o3 c3 r => p cls d σ3 B3 H3 fp3 us3 os3 (gz_less sZ g3) (o3.less sZ) c3 (r.less fun _ => none_back sZ)
   | bad => rw [q] at p; exact p
 · refine .inl ?_
   have hi2 : i = xs.length := by omega
   subst hi2
   refine ⟨⟨vs, SqL.of ha, by omega⟩, ?_⟩
   rw [List.drop_length] at p
   obtain ⟨fq, o'⟩ := re_own o (hi0 st) ha vl (fz a List.mem_cons_self)
   exact p σ B' H fq (Gz.refl _ _) o'

theorem b_forON {D : Ds ν' β ρ ξ} {Γ0 : ν → Cx0} {i j : Nat} {b s : S} {u : V} {τ : α → Ow} {xs : List α} {put : Ow → Cx0} {pt : List α → Cx0} {f : α → ν → Out ν ν ρ ξ} {k : ν → Out ν' β ρ ξ} {s0 : ν} (h : Pl T C Γ (some (.var i)) (fun xs => oQ (· = u) (oL C τ xs)) xs put pt) (w0 : Wk (put (oV (vC u))) (Γ0 s0)) (hi : ∀ st, (Γ0 st)[i]? = some (some (oV (vC u))))
   (l : ∀ st, j < (Γ0 st).length) (hb : ∀ x st, Blk T cs C ({ n := Γ0, b := Γ0, t := D.t, r := D.r, x := D.x } : Ds ν ν ρ ξ) ((Γ0 st).set j (some (τ x))) b (f x st)) (hs : ∀ st, Blk T cs C D ((Γ0 st).set i (some (oL C (fun x => oV (vAny x)) (List.replicate xs.length ())))) s (k st)) :
   Blk T cs C D Γ (.seq (.for [j] (.iL (.var i)) b) s) ((loopO f xs s0).then k) := fun W E σ B Z H fp o p => by
 obtain ⟨v, fx, g, hr, ⟨e, a, vs, fr, ev, ha, hv, ef⟩, pm, up⟩ := h.run σ B H fp o.env o.b
 have e : v = u := e
 subst e
 subst ev ef
 obtain ⟨fp', k1, k2⟩ := up B H (oV (vC (.ref a))) [] (sm_refl _) (fun _ _ => rfl) ⟨rfl, rfl⟩
 have hnd := pm.nodup_iff.mpr o.nd
 obtain ⟨n1, n2, n3⟩ := List.nodup_append.mp hnd
 have hfp : ∀ c, c ∈ fp' ↔ c ∈ g := fun c => by
   have := k2.mem_iff (a := c)
   simpa using this.symm
 have o1 : Oks (put (oV (vC (.ref a)))) σ B Z H fp' := ⟨k1, k2.nodup_iff.mp (by simpa using n2), fun c hc => o.fr c (pm.mem_iff.mp (List.mem_append_right _ ((hfp c).mp hc))), o.b, o.z⟩
 obtain ⟨fp2, e2, sub2⟩ := w0.env k1
 have o2 : Oks (Γ0 s0) σ B Z H fp2 := ⟨e2, o1.nd.sublist sub2, fun c hc => o1.fr c (sub2.subset hc), o.b, o.z⟩
 obtain ⟨w, hw, ew⟩ : ∃ w, σ[i]? = some (some w) ∧ w = .ref a := hr _ rfl noX (fun w _ => w = .ref a) B H (.refl o.b) fun _ _ _ => rfl
 subst ew
 refine ⟨.ref a, hw, a, rfl, ⟨vs, SqL.of ha⟩, ?_⟩
 refine for_coreON (α := α) (xs := xs) (τ := τ) (i0 := i) l hi hb (post_then p hs) o2 ha hv n1 fun c hc => ?_
 have hfr := o.fr c (pm.mem_iff.mp (List.mem_append_left _ hc))
 exact ⟨fun z => n3 c hc c ((hfp c).mp (sub2.subset z)) rfl, hfr.1, hfr.2⟩
end
end Q
namespace Q
open PySem L2 PySem.Spec
section
variable {T : Tb} {cs : List Nat} {C : Kc} {Γ : Cx0} {ν β ρ ξ η : Type}
end
section
variable {T : Tb} {C : Kc} {Γ : Cx0} {κ α : Type} [KeyC κ] [DecidableEq κ]
end
end Q
namespace Q.H
open PySem L2 PySem.Spec Q
abbrev HIn := Str × (List (Str × (List (Int × (Int × Int)))))
def hCell (a0 : (List Int)) (a1 : Int) : Out Unit Unit Int Unit :=
 (Res.ok (decide (a1 < (a0.length : Int)))).to () fun b3 => cond b3
 ((ixR a0 a1).to () fun r4 => .rt r4)
 ((Res.ok (0 : Int)).to () fun r5 => .rt r5)
def hMix (a0 : Int) (a1 : Int) : Out Unit Unit Int Unit :=
 (((gd (mulB ((Int.fmod a0 (2147483647 : Int)) + (17 : Int)) a1) (Res.ok (((Int.fmod a0 (2147483647 : Int)) + (17 : Int)) * a1)) >>= fun x42 => (Res.ok (Int.fmod x42 (2147483399 : Int)))) >>= fun x44 => (Res.ok (Int.fdiv x44 (97 : Int))))).to () fun r45 => .rt r45
def hRate (cR : Nat) (a0 : HIn) (a1 : Str) (a2 : Int) : Out Unit Unit (Int × Int) Unit :=
 (eqR (PyData.str a1) (PyData.str a0.1)).to () fun b361 => cond b361
 ((Res.ok ((1 : Int), (1 : Int))).to () fun r364 => .rt r364)
 ((Res.ok ((dget a0.2 a1).getD ([] : (List (Int × (Int × Int)))))).to () fun v365 =>
 (Res.ok none).to () fun v366 =>
 (loopO (fun (x368 : Int × (Int × Int)) (s367 : (Option Int)) =>
 (((andR (Res.ok (decide (x368.1 ≤ a2))) (orR (Res.ok (s367.isNone)) ((getR s367 >>= fun x369 => (Res.ok (decide (x369 < x368.1))))))).to () fun b370 => cond b370
 ((Res.ok (some x368.1)).to () fun v371 =>
 .nx v371)
 (.nx s367)) : Out _ _ _ _).noX) v365 v366).then fun s367 : (Option Int) =>
 (Res.ok (s367.isNone)).to () fun b372 => cond b372
 ((Res.ok [V.str a1, V.int a2]).to () fun v373 => .exc ⟨cR, fsOf [(("coin" : Str), 1), (("day" : Str), 2)] v373⟩ ())
 (((getR s367 >>= fun x376 => (getR (dget v365 x376)))).to () fun r377 => .rt r377))
def hNear (cN : Nat) (a0 : Int) (a1 : Int) : Out Unit Unit Int Unit :=
 (Res.ok (decide (a1 < (1 : Int)))).to () fun b381 => cond b381
 (.exc ⟨cN, []⟩ ())
 ((((gd (mulB (2 : Int) (if a0 < 0 then -a0 else a0)) (Res.ok ((2 : Int) * (if a0 < 0 then -a0 else a0))) >>= fun x383 => (Res.ok (x383 + a1))) >>= fun x384 => ((gd (mulB (2 : Int) a1) (Res.ok ((2 : Int) * a1)) >>= fun x385 => (gd (divOk x385) (Res.ok (Int.fdiv x384 x385))))))).to () fun v382 =>
 (Res.ok (decide (a0 < (0 : Int)))).to () fun b386 => cond b386
 ((Res.ok (-v382)).to () fun r387 => .rt r387)
 ((Res.ok v382).to () fun r388 => .rt r388))
def hWorth (cN cR : Nat) (a0 : HIn) (a1 : Int) (a2 : Str) (a3 : Int) : Out Unit Unit Int Unit :=
 (outR ((hRate cR) a0 a2 a3)).to () fun v360 =>
 ((gd (mulB a1 v360.1) (Res.ok (a1 * v360.1)) >>= fun x389 => (outR ((hNear cN) x389 v360.2)))).to () fun r392 => .rt r392
section
variable {cN cT cR cU : Nat}
abbrev Rw := Str × Int × Int × Int
abbrev Day := Int × (Int × Int)
theorem gcd_step (a b : Int) : Int.gcd a b = Int.gcd b (a % b) := by
 have d := Int.emod_add_mul_ediv a b
 have h : Int.gcd b (a % b + b * (a / b)) = Int.gcd b (a % b) := Int.gcd_add_mul_left_right b (a % b) (a / b)
 rw [d] at h
 rw [← h, Int.gcd_comm]
theorem while_gcd (C1 : Int × Int → Res Bool) (F1 : Int × Int → Out (Int × Int) (Int × Int) Int Unit) (hc : ∀ s : Int × Int, 0 ≤ s.2 → C1 s = .ok (decide (0 < s.2))) (hf : ∀ s : Int × Int, 0 < s.2 → F1 s = .nx (s.2, Int.fmod s.1 s.2)) :
   ∀ (k n : Nat) (s : Int × Int), 2 * k + 1 ≤ n → 1 ≤ s.1 → 0 ≤ s.2 → s.2 < 2 ^ k → (whileO () C1 F1 n s : Out (Int × Int) Unit Int Unit) = .nx ((Int.gcd s.1 s.2 : Int), 0)
 | 0, n, s, hn, h1, h2, h3 => by
   obtain ⟨n, rfl⟩ : ∃ m, n = m + 1 := ⟨n - 1, by omega⟩
   have e : s.2 = 0 := by omega
   unfold whileO
   rw [hc s h2, e, ok_toN]
   show Out.nx s = _
   obtain ⟨a, b⟩ := s
   have e : b = 0 := e
   subst e
   rw [Int.gcd_zero_right]
   congr 2
   have h1 : 1 ≤ a := h1
   omega
 | k + 1, n, s, hn, h1, h2, h3 => by
   obtain ⟨n, rfl⟩ : ∃ m, n = m + 2 := ⟨n - 2, by omega⟩
   obtain ⟨a, b⟩ := s
   have h1 : 1 ≤ a := h1
   have h2 : 0 ≤ b := h2
   have h3 : b < 2 ^ (k + 1) := h3
   by_cases e : b = 0
   · subst e
     unfold whileO
     rw [hc (a, 0) h2, ok_toN]
     show Out.nx (a, (0 : Int)) = _
     rw [Int.gcd_zero_right]
     congr 2
     omega
   · have hb : 0 < b := by omega
     unfold whileO
     rw [hc (a, b) h2, ok_toN, show decide (0 < (a, b).2) = true from decide_eq_true hb, hf (a, b) hb]
     have m1 := Int.emod_nonneg a e
     have m2 := Int.emod_lt_of_pos a hb
     have fm : Int.fmod a b = a % b := Int.fmod_eq_emod_of_nonneg a h2
     have g1 : Int.gcd a b = Int.gcd b (a % b) := gcd_step a b
     show whileO () C1 F1 (n + 1) (b, Int.fmod a b) = _
     rw [fm]
     show _ = Out.nx ((Int.gcd a b : Int), (0 : Int))
     rw [g1]
     generalize a % b = r at *
     by_cases e2 : r = 0
     · subst e2
       unfold whileO
       rw [hc (b, 0) (by exact Int.le_refl 0), ok_toN]
       show Out.nx (b, (0 : Int)) = _
       rw [Int.gcd_zero_right]
       congr 2
       omega
     · have hr : 0 < r := by omega
       unfold whileO
       rw [hc (b, r) m1, ok_toN, show decide (0 < (b, r).2) = true from decide_eq_true hr, hf (b, r) hr]
       have m3 := Int.emod_nonneg b e2
       have m4 := Int.emod_lt_of_pos b hr
       have fm2 : Int.fmod b r = b % r := Int.fmod_eq_emod_of_nonneg b m1
       have g2 : Int.gcd b r = Int.gcd r (b % r) := gcd_step b r
       show whileO () C1 F1 n (r, Int.fmod b r) = _
       rw [fm2, g2]
       have half : 2 * (b % r) < b := by
         have d := Int.emod_add_mul_ediv b r
         have q1 : 1 ≤ b / r := by
           by_cases z : b / r < 1
           · have q0 : b / r ≤ 0 := by omega
             have : r * (b / r) ≤ 0 := Int.mul_nonpos_of_nonneg_of_nonpos (by omega) q0
             omega
           · omega
         have : r * 1 ≤ r * (b / r) := Int.mul_le_mul_of_nonneg_left q1 (by omega)
         omega
       have p2 : (2 : Int) ^ (k + 1) = 2 * 2 ^ k := by rw [Int.pow_succ]; omega
       exact while_gcd C1 F1 hc hf k n (r, b % r) (by omega) hr m3 (by show b % r < 2 ^ k; omega)
def frac (a b : Int) : Int × Int := (Int.fdiv a (Int.gcd a b), Int.fdiv b (Int.gcd a b))
def days (rows : List Rw) (c : Str) : List Day := (rows.filter fun r => decide (r.1 = c)).map fun r => (r.2.1, (r.2.2.1, r.2.2.2))
theorem days_cons (r : Rw) (rows : List Rw) (c : Str) : days (r :: rows) c = if r.1 = c then (r.2.1, (r.2.2.1, r.2.2.2)) :: days rows c else days rows c := by
 unfold days
 by_cases e : r.1 = c
 · rw [List.filter_cons_of_pos (by simp [e]), if_pos e]; rfl
 · rw [List.filter_cons_of_neg (by simp [e]), if_neg e]
def blw (s : Option Int) (z : Int) : Bool := match s with
 | none => true
 | some y => decide (y < z)
def bst (d : Int) (s : Option Day) (x : Day) : Option Day := if x.1 ≤ d ∧ blw (s.map (·.1)) x.1 = true then some x else s
def best (d : Int) (l : List Day) : Option Day := l.foldl (bst d) none
theorem best_mem (d : Int) : ∀ (l : List Day) (s : Option Day) (x : Day), l.foldl (bst d) s = some x → x ∈ l ∨ s = some x
 | [], s, x, h => .inr h
 | y :: l, s, x, h => by
   rcases best_mem d l (bst d s y) x h with h | h
   · exact .inl (List.mem_cons_of_mem _ h)
   · unfold bst at h
     split at h
     · cases h; exact .inl List.mem_cons_self
     · exact .inr h
def okRow (r : Rw) : Prop := tOk 24 r.1 ∧ 0 ≤ r.2.1
def due (rows : List Rw) (told c : Str) (d : Int) : Option (Int × Int) := if c = told then some (1, 1) else (best d (days rows c)).map (·.2)
def g7 (d : Int) (s : Option Int) (x : Day) : Option Int := if x.1 ≤ d ∧ blw s x.1 = true then some x.1 else s
theorem g7_fold (d : Int) : ∀ (l : List Day) (s : Option Day), l.foldl (g7 d) (s.map (·.1)) = (l.foldl (bst d) s).map (·.1)
 | [], s => rfl
 | x :: l, s => by
   rw [List.foldl_cons, List.foldl_cons, ← g7_fold d l]
   refine congrArg (fun z => l.foldl (g7 d) z) ?_
   unfold g7 bst
   split <;> rfl
structure Agr (r : HIn) (rows : List Rw) (told : Str) : Prop where
 tl : r.1 = told
 tab : ∀ c, (dget r.2 c).getD [] = days rows c
 len : r.2.length ≤ rows.length
 ok : ∀ x ∈ rows, okRow x
 nd : ∀ c, ((days rows c).map (·.1)).Nodup
 tt : tOk 24 told
 nk : (r.2.map (·.1)).Nodup
theorem dget_mem_nd {l : List Day} (nd : (l.map (·.1)).Nodup) {x : Day} (h : x ∈ l) : dget l x.1 = some x.2 := by
 unfold dget
 induction l with
 | nil => cases h
 | cons y l ih =>
   obtain ⟨n1, n2⟩ := List.nodup_cons.mp nd
   by_cases e : y.1 = x.1
   · rw [List.find?_cons_of_pos (by simp [e])]
     rcases List.mem_cons.mp h with h | h
     · rw [h]; rfl
     · exact (n1 (by show y.1 ∈ _; rw [e]; exact List.mem_map_of_mem (f := fun x : Day => x.1) h)).elim
   · rw [List.find?_cons_of_neg (by simp [e])]
     exact ih n2 ((List.mem_cons.mp h).resolve_left fun q => e (by rw [q]))
def exc1 (n : Nat) (c : Str) (d : Int) : Ex := ⟨n, fsOf [(("coin" : Str), 1), (("day" : Str), 2)] [V.str c, V.int d]⟩
theorem hRate_eq {r : HIn} {rows : List Rw} {told : Str} (A : Agr r rows told) (c : Str) (d : Int) (hc : tOk 24 c) : outR (hRate cR r c d) = (match due rows told c d with
 | some y => .ok y
 | none => .exc (exc1 cR c d)) := by
 unfold hRate due
 rw [A.tl, eqR_str hc.ok A.tt.ok, ok_toN]
 by_cases e : c = told
 · rw [decide_eq_true e, if_pos e]; rfl
 · rw [decide_eq_false e, if_neg e]
   simp only [cond_false, ok_toN]
   rw [A.tab]
   rw [loopO_fold (g7 d) (days rows c) none fun x hx s => by
     unfold g7
     cases s with
     | none =>
       by_cases q : x.1 ≤ d
       · rw [decide_eq_true q, if_pos ⟨q, rfl⟩]; rfl
       · rw [decide_eq_false q, if_neg (fun z => q z.1)]; rfl
     | some y =>
       by_cases q : x.1 ≤ d
       · by_cases q2 : y < x.1
         · rw [decide_eq_true q, if_pos ⟨q, decide_eq_true q2⟩]
           show (((andR _ (orR _ (Res.ok (decide (y < x.1))))).to () _ : Out _ _ _ _)).noX = _
           rw [decide_eq_true q2]; rfl
         · rw [decide_eq_true q, if_neg (fun z => q2 (of_decide_eq_true z.2))]
           show (((andR _ (orR _ (Res.ok (decide (y < x.1))))).to () _ : Out _ _ _ _)).noX = _
           rw [decide_eq_false q2]; rfl
       · rw [decide_eq_false q, if_neg (fun z => q z.1)]; rfl]
   rw [show (none : Option Int) = (none : Option Day).map (·.1) from rfl, g7_fold]
   show outR ((Out.nx ((best d (days rows c)).map (·.1))).then _) = _
   cases q : best d (days rows c) with
   | none => rfl
   | some x =>
     have hm := (best_mem d _ none x q).resolve_right fun z => by cases z
     show outR ((getR (dget (days rows c) x.1)).to () _) = _
     rw [dget_mem_nd (A.nd c) hm]
     rfl
theorem dget_put_ne {α : Type} {kvs : List (Str × α)} {k k' : Str} {x : α} (h : k' ≠ k) : dget (dput kvs k x) k' = dget kvs k' := by
 unfold dput
 split
 · unfold dget
   induction kvs with
   | nil => rfl
   | cons p l ih =>
     rw [List.map_cons]
     by_cases e : p.1 = k
     · rw [if_pos e]
       rw [List.find?_cons_of_neg (by simp; rw [e]; exact fun z => h z.symm), List.find?_cons_of_neg (by simp; rw [e]; exact fun z => h z.symm)]
       by_cases w : (l.any fun p => decide (p.1 = k)) = true
       · exact ih w
       · refine congrArg _ (congrArg _ ?_)
         have : ∀ p ∈ l, p.1 ≠ k := fun p hp z => w (List.any_eq_true.mpr ⟨p, hp, decide_eq_true z⟩)
         exact (List.map_congr_left (g := fun p => p) fun p hp => if_neg (this p hp)).trans (by simp)
     · rw [if_neg e]
       rename_i w
       rw [List.any_cons, decide_eq_false e, Bool.false_or] at w
       by_cases e2 : p.1 = k'
       · rw [List.find?_cons_of_pos (by simp [e2]), List.find?_cons_of_pos (by simp [e2])]
       · rw [List.find?_cons_of_neg (by simp [e2]), List.find?_cons_of_neg (by simp [e2])]
         exact ih w
 · unfold dget
   rw [List.find?_append, List.find?_cons_of_neg (by simp; exact fun z => h z.symm)]
   simp
def rd1 (r : Rw) : Rw := (r.1, r.2.1, frac r.2.2.1 r.2.2.2)
def red (rows : List Rw) : List Rw := rows.map rd1
def rdD (x : Day) : Day := (x.1, frac x.2.1 x.2.2)
theorem days_red (rows : List Rw) (c : Str) : days (red rows) c = (days rows c).map rdD := by
 unfold red
 induction rows with
 | nil => rfl
 | cons r rows ih =>
   rw [List.map_cons, days_cons, days_cons, ih]
   by_cases e : r.1 = c
   · rw [if_pos (show (rd1 r).1 = c from e), if_pos e]; rfl
   · rw [if_neg (show ¬ (rd1 r).1 = c from e), if_neg e]
theorem bst_red (d : Int) : ∀ (l : List Day) (s : Option Day), (l.map rdD).foldl (bst d) (s.map rdD) = (l.foldl (bst d) s).map rdD
 | [], s => rfl
 | x :: l, s => by
   rw [List.map_cons, List.foldl_cons, List.foldl_cons, ← bst_red d l]
   refine congrArg (fun z => (l.map rdD).foldl (bst d) z) ?_
   unfold bst
   have e : blw ((s.map rdD).map (·.1)) (rdD x).1 = blw (s.map (·.1)) x.1 := by cases s <;> rfl
   rw [e]
   by_cases h : x.1 ≤ d ∧ blw (s.map (·.1)) x.1 = true
   · rw [if_pos h, if_pos (show (rdD x).1 ≤ d ∧ blw (s.map (·.1)) x.1 = true from h)]; rfl
   · rw [if_neg h, if_neg (show ¬ ((rdD x).1 ≤ d ∧ blw (s.map (·.1)) x.1 = true) from h)]
theorem due_red (rows : List Rw) (told c : Str) (d : Int) : due (red rows) told c d = (due rows told c d).map fun y => frac y.1 y.2 := by
 unfold due
 split
 · rfl
 · unfold best
   rw [days_red]
   have := bst_red d (days rows c) none
   rw [show (none : Option Day).map rdD = none from rfl] at this
   rw [this]
   cases (days rows c).foldl (bst d) none <;> rfl
def ab (x : Int) : Int := if x < 0 then -x else x
def near (a b : Int) : Int := if a < 0 then -(Int.fdiv (2 * ab a + b) (2 * b)) else Int.fdiv (2 * ab a + b) (2 * b)
def nearB (f t b : Int) : Bool := if 2 * ab (f * b - t) = b then decide (ab t < ab f * b) else decide (2 * ab (f * b - t) < b)
theorem near_ok (t b : Int) (hb : 1 ≤ b) : nearB (near t b) t b = true ∧ ab (near t b) ≤ ab t + b := by
 have hA : 0 ≤ ab t := by unfold ab; split <;> omega
 have d := Int.emod_add_mul_ediv (2 * ab t + b) (2 * b)
 have m1 := Int.emod_nonneg (2 * ab t + b) (show 2 * b ≠ 0 by omega)
 have m2 := Int.emod_lt_of_pos (2 * ab t + b) (show 0 < 2 * b by omega)
 have q0 : 0 ≤ (2 * ab t + b) / (2 * b) := Int.ediv_nonneg (by omega) (by omega)
 have ef : Int.fdiv (2 * ab t + b) (2 * b) = (2 * ab t + b) / (2 * b) := Int.fdiv_eq_ediv_of_nonneg _ (by omega)
 have hn : near t b = if t < 0 then -((2 * ab t + b) / (2 * b)) else (2 * ab t + b) / (2 * b) := by unfold near; rw [ef]
 generalize (2 * ab t + b) % (2 * b) = m at *
 generalize (2 * ab t + b) / (2 * b) = q at *
 have e2 : 2 * b * q = 2 * (q * b) := by rw [Int.mul_assoc, Int.mul_comm b q]
 have hq : q ≤ q * b := by
   have : q * 1 ≤ q * b := Int.mul_le_mul_of_nonneg_left hb q0
   omega
 have hneg : -q * b = -(q * b) := Int.neg_mul q b
 have aq : ab q = q := by unfold ab; rw [if_neg (by omega)]
 have aqn : ab (-q) = q := by
   unfold ab
   by_cases z : q = 0
   · subst z; rfl
   · rw [if_pos (by omega)]; omega
 rw [e2] at d
 by_cases ht : t < 0
 · rw [if_pos ht] at hn
   have at' : ab t = -t := by unfold ab; rw [if_pos ht]
   rw [hn]
   refine ⟨?_, by rw [aqn]; generalize q * b = p at *; omega⟩
   unfold nearB
   rw [hneg, aqn]
   generalize q * b = p at *
   have : 2 * ab (-p - t) ≤ b := by unfold ab; split <;> omega
   split
   · rename_i h
     have : ab t < p := by
       rw [at']
       unfold ab at h
       split at h <;> omega
     exact decide_eq_true this
   · exact decide_eq_true (by omega)
 · rw [if_neg ht] at hn
   have at' : ab t = t := by unfold ab; rw [if_neg ht]
   rw [hn]
   refine ⟨?_, by rw [aq]; generalize q * b = p at *; omega⟩
   unfold nearB
   rw [aq]
   generalize q * b = p at *
   have : 2 * ab (p - t) ≤ b := by unfold ab; split <;> omega
   split
   · rename_i h
     have : ab t < p := by
       rw [at']
       unfold ab at h
       split at h <;> omega
     exact decide_eq_true this
   · exact decide_eq_true (by omega)
theorem ab_mul (g x : Int) (hg : 1 ≤ g) : ab (g * x) = g * ab x := by
 unfold ab
 by_cases h : x < 0
 · have : g * x < 0 := Int.mul_neg_of_pos_of_neg (by omega) h
   rw [if_pos h, if_pos this, Int.mul_neg]
 · have : 0 ≤ g * x := Int.mul_nonneg (by omega) (by omega)
   rw [if_neg h, if_neg (by omega)]
theorem frac_eq (a b : Int) (ha : 1 ≤ a) (hb : 1 ≤ b) : ∃ g : Int, 1 ≤ g ∧ a = g * (frac a b).1 ∧ b = g * (frac a b).2 ∧ 1 ≤ (frac a b).1 ∧ 1 ≤ (frac a b).2 := by
 have h2 : 0 < Int.gcd a b := Int.gcd_pos_of_ne_zero_left b (by omega)
 have d1 : ((Int.gcd a b : Int)) ∣ a := Int.gcd_dvd_left a b
 have d2 : ((Int.gcd a b : Int)) ∣ b := Int.gcd_dvd_right a b
 obtain ⟨u, hu⟩ := d1
 obtain ⟨v, hv⟩ := d2
 have g1 : (1 : Int) ≤ (Int.gcd a b : Int) := by omega
 have e1 : (frac a b).1 = u := by
   show Int.fdiv a _ = u
   rw [Int.fdiv_eq_ediv_of_nonneg _ (by omega)]
   exact Int.ediv_eq_of_eq_mul_right (by omega) hu
 have e2 : (frac a b).2 = v := by
   show Int.fdiv b _ = v
   rw [Int.fdiv_eq_ediv_of_nonneg _ (by omega)]
   exact Int.ediv_eq_of_eq_mul_right (by omega) hv
 rw [e1, e2]
 generalize (Int.gcd a b : Int) = g at *
 refine ⟨g, g1, hu, hv, ?_, ?_⟩
 · by_cases z : 1 ≤ u
   · exact z
   · have : g * u ≤ 0 := Int.mul_nonpos_of_nonneg_of_nonpos (by omega) (by omega)
     omega
 · by_cases z : 1 ≤ v
   · exact z
   · have : g * v ≤ 0 := Int.mul_nonpos_of_nonneg_of_nonpos (by omega) (by omega)
     omega
theorem hNear_eq (a b : Int) (ha : a.natAbs < 2 ^ 200) (hb : 1 ≤ b ∧ b < 2 ^ 31) : outR (hNear cN a b) = .ok (near a b) := by
 have hab : (ab a).natAbs < 2 ^ 200 := by unfold ab; split <;> omega
 unfold hNear
 rw [ok_toN, decide_eq_false (show ¬ b < 1 by omega)]
 simp only [cond_false]
 rw [show (if a < 0 then -a else a) = ab a from rfl, gd_t (mulB_of 4 200 (by decide) hab (by decide))]
 simp only [ok_bindN]
 rw [gd_t (mulB_of 4 32 (by decide) (by omega) (by decide))]
 simp only [ok_bindN]
 rw [gd_t (divOk_of (by omega) 40 (by omega) (by decide)), ok_toN, ok_toN]
 unfold near
 by_cases h : a < 0
 · rw [decide_eq_true h, if_pos h]; rfl
 · rw [decide_eq_false h, if_neg h]; rfl
def okRaw (r : Rw) : Prop := okRow r ∧ (1 ≤ r.2.2.1 ∧ r.2.2.1 < 2 ^ 31) ∧ (1 ≤ r.2.2.2 ∧ r.2.2.2 < 2 ^ 31)
theorem due_bd (rows : List Rw) (told c : Str) (d : Int) (hr : ∀ x ∈ rows, okRaw x) {y : Int × Int} (h : due rows told c d = some y) : (1 ≤ y.1 ∧ y.1 < 2 ^ 31) ∧ (1 ≤ y.2 ∧ y.2 < 2 ^ 31) := by
 unfold due at h
 split at h
 · cases h; decide
 · cases q : best d (days rows c) with
   | none => rw [q] at h; cases h
   | some x =>
     rw [q] at h
     cases h
     have hm := (best_mem d _ none x q).resolve_right fun z => by cases z
     unfold days at hm
     obtain ⟨z, hz, e⟩ := List.mem_map.mp hm
     have := hr z (List.mem_filter.mp hz).1
     rw [← e]
     exact ⟨this.2.1, this.2.2⟩
theorem le_mul_one (g x a : Int) (hg : 1 ≤ g) (hx : 1 ≤ x) (h : a = g * x) : x ≤ a := by
 have : 1 * x ≤ g * x := Int.mul_le_mul_of_nonneg_right hg (by omega)
 omega
theorem hWorth_eq {r : HIn} {rows : List Rw} {told : Str} (A : Agr r (red rows) told) (m : Int) (c : Str) (d : Int) (hm : m.natAbs < 2 ^ 150) (hr : ∀ x ∈ rows, okRaw x) (hc : tOk 24 c) : outR (hWorth cN cR r m c d) = (match due rows told c d with
 | some y => .ok (near (m * (frac y.1 y.2).1) (frac y.1 y.2).2)
 | none => .exc (exc1 cR c d)) := by
 unfold hWorth
 rw [hRate_eq A c d hc, due_red]
 cases q : due rows told c d with
 | none => rfl
 | some y =>
   have hy := due_bd rows told c d hr q
   obtain ⟨g, hg, e1, e2, p1, p2⟩ := frac_eq y.1 y.2 hy.1.1 hy.2.1
   have b1 := le_mul_one _ _ _ hg p1 e1
   have b2 := le_mul_one _ _ _ hg p2 e2
   show outR ((Res.ok (frac y.1 y.2)).to () _) = Res.ok (near (m * (frac y.1 y.2).1) (frac y.1 y.2).2)
   rw [ok_toN]
   generalize frac y.1 y.2 = z at *
   rw [gd_t (mulB_of 150 32 hm (by omega) (by decide))]
   have hp : (m * z.1).natAbs < 2 ^ 200 := by
     rw [Int.natAbs_mul]
     exact Nat.lt_of_lt_of_le (Nat.mul_lt_mul'' hm (show z.1.natAbs < 2 ^ 32 by omega)) (by rw [← Nat.pow_add]; exact Nat.pow_le_pow_right (by decide) (by decide))
   simp only [ok_bindN]
   rw [hNear_eq _ _ hp ⟨p2, by omega⟩, ok_toN]
   rfl
abbrev Sd := Str × Str × Str × Int
theorem mix_ok (c b : Int) (h : 0 ≤ b ∧ b < 2 ^ 40) : ∃ z, outR (hMix c b) = .ok z ∧ 0 ≤ z ∧ z < 2 ^ 40 := Q.mix_ok c b h
theorem _root_.Q.nOk.ok {x : Str} (h : nOk x) : PyData.strOk x = true := h.t.ok
theorem cell_ok (ns : List Int) (i : Int) (h : 0 ≤ i) : ∃ z, outR (hCell ns i) = .ok z ∧ (z ∈ ns ∨ z = 0) := by
 refine ⟨if i < ns.length then ns.getD i.toNat 0 else 0, rz_eq (rz_outR.mpr ?_), ?_⟩
 · unfold hCell
   simp only [oz_nx, oz_bk, oz_ct, oz_rt, oz_exc, oz_then, oz_to, oz_gdO, oz_cond, oz_noEO, oz_catO, rz_okI, rz_excI, rz_gd, rz_cond, rz_andR, rz_orR, rz_iteR, rz_getR, rz_bind, decide_eq_true_eq, decide_eq_false_iff_not]
   refine ⟨fun h1 => ?_, fun h1 => ?_⟩
   · have h2 : i.toNat < ns.length := by omega
     rw [ixR_int h (List.getElem?_eq_getElem h2), if_pos h1]
     show _ = ns.getD _ _
     rw [List.getD_eq_getElem?_getD, List.getElem?_eq_getElem h2]; rfl
   · rw [if_neg h1]
 · by_cases h1 : i < ns.length
   · have h2 : i.toNat < ns.length := by omega
     rw [if_pos h1, List.getD_eq_getElem?_getD, List.getElem?_eq_getElem h2]
     exact .inl (List.getElem_mem h2)
   · rw [if_neg h1]; exact .inr rfl
def Sm (c : Str) (l : List Sd) : Int := ((l.filter fun s => decide (s.2.2.1 = c)).map fun s => s.2.2.2).sum
def fsts (l : List Str) : List Str := l.foldl (fun ks c => if c ∈ ks then ks else ks ++ [c]) []
def cns (L : List Sd) : List Str := L.map fun s => s.2.2.1
def bad (L : List Sd) : Option Sd := L.find? fun s => !decide (Sm s.2.2.1 L = 0)
def part (L : List Sd) (F c : Str) : Int := Sm c (L.filter fun s => decide (s.1 = F))
abbrev Ln := Str × Str × Str × Int × Int
end
end Q.H
namespace Q.H
open PySem L2 PySem.Spec Q
section
variable {cN cT cR cU : Nat}
def rOk (y : Int × Int) : Prop := (1 ≤ y.1 ∧ y.1 < 2 ^ 31) ∧ (1 ≤ y.2 ∧ y.2 < 2 ^ 31)
def wOf (rows : List Rw) (told : Str) (d : Int) (c : Str) (a : Int) : Int := match due rows told c d with
 | some y => near (a * (frac y.1 y.2).1) (frac y.1 y.2).2
 | none => 0
theorem worth_ok {r : HIn} {rows : List Rw} {told : Str} (A : Agr r (red rows) told) (d : Int) (hr : ∀ x ∈ rows, okRaw x) (c : Str) (hc : nOk c) (a : Int) (ha : a.natAbs < 2 ^ 150) {y : Int × Int} (hy : due rows told c d = some y) : outR (hWorth cN cR r a c d) = .ok (wOf rows told d c a) := by
 rw [hWorth_eq A a c d ha hr (hc.t.le (by decide)), hy]
 unfold wOf
 rw [hy]
def su {α : Type} (f : α → Int) (l : List α) : Int := (l.map f).sum
abbrev Kd := List ((Str × Str) × (Int × Int))
def vat (d : Kd) (k : Str × Str) : Int × Int := (dget d k).getD (0, 0)
def kd1 (d : Kd) (x : Ln) : Kd := dput d (x.2.1, x.2.2.1) ((vat d (x.2.1, x.2.2.1)).1 + x.2.2.2.1, (vat d (x.2.1, x.2.2.1)).2 + x.2.2.2.2)
def kd (D : List Ln) : Kd := D.foldl kd1 []
theorem dget_mem {κ α : Type} [DecidableEq κ] {d : List (κ × α)} {k : κ} (h : k ∈ d.map (·.1)) : ∃ v, dget d k = some v := by
 cases q : dget d k with
 | some v => exact ⟨v, rfl⟩
 | none => exact (dget_none_keys q h).elim
end
end Q.H
namespace Q.H
open PySem L2 PySem.Spec Q
section
variable {cN cT cR cU : Nat}
def worthL (a : Int) (y : Int × Int) : Int :=
 let m := Int.fdiv (ab a * y.1) y.2
 let k := if y.2 ≤ 2 * (ab a * y.1 - m * y.2) then m + 1 else m
 if a < 0 then -k else k
theorem ab_nn (a : Int) : 0 ≤ ab a := by unfold ab; split <;> omega
theorem half_up (A q : Int) (hA : 0 ≤ A) (hq : 1 ≤ q) : Int.fdiv (2 * A + q) (2 * q) = if q ≤ 2 * (A - Int.fdiv A q * q) then Int.fdiv A q + 1 else Int.fdiv A q := by
 rw [Int.fdiv_eq_ediv_of_nonneg _ (by omega), Int.fdiv_eq_ediv_of_nonneg _ (by omega)]
 have d := Int.emod_add_mul_ediv A q
 have m1 := Int.emod_nonneg A (show q ≠ 0 by omega)
 have m2 := Int.emod_lt_of_pos A (show 0 < q by omega)
 generalize A / q = m at *
 generalize A % q = r at *
 have e1 : A - m * q = r := by rw [Int.mul_comm m q]; omega
 rw [e1]
 have e2 : 2 * A + q = (2 * r + q) + 2 * q * m := by rw [← d, Int.mul_add, Int.mul_assoc]; omega
 rw [e2, Int.add_mul_ediv_left _ _ (show 2 * q ≠ 0 by omega)]
 by_cases h : q ≤ 2 * r
 · rw [if_pos h]
   have : (2 * r + q) / (2 * q) = 1 := by
     rw [show 2 * r + q = (2 * r - q) + 2 * q * 1 by omega, Int.add_mul_ediv_left _ _ (show 2 * q ≠ 0 by omega), Int.ediv_eq_zero_of_lt (by omega) (by omega)]
     rfl
   omega
 · rw [if_neg h, Int.ediv_eq_zero_of_lt (by omega) (by omega)]
   omega
theorem worth_law (a : Int) (y : Int × Int) (hy : rOk y) : near (a * (frac y.1 y.2).1) (frac y.1 y.2).2 = worthL a y := by
 obtain ⟨g, hg, e1, e2, p1, p2⟩ := frac_eq y.1 y.2 hy.1.1 hy.2.1
 generalize frac y.1 y.2 = z at *
 have hz : ab (a * z.1) = ab a * z.1 := by rw [Int.mul_comm, ab_mul z.1 a p1, Int.mul_comm]
 have hA : 0 ≤ ab a * y.1 := Int.mul_nonneg (ab_nn a) (by have := hy.1.1; omega)
 have key : Int.fdiv (2 * (ab a * z.1) + z.2) (2 * z.2) = Int.fdiv (2 * (ab a * y.1) + y.2) (2 * y.2) := by
   rw [Int.fdiv_eq_ediv_of_nonneg _ (by omega), Int.fdiv_eq_ediv_of_nonneg _ (by have := hy.2.1; omega)]
   rw [e1, e2]
   rw [show 2 * (ab a * (g * z.1)) + g * z.2 = g * (2 * (ab a * z.1) + z.2) by rw [Int.mul_add, Int.mul_left_comm (ab a) g z.1, Int.mul_left_comm g 2], show 2 * (g * z.2) = g * (2 * z.2) from Int.mul_left_comm 2 g z.2]
   exact (Int.mul_ediv_mul_of_pos _ _ (by omega)).symm
 have sg : (a * z.1 < 0) ↔ a < 0 := by
   constructor
   · intro h
     by_cases q : a < 0
     · exact q
     · have := Int.mul_nonneg (show 0 ≤ a by omega) (show 0 ≤ z.1 by omega)
       omega
   · intro h
     have := Int.mul_le_mul_of_nonneg_right (show a ≤ -1 by omega) (show 0 ≤ z.1 by omega)
     omega
 unfold near worthL
 rw [hz, key, half_up _ _ hA hy.2.1]
 by_cases h : a < 0
 · rw [if_pos (sg.mpr h), if_pos h]
 · rw [if_neg (fun q => h (sg.mp q)), if_neg h]
theorem near_one (x : Int) : near (x * 1) 1 = x := by
 rw [Int.mul_one]
 have e : Int.fdiv (2 * ab x + 1) (2 * 1) = ab x := by
   rw [Int.fdiv_eq_ediv_of_nonneg _ (by decide)]; omega
 unfold near
 rw [e]
 unfold ab
 split <;> omega
end
end Q.H
namespace Q.B
open PySem L2 PySem.Spec Q
abbrev Ln := Str × Str × Str × Int × Int
section
variable {κ α : Type} [DecidableEq κ]
theorem dget_put_eq {kvs : List (κ × α)} {k : κ} {x : α} : dget (dput kvs k x) k = some x := by
 unfold dput
 split
 · rename_i w
   unfold dget
   induction kvs with
   | nil => simp at w
   | cons p l ih =>
     rw [List.map_cons]
     by_cases e : p.1 = k
     · rw [if_pos e, List.find?_cons_of_pos (by simp [e])]; rfl
     · rw [if_neg e, List.find?_cons_of_neg (by simp [e])]
       rw [List.any_cons, decide_eq_false e, Bool.false_or] at w
       exact ih w
 · rename_i w
   unfold dget
   rw [List.find?_append]
   have : kvs.find? (fun p => decide (p.1 = k)) = none := List.find?_eq_none.mpr fun p hp z => w (List.any_eq_true.mpr ⟨p, hp, z⟩)
   rw [this]
   simp
theorem dget_put_ne {kvs : List (κ × α)} {k k' : κ} {x : α} (h : k' ≠ k) : dget (dput kvs k x) k' = dget kvs k' := by
 unfold dput
 split
 · rename_i w
   clear w
   unfold dget
   induction kvs with
   | nil => rfl
   | cons p l ih =>
     rw [List.map_cons]
     by_cases e : p.1 = k
     · rw [if_pos e, List.find?_cons_of_neg (by simp; rw [e]; exact fun z => h z.symm), List.find?_cons_of_neg (by simp; rw [e]; exact fun z => h z.symm)]
       exact ih
     · rw [if_neg e]
       by_cases e2 : p.1 = k'
       · rw [List.find?_cons_of_pos (by simp [e2]), List.find?_cons_of_pos (by simp [e2])]
       · rw [List.find?_cons_of_neg (by simp [e2]), List.find?_cons_of_neg (by simp [e2])]
         exact ih
 · unfold dget
   rw [List.find?_append, List.find?_cons_of_neg (by simp; exact fun z => h z.symm)]
   simp
theorem dget_mem {kvs : List (κ × α)} {k : κ} {x : α} (h : dget kvs k = some x) : (k, x) ∈ kvs := by
 obtain ⟨n, hn⟩ := dget_at h
 exact List.mem_of_getElem? hn
theorem dget_keys {kvs : List (κ × α)} {k : κ} : k ∈ kvs.map (·.1) ↔ (dget kvs k).isSome = true := by
 constructor
 · intro h
   cases e : dget kvs k with
   | some x => rfl
   | none => exact absurd h (dget_none_keys e)
 · intro h
   obtain ⟨x, hx⟩ := Option.isSome_iff_exists.mp h
   exact List.mem_map.mpr ⟨_, dget_mem hx, rfl⟩
structure DI (s : List (κ × α)) (z : α) (f : κ → α) (ks : List κ) : Prop where
 nd : (s.map (·.1)).Nodup
 mem : ∀ k, k ∈ s.map (·.1) ↔ k ∈ ks
 val : ∀ k, (dget s k).getD z = f k
 len : s.length ≤ ks.length
theorem DI.nil {z : α} {f : κ → α} (h : ∀ k, f k = z) : DI ([] : List (κ × α)) z f [] := ⟨.nil, fun _ => Iff.rfl, fun k => (h k).symm, Nat.le_refl _⟩
theorem DI.put {s : List (κ × α)} {z : α} {f f' : κ → α} {ks : List κ} (d : DI s z f ks) (k : κ) (v : α) (h : ∀ k', f' k' = if k' = k then v else f k') : DI (dput s k v) z f' (ks ++ [k]) where
 nd := nodup_dput d.nd
 mem := fun k' => by
   rw [dget_keys, List.mem_append, List.mem_singleton]
   by_cases e : k' = k
   · rw [e, dget_put_eq]; simp
   · rw [dget_put_ne e, ← dget_keys, d.mem k']; simp [e]
 val := fun k' => by
   rw [h k']
   by_cases e : k' = k
   · rw [e, dget_put_eq, if_pos rfl]; rfl
   · rw [dget_put_ne e, if_neg e]; exact d.val k'
 len := by
   rw [List.length_append]
   have : (dput s k v).length ≤ s.length + 1 := by
     unfold dput
     split
     · rw [List.length_map]; omega
     · rw [List.length_append]; exact Nat.le_refl _
   have := d.len
   simp; omega
theorem DI.at {s : List (κ × α)} {z : α} {f : κ → α} {ks : List κ} (d : DI s z f ks) {k : κ} (h : k ∈ s.map (·.1)) : dget s k = some (f k) := by
 obtain ⟨x, hx⟩ := Option.isSome_iff_exists.mp (dget_keys.mp h)
 have := d.val k
 rw [hx] at this ⊢
 exact congrArg some this
end
section
variable {cF cU : Nat}
abbrev Sp := (Str × Int × Int) × Ln
end
end Q.B
namespace Q.B
open PySem L2 PySem.Spec
end Q.B
namespace Q
open PySem L2 PySem.Spec
section
variable {T : Tb} {cs : List Nat} {C : Kc} {Γ : Cx0} {α β γ ν ν' ρ ξ κ : Type}
theorem b_badS {D : Ds ν β ρ ξ} {s : S} : Blk T cs C D Γ s (.bad : Out ν β ρ ξ) := fun _ _ _ _ _ _ _ _ p => p.elim
def vEmp : Empty → Vw := fun x => nomatch x
instance : Flat vEmp := ⟨fun x => nomatch x⟩
instance : VT vEmp := ⟨fun x => nomatch x⟩
instance : NN vEmp := ⟨fun x => nomatch x⟩
def pdEmp : Empty → PyData := fun x => nomatch x
instance {C : Kc} : Pd C vEmp pdEmp := ⟨fun x => nomatch x⟩
instance : NL pdEmp := ⟨fun x => nomatch x⟩
end
instance : TRow (Str × Str × Str) := ⟨fun k => [k.1, k.2.1, k.2.2], 2, fun _ => rfl, fun _ => rfl⟩
section
variable {T : Tb} {cs : List Nat} {C : Kc} {Γ : Cx0} {α β ν ρ ξ κ : Type} [KeyC κ] [DecidableEq κ]
instance {τ : α → Vw} : Ity C (fun kvs : List (κ × α) => vD τ kvs) "dict" := ⟨fun x H v ⟨_, p, vs, h1, h2, h3⟩ => by
 subst h1
 rcases h2 with h | ⟨o, h⟩
 · exact .base (.dK h)
 · exact .fDict h⟩
def dsetd (kvs : List (κ × α)) (k : κ) (y : α) : List (κ × α) := match dget kvs k with
 | some _ => kvs
 | none => dput kvs k y
end
section
variable {T : Tb} {C : Kc} {Γ : Cx0} {κ κ' ι' : Type} {mm : Res ι'}
end
section
variable {C : Kc} {α : Type}
end
theorem b_lit {T : Tb} {cs : List Nat} {C : Kc} {Γ : Cx0} {ν β ρ ξ : Type} {D : Ds ν β ρ ξ} {s : S} {m : Out ν β ρ ξ} {Γ' : Cx0} (e : Γ = Γ') (h : Blk T cs C D Γ' s m) : Blk T cs C D Γ s m := e ▸ h
end Q
namespace Q.R
open PySem L2 PySem.Spec Q
section
variable {cF cA cU : Nat}
abbrev Hd := Str × Str × Int
def Ht (rows : List Hd) : Prop := rows.length < 64 ∧ ∀ r ∈ rows, PyData.strOk r.1 = true ∧ PyData.strOk r.2.1 = true
def own (rows : List Hd) (f : Str) : List Str := (rows.filter fun r => decide (r.2.1 = f)).map fun r => r.1
inductive Led (fs : List Str) (rows : List Hd) : Str → Prop where
 | str {f o : Str} (h : o ∈ own rows f) (n : o ∉ fs) : Led fs rows f
 | step {f o : Str} (h : o ∈ own rows f) (l : Led fs rows o) : Led fs rows f
structure Got (fs seen s : List Str) : Prop where
 up : ∀ x ∈ seen, x ∈ s
 sub : ∀ x ∈ s, x ∈ fs
 nd : s.Nodup
end
end Q.R
namespace Q.W
open PySem L2 PySem.Spec Q
def wMix (a0 : Int) (a1 : Int) : Out Unit Unit Int Unit :=
 (((((gd (mulB (39916801 : Int) a1) (Res.ok ((39916801 : Int) * a1)) >>= fun x16 => (gd (mulB x16 a1) (Res.ok (x16 * a1)))) >>= fun x17 => (Res.ok ((716151937 : Int) + x17))) >>= fun x18 => (gd (mulB ((Int.fmod a0 (1000003 : Int)) + (11 : Int)) x18) (Res.ok (((Int.fmod a0 (1000003 : Int)) + (11 : Int)) * x18)))) >>= fun x20 => (Res.ok (Int.fmod x20 (998244353 : Int))))).to () fun v15 =>
 (((gd (mulB v15 v15) (Res.ok (v15 * v15)) >>= fun x22 => (Res.ok (Int.fmod x22 (1000000007 : Int)))) >>= fun x24 => (Res.ok (Int.fdiv x24 (16 : Int))))).to () fun r25 => .rt r25
def wWorth (a0 : Int) (a1 : Str) (a2 : Int) (a3 : Str) (a4 : (List (Str × Int × Int × Int))) : Out Unit Unit Int Unit :=
 (eqR (PyData.str a1) (PyData.str a3)).to () fun b401 => cond b401
 ((Res.ok a0).to () fun r402 => .rt r402)
 ((Res.ok (none : (Option (Str × Int × Int × Int)))).to () fun v403 =>
 (Res.ok a4).to () fun l406 => (loopO (fun (x405 : (Str × Int × Int × Int)) (s404 : (Option (Str × Int × Int × Int))) =>
 ((andR (eqR (PyData.str x405.1) (PyData.str a1)) (andR (Res.ok (decide (x405.2.1 ≤ a2))) (orR (Res.ok (s404.isNone)) (((getR s404 >>= fun x407 => (Res.ok x407.2.1)) >>= fun x408 => (Res.ok (decide (x408 < x405.2.1)))))))).to () fun b409 => cond b409
 ((Res.ok (some x405)).to () fun v410 =>
 .nx v410)
 (.nx s404))) l406 v403).then fun s404 : (Option (Str × Int × Int × Int)) =>
 ((((gd (mulB (2 : Int) (if a0 < 0 then -a0 else a0)) (Res.ok ((2 : Int) * (if a0 < 0 then -a0 else a0))) >>= fun x413 => (((getR s404 >>= fun x412 => (Res.ok x412.2.2.1)) >>= fun x414 => (gd (mulB x413 x414) (Res.ok (x413 * x414)))))) >>= fun x416 => (((getR s404 >>= fun x415 => (Res.ok x415.2.2.2)) >>= fun x417 => (Res.ok (x416 + x417))))) >>= fun x420 => ((((getR s404 >>= fun x418 => (Res.ok x418.2.2.2)) >>= fun x419 => (gd (mulB (2 : Int) x419) (Res.ok ((2 : Int) * x419)))) >>= fun x421 => (gd (divOk x421) (Res.ok (Int.fdiv x420 x421))))))).to () fun v411 =>
 (Res.ok (decide (a0 < (0 : Int)))).to () fun b422 => cond b422
 ((Res.ok (-v411)).to () fun r423 => .rt r423)
 ((Res.ok v411).to () fun r424 => .rt r424))
theorem mix_ok (c b : Int) (h : 0 ≤ b ∧ b ≤ 200) : ∃ z, outR (wMix c b) = .ok z ∧ 0 ≤ z ∧ z < 2 ^ 30 := by
 refine rz_ex (rz_outR.mpr ?_)
 unfold wMix
 simp only [oz_nx, oz_bk, oz_ct, oz_rt, oz_exc, oz_then, oz_to, oz_gdO, oz_cond, oz_noEO, oz_catO, rz_okI, rz_excI, rz_gd, rz_cond, rz_andR, rz_orR, rz_iteR, rz_getR, rz_bind]
 have q := fm_lt c 1000003 (by decide)
 have h0 : 0 ≤ 39916801 * b * b ∧ 39916801 * b * b ≤ 39916801 * 200 * 200 := ⟨Int.mul_nonneg (Int.mul_nonneg (by decide) h.1) h.1, Int.mul_le_mul (by omega) h.2 h.1 (by decide)⟩
 have q2 := fm_lt ((Int.fmod c 1000003 + 11) * (716151937 + 39916801 * b * b)) 998244353 (by decide)
 generalize Int.fmod ((Int.fmod c 1000003 + 11) * (716151937 + 39916801 * b * b)) 998244353 = v at q2 ⊢
 have q3 := fm_lt (v * v) 1000000007 (by decide)
 have q4 : 0 ≤ Int.fdiv (Int.fmod (v * v) 1000000007) 16 ∧ Int.fdiv (Int.fmod (v * v) 1000000007) 16 < 2 ^ 30 := by
   rw [Int.fdiv_eq_ediv_of_nonneg _ (by decide)]; omega
 exact ⟨mulB_of 26 8 (by decide) (by omega) (by decide), mulB_of 34 8 (by omega) (by omega) (by decide), mulB_of 20 42 (by omega) (by omega) (by decide), mulB_of 30 30 (by omega) (by omega) (by decide), q4.1, q4.2⟩
theorem rng_snoc (k : Int) (h : 0 ≤ k) : rng 0 (k + 1) = rng 0 k ++ [k] := by
 unfold rng
 rw [show (k + 1 - 0).toNat = (k - 0).toNat + 1 by omega, List.range_succ, List.map_append]
 congr 1
 show [(0 : Int) + ((k - 0).toNat : Int)] = [k]
 rw [show (0 : Int) + ((k - 0).toNat : Int) = k by omega]
structure ChOk (ch : List (Str × Str)) : Prop where
 len : ch.length ≤ 5
 nd : (ch.map (·.1)).Nodup
 nm : ∀ p ∈ ch, nOk p.1
 cash : ("cash" : Str) ∈ ch.map (·.1)
 vl : ∀ p ∈ ch, nOk p.2
 ps : ∀ p ∈ ch, 1 ≤ p.1.length
abbrev Tl := Str × Int × Int × Int
def loD (half : Int) (q : Nat) : Int := if q = 0 then 0 else if q = 1 then 1 else half + 1
def hiD (half : Int) (q : Nat) : Int := if q = 0 then 0 else if q = 1 then half else 2 * half
structure TlOk (co : List Str) (half : Int) (ts : List Tl) : Prop where
 at' : ∀ i, i < ts.length → ∃ x c, ts[i]? = some x ∧ co[1 + i % 2]? = some c ∧ x.1 = c ∧ loD half (i / 2) ≤ x.2.1 ∧ x.2.1 ≤ hiD half (i / 2) ∧ (1 ≤ x.2.2.1 ∧ x.2.2.1 < 2 ^ 31) ∧ (1 ≤ x.2.2.2 ∧ x.2.2.2 < 2 ^ 31)
theorem loop_pre {α ν β ρ ξ : Type} {f : α → ν → Out ν ν ρ ξ} (I : List α → ν → Prop) (l : List α) (s : ν) (h0 : I [] s) (hs : ∀ (P : List α) (x : α) (Q : List α) (s : ν), P ++ x :: Q = l → I P s → ∃ s', f x s = .nx s' ∧ I (P ++ [x]) s') : ∃ s', (loopO f l s : Out ν β ρ ξ) = .nx s' ∧ I l s' := by
 have main : ∀ (Q P : List α) (s : ν), P ++ Q = l → I P s → ∃ s', (loopO f Q s : Out ν β ρ ξ) = .nx s' ∧ I l s' := by
   intro Q
   induction Q with
   | nil =>
     intro P s h hi
     rw [List.append_nil] at h
     exact ⟨s, rfl, by rw [← h]; exact hi⟩
   | cons x Q ih =>
     intro P s h hi
     obtain ⟨s', q1, q2⟩ := hs P x Q s h hi
     rw [loopO_nx q1]
     exact ih (P ++ [x]) s' (by rw [List.append_assoc]; exact h) q2
 exact main l [] s rfl h0
theorem loop_go {α ν ν' β ρ ξ : Type} {f : α → ν → Out ν ν ρ ξ} {k : ν → Out ν' β ρ ξ} {l : List α} {s : ν} (G : Out ν' β ρ ξ → Prop) (I : List α → ν → Prop) (h0 : I [] s) (hs : ∀ (P : List α) (x : α) (Q : List α) (s : ν), P ++ x :: Q = l → I P s → ∃ s', f x s = .nx s' ∧ I (P ++ [x]) s') (h : ∀ s', I l s' → G (k s')) : G ((loopO f l s).then k) := by
 obtain ⟨s', h1, h2⟩ := loop_pre (β := β) I l s h0 hs
 rw [h1]
 exact h s' h2
theorem ix_pre {α : Type} {P Q l : List α} {x : α} (h : P ++ x :: Q = l) : l[P.length]? = some x := by
 rw [← h, List.getElem?_append_right (Nat.le_refl _), Nat.sub_self]; rfl
structure RowOk (fs oth : List Str) (rows : List R.Hd) : Prop where
 len : rows.length = 2 * fs.length
 row : ∀ r ∈ rows, (r.1 ∈ oth ∨ r.1 ∈ fs) ∧ r.2.1 ∈ fs ∧ 1 ≤ r.2.2 ∧ r.2.2 < 2 ^ 21
 led : ∀ f ∈ fs, R.Led fs rows f
section
variable {cN cT cR cF cA cU : Nat}
structure WdOk (fs oth co : List Str) (ts : List Tl) (span : Int) (rows : List R.Hd) (ch : List (Str × Str)) : Prop where
 fl : 1 ≤ fs.length ∧ fs.length ≤ 5
 fn : ∀ x ∈ fs, nOk x
 fd : fs.Nodup
 ol : 1 ≤ oth.length ∧ oth.length ≤ 8
 on : ∀ x ∈ oth, nOk x
 od : ∀ x ∈ oth, x ∉ fs
 c3 : co.length = 3
 cn : ∀ x ∈ co, nOk x
 cd : co.Nodup
 sp : span = 120 ∨ span = 9998
 t6 : ts.length = 6
 tl : TlOk co (Int.fdiv span 2) ts
 rw' : RowOk fs oth rows
 ch : ChOk ch
theorem WdOk.ht {fs oth co : List Str} {ts : List Tl} {span : Int} {rows : List R.Hd} {ch : List (Str × Str)} (W : WdOk fs oth co ts span rows ch) : R.Ht rows := by
 refine ⟨by rw [W.rw'.len]; have := W.fl; omega, fun r hr => ?_⟩
 obtain ⟨h1, h2, _⟩ := W.rw'.row r hr
 exact ⟨h1.elim (fun h => (W.on _ h).ok) fun h => (W.fn _ h).ok, (W.fn _ h2).ok⟩
def toDay (x : Tl) : H.Day := (x.2.1, (x.2.2.1, x.2.2.2))
def gB (c : Str) (d : Int) (s : Option Tl) (x : Tl) : Option Tl := if x.1 = c ∧ x.2.1 ≤ d ∧ H.blw (s.map fun z => z.2.1) x.2.1 = true then some x else s
theorem gB_fold (c : Str) (d : Int) : ∀ (l : List Tl) (s : Option Tl), (l.foldl (gB c d) s).map toDay = (H.days l c).foldl (H.bst d) (s.map toDay)
 | [], s => rfl
 | x :: l, s => by
   rw [List.foldl_cons, gB_fold c d l, H.days_cons]
   by_cases e : x.1 = c
   · rw [if_pos e, List.foldl_cons]
     refine congrArg (fun z => (H.days l c).foldl (H.bst d) z) ?_
     unfold gB H.bst
     cases s with
     | none =>
       by_cases q : x.2.1 ≤ d
       · rw [if_pos ⟨e, q, rfl⟩, if_pos ⟨q, rfl⟩]; rfl
       · rw [if_neg fun z => q z.2.1, if_neg fun z => q z.1]
     | some y =>
       by_cases q : x.2.1 ≤ d ∧ H.blw (some y.2.1) x.2.1 = true
       · rw [if_pos ⟨e, q.1, q.2⟩, if_pos ⟨q.1, q.2⟩]; rfl
       · rw [if_neg fun z => q ⟨z.2.1, z.2.2⟩, if_neg fun z => q ⟨z.1, z.2⟩]
   · rw [if_neg e]
     unfold gB
     rw [if_neg fun z => e z.1]
theorem worth_eq {ts : List Tl} {told c : Str} {d : Int} (a : Int) (hc : nOk c) (ht : nOk told) (hr : ∀ x ∈ ts, H.okRaw x) (ha : a.natAbs < 2 ^ 150) {y : Int × Int} (hy : H.due ts told c d = some y) : outR (wWorth a c d told ts) = .ok (H.wOf ts told d c a) := by
 have wo : H.wOf ts told d c a = H.near (a * (H.frac y.1 y.2).1) (H.frac y.1 y.2).2 := by unfold H.wOf; rw [hy]
 have bd := H.due_bd ts told c d hr hy
 rw [wo, H.worth_law a y bd]
 unfold wWorth
 rw [eqR_str hc.ok ht.ok, ok_toN]
 by_cases e : c = told
 · rw [decide_eq_true e, cond_true]
   unfold H.due at hy
   rw [if_pos e] at hy
   cases hy
   show Res.ok a = Res.ok (H.worthL a (1, 1))
   rw [← H.worth_law a (1, 1) ⟨by decide, by decide⟩, show H.frac 1 1 = (1, 1) from rfl, H.near_one]
 · rw [decide_eq_false e, cond_false, ok_toN, ok_toN]
   unfold H.due at hy
   rw [if_neg e] at hy
   rw [loopO_fold (gB c d) ts none fun x hx s => by
     rw [eqR_str (hr x hx).1.1.ok hc.ok]
     unfold gB
     cases s with
     | none =>
       by_cases q0 : x.1 = c
       · by_cases q : x.2.1 ≤ d
         · rw [decide_eq_true q0, decide_eq_true q, if_pos ⟨q0, q, rfl⟩]; rfl
         · rw [decide_eq_true q0, decide_eq_false q, if_neg (fun z => q z.2.1)]; rfl
       · rw [decide_eq_false q0, if_neg (fun z => q0 z.1)]; rfl
     | some w =>
       by_cases q0 : x.1 = c
       · by_cases q : x.2.1 ≤ d
         · by_cases q2 : w.2.1 < x.2.1
           · rw [decide_eq_true q0, decide_eq_true q, if_pos ⟨q0, q, decide_eq_true q2⟩]
             show ((andR _ (andR _ (orR _ (Res.ok (decide (w.2.1 < x.2.1)))))).to () _ : Out _ _ _ _) = _
             rw [decide_eq_true q2]; rfl
           · rw [decide_eq_true q0, decide_eq_true q, if_neg (fun z => q2 (of_decide_eq_true z.2.2))]
             show ((andR _ (andR _ (orR _ (Res.ok (decide (w.2.1 < x.2.1)))))).to () _ : Out _ _ _ _) = _
             rw [decide_eq_false q2]; rfl
         · rw [decide_eq_true q0, decide_eq_false q, if_neg (fun z => q z.2.1)]; rfl
       · rw [decide_eq_false q0, if_neg (fun z => q0 z.1)]; rfl]
   have gf := gB_fold c d ts none
   rw [Out.nx_then]
   unfold H.best at hy
   rw [show (Option.map toDay none : Option H.Day) = none from rfl] at gf
   rw [← gf] at hy
   generalize ts.foldl (gB c d) none = s at *
   cases s with
   | none => cases hy
   | some w =>
     have ey : y = (w.2.2.1, w.2.2.2) := by cases hy; rfl
     subst ey
     obtain ⟨⟨b1, b2⟩, b3, b4⟩ := bd
     have aa := H.ab_nn a
     have al : (H.ab a).natAbs < 2 ^ 150 := by unfold H.ab; split <;> omega
     rw [show (if a < 0 then -a else a) = H.ab a from rfl, show getR (some w) = .ok w from rfl]
     rw [gd_t (mulB_of 3 151 (by decide) (by omega) (by decide) : mulB (2 : Int) (H.ab a) = true)]
     simp only [ok_bindN]
     rw [gd_t (mulB_of 160 40 (by omega) (by omega) (by decide) : mulB (2 * H.ab a) w.2.2.1 = true), gd_t (mulB_of 3 40 (by decide) (by omega) (by decide) : mulB (2 : Int) w.2.2.2 = true)]
     simp only [ok_bindN]
     rw [gd_t (divOk_of (by omega) 40 (by omega) (by decide) : divOk (2 * w.2.2.2) = true)]
     simp only [ok_bindN, ok_toN]
     have hu := H.half_up (H.ab a * w.2.2.1) w.2.2.2 (Int.mul_nonneg aa (by omega)) b3
     have hw : H.worthL a (w.2.2.1, w.2.2.2) = if a < 0 then -(Int.fdiv (2 * H.ab a * w.2.2.1 + w.2.2.2) (2 * w.2.2.2)) else Int.fdiv (2 * H.ab a * w.2.2.1 + w.2.2.2) (2 * w.2.2.2) := by
       unfold H.worthL
       dsimp only
       rw [Int.mul_assoc, hu]
     rw [hw]
     by_cases n : a < 0
     · rw [decide_eq_true n, cond_true, if_pos n]; rfl
     · rw [decide_eq_false n, cond_false, if_neg n]; rfl
abbrev Sd := H.Sd
structure Rd3 (P : List Sd) (s : (List Str) × (List Str) × (List ((Str × Str) × Int))) : Prop where
 f : s.1 = H.fsts (P.map fun s => s.1)
 c : s.2.1 = H.fsts (H.cns P)
 p : ∀ F c, (dget s.2.2 (F, c)).getD 0 = H.part P F c
 l : s.2.2.length ≤ P.length
end
end Q.W
namespace Q
open PySem L2 PySem.Spec
section
variable {T : Tb} {C : Kc} {Γ : Cx0}
end
end Q
namespace Q
open PySem L2 PySem.Spec
class KRw (α : Type) where
 rw_ : α → List Key
 inj : ∀ {x y : α}, rw_ x = rw_ y → x = y
 b : Bool
 sh : List Bool
 shp : ∀ x : α, QS.shp (rw_ x) = b :: sh
class KRwV {α : Type} [KRw α] (τ : α → Vw) : Prop where
 to : ∀ {B : Hp} {v : V} {x : α}, (τ x).rel B v → ∃ t, v = .ref t ∧ B t = some (.tup ((KRw.rw_ x).map kV))
section
variable {α : Type} [KRw α]
end
section
variable {T : Tb} {C : Kc} {Γ : Cx0} {α : Type} [KRw α]
end
instance : KRw (Int × Int) := ⟨fun x => [.inl x.1, .inl x.2], fun {x y} h => by simp only [List.cons.injEq, Sum.inl.injEq] at h; exact Prod.ext h.1 h.2.1, true, [true], fun _ => rfl⟩
instance : KRw (Str × Str × Str × Int × Int) := ⟨fun x => [.inr x.1, .inr x.2.1, .inr x.2.2.1, .inl x.2.2.2.1, .inl x.2.2.2.2], fun {x y} h => by
 simp only [List.cons.injEq, Sum.inl.injEq, Sum.inr.injEq] at h
 exact Prod.ext h.1 (Prod.ext h.2.1 (Prod.ext h.2.2.1 (Prod.ext h.2.2.2.1 h.2.2.2.2.1))), false, [false, false, true, true], fun _ => rfl⟩
section
variable {T : Tb} {cs : List Nat} {C : Kc} {Γ : Cx0} {α β ν ρ ξ κ : Type} [KeyC κ] [DecidableEq κ]
end
section
variable {C : Kc} {α κ : Type}
end
class Atm {α : Type} (τ : α → Vw) : Prop where
 at' : ∀ {x : α} {H : Hp} {v w : V}, (τ x).rel H v → (τ x).rel H w → v = w ∧ flatB v = true
instance : Atm vStr := ⟨fun {x H v w} h1 h2 => by cases h1; cases h2; exact ⟨rfl, rfl⟩⟩
instance : Atm vInt := ⟨fun {x H v w} h1 h2 => by cases h1; cases h2; exact ⟨rfl, rfl⟩⟩
section
variable {C : Kc} {α κ : Type} [KeyC κ] [DecidableEq κ]
end
end Q
namespace Q
open PySem L2 PySem.Spec
section
variable {T : Tb} {cs : List Nat} {C : Kc} {Γ Γ' : Cx0} {α β γ ν ν' ρ ξ ι ι' η κ κ' κ2 : Type}
end
end Q
namespace Q
open PySem L2 PySem.Spec
section
variable {T : Tb} {cs : List Nat} {C : Kc} {Γ Γ' : Cx0} {α β γ ν ν' ρ ξ ι ι' η κ κ' κ2 : Type}
theorem ev_lcR2 {a b t e : E} {j : Nat} {ε : γ → Ow} {c : Int → Res Bool} {f : Int → Res γ} {ma mb : Res Int} (h : EvB T C Γ a vInt ma) (h' : EvB T C Γ b vInt mb) (hc : ∀ x, EvPs T C (((wipeΓ Γ [j]).set j (some (oV (vInt x))))) t (c x))
   (he : ∀ x, EvO T C ((wipeΓ Γ [j]).set j (some (oV (vInt x)))) e ε (f x)) : EvO T C Γ (.lc [j] (.iR2 a b) t e) (oL C ε) (ma >>= fun lo => mb >>= fun hi => gd (rngB lo hi && decide ((hi - lo).toNat ≤ sizeLine)) (lcR c f (rng lo hi))) := fun W σ B H Q g z => by
 refine .inl ?_
 show (rd T C a W).E σ H _
 refine h W σ B H _ g (rz_imp (rz_bind.mp z) (fun lo z v B0 H0 g0 p0 => ?_) fun _ z => z)
 show (rd T C b W).E σ H0 _
 refine h' W σ B0 H0 _ (g.up g0.b g0.h g0.s) (rz_imp (rz_bind.mp z) (fun hi z v' B1 H1 g1 p1 => ?_) fun _ z => z.up g0.h)
 have g01 := g0.trans g1
 cases hg : rngB lo hi && decide ((hi - lo).toNat ≤ sizeLine) with
 | false => rw [hg] at z; exact z.elim
 | true =>
   rw [hg] at z
   replace z : Rz (lcR c f (rng lo hi)) (fun x => ∀ (v : V) (B' H' : Hp), Gon B H B' H' → pO (oL C ε) x B H B' H' v → Q v H') (ExK C W σ H) := z
   unfold rngB at hg
   simp only [Bool.and_eq_true, decide_eq_true_eq] at hg
   refine ⟨lo, hi, by rw [show v = .int lo from p0, show v' = .int hi from p1], ⟨hg.1.1.1.1, hg.1.1.1.2, hg.1.1.2, hg.1.2⟩, fun D hD => ?_⟩
   have gw := wipe_env (g.up g01.b g01.h g01.s) [j]
   refine lc_core (α := Int) (xs := rng lo hi) (js := [j]) (σ := σ) (ε := ε) (Γ1 := fun x => (wipeΓ Γ [j]).set j (some (oV (vInt x)))) (E := ExK C W σ H) (W0 := fun cls d _ H' => W cls d σ H') (fun _ _ _ s h => h.up (sm_trans g01.h s)) g01.s (by simp [rng, hg.2]) (fun i x hx H2 s => ?_) (fun H2 s => ?_) (fun i x hx B' H2 v H' Q2 sb s sh y q => ?_) hc he (rz_imp z (fun ys q v B' H' g2 p => q v B' H' (g01.trans g2) (Back.bk (P := pO (oL C ε)) ys B H B1 H1 B' H' v g01 p)) fun _ z => z) D hD
   · exact (rng_nth hx).1
   · show (hi - lo).toNat ≤ (rng lo hi).length
     simp [rng]
   · obtain ⟨rfl, rfl⟩ := y
     have e2 := (rng_nth hx).2
     subst e2
     exact q _ (by rw [wipe_set (List.mem_singleton.mpr rfl)]; exact wipe_wipe) (sm_refl _) (envC_set (w := vInt (lo + (i : Int))) (gw.up sb sh s) rfl)
theorem ev_lcR2P {a b t e : E} {j : Nat} {ε : γ → Ow} {c : Int → Res Bool} {f : Int → Res γ} {x y : Int} (h : EvB T C Γ a vInt (.ok x)) (h' : EvB T C Γ b vInt (.ok y)) (hc : ∀ x, EvPs T C (((wipeΓ Γ [j]).set j (some (oV (vInt x))))) t (c x)) (he : ∀ x, EvO T C ((wipeΓ Γ [j]).set j (some (oV (vInt x)))) e ε (f x)) : EvO T C Γ (.lc [j] (.iR2 a b) t e) (oL C ε) (gd (rngB x y && decide ((y - x).toNat ≤ sizeLine)) (lcR c f (rng x y))) := ev_lcR2 h h' hc he
end
end Q
namespace Q.G
def sm : Nat → (Nat → Int) → Int
 | 0, _ => 0
 | n + 1, f => sm n f + f n
theorem sm_congr {f g : Nat → Int} : ∀ {n : Nat}, (∀ k, k < n → f k = g k) → sm n f = sm n g
 | 0, _ => rfl
 | n + 1, h => by
   show sm n f + f n = sm n g + g n
   rw [sm_congr fun k hk => h k (Nat.lt_succ_of_lt hk), h n (Nat.lt_succ_self n)]
theorem sm_add (f g : Nat → Int) : ∀ n, sm n (fun k => f k + g k) = sm n f + sm n g
 | 0 => rfl
 | n + 1 => by
   show sm n (fun k => f k + g k) + (f n + g n) = (sm n f + f n) + (sm n g + g n)
   rw [sm_add f g n]; omega
theorem sm_sub (f g : Nat → Int) : ∀ n, sm n (fun k => f k - g k) = sm n f - sm n g
 | 0 => rfl
 | n + 1 => by
   show sm n (fun k => f k - g k) + (f n - g n) = (sm n f + f n) - (sm n g + g n)
   rw [sm_sub f g n]; omega
theorem sm_mul (c : Int) (f : Nat → Int) : ∀ n, sm n (fun k => c * f k) = c * sm n f
 | 0 => (Int.mul_zero c).symm
 | n + 1 => by
   show sm n (fun k => c * f k) + c * f n = c * (sm n f + f n)
   rw [sm_mul c f n, Int.mul_add]
theorem sm_zero : ∀ n, sm n (fun _ => 0) = 0
 | 0 => rfl
 | n + 1 => by
   show sm n (fun _ => 0) + 0 = 0
   rw [sm_zero n]; rfl
theorem sm_zero' {f : Nat → Int} {n : Nat} (h : ∀ k, k < n → f k = 0) : sm n f = 0 := by
 rw [sm_congr h]; exact sm_zero n
theorem sm_nonneg {f : Nat → Int} : ∀ {n : Nat}, (∀ k, k < n → 0 ≤ f k) → 0 ≤ sm n f
 | 0, _ => Int.le_refl 0
 | n + 1, h => by
   have := sm_nonneg (n := n) fun k hk => h k (Nat.lt_succ_of_lt hk)
   have := h n (Nat.lt_succ_self n)
   show 0 ≤ sm n f + f n
   omega
theorem sm_le {f g : Nat → Int} {n : Nat} (h : ∀ k, k < n → f k ≤ g k) : sm n f ≤ sm n g := by
 have := sm_nonneg (f := fun k => g k - f k) (n := n) fun k hk => by have := h k hk; show 0 ≤ g k - f k; omega
 rw [sm_sub] at this
 omega
theorem sm_ge {f : Nat → Int} : ∀ {n : Nat}, (∀ k, k < n → 0 ≤ f k) → ∀ {k : Nat}, k < n → f k ≤ sm n f
 | 0, _, _, hk => absurd hk (Nat.not_lt_zero _)
 | n + 1, h, k, hk => by
   show f k ≤ sm n f + f n
   have hn := h n (Nat.lt_succ_self n)
   rcases Nat.lt_or_ge k n with q | q
   · have := sm_ge (n := n) (fun j hj => h j (Nat.lt_succ_of_lt hj)) q
     omega
   · have e : k = n := by omega
     subst e
     have := sm_nonneg (n := k) fun j hj => h j (Nat.lt_succ_of_lt hj)
     omega
theorem sm_one {f : Nat → Int} {k : Nat} : ∀ {n : Nat}, k < n → (∀ j, j < n → j ≠ k → f j = 0) → sm n f = f k
 | 0, hk, _ => absurd hk (Nat.not_lt_zero _)
 | n + 1, hk, h => by
   show sm n f + f n = f k
   rcases Nat.lt_or_ge k n with q | q
   · rw [sm_one (n := n) q fun j hj hn => h j (Nat.lt_succ_of_lt hj) hn, h n (Nat.lt_succ_self n) (by omega)]
     omega
   · have e : k = n := by omega
     subst e
     rw [sm_zero' fun j hj => h j (Nat.lt_succ_of_lt hj) (by omega)]
     omega
theorem sm_plus (f : Nat → Int) (m : Nat) : ∀ n, sm (m + n) f = sm m f + sm n (fun k => f (m + k))
 | 0 => (Int.add_zero _).symm
 | n + 1 => by
   show sm (m + n) f + f (m + n) = sm m f + (sm n (fun k => f (m + k)) + f (m + n))
   rw [sm_plus f m n]; omega
theorem least (x : Nat → Int) : ∀ n, 0 < n → ∃ k, k < n ∧ ∀ j, j < n → x k ≤ x j
 | 0, h => absurd h (Nat.not_lt_zero _)
 | 1, _ => ⟨0, Nat.one_pos, fun j hj => by have : j = 0 := by omega
                                           subst this; exact Int.le_refl _⟩
 | n + 2, _ => by
   obtain ⟨k, hk, h⟩ := least x (n + 1) (Nat.succ_pos n)
   by_cases q : x k ≤ x (n + 1)
   · refine ⟨k, by omega, fun j hj => ?_⟩
     rcases Nat.lt_or_ge j (n + 1) with w | w
     · exact h j w
     · have : j = n + 1 := by omega
       subst this; exact q
   · refine ⟨n + 1, by omega, fun j hj => ?_⟩
     rcases Nat.lt_or_ge j (n + 1) with w | w
     · have := h j w; omega
     · have : j = n + 1 := by omega
       subst this; exact Int.le_refl _
inductive Lo (n : Nat) (sh : Nat → Nat → Int) (b : Nat → Int) : Nat → Prop
 | here {j : Nat} : 0 < b j → Lo n sh b j
 | thr {i j : Nat} : i < n → 0 < sh i j → Lo n sh b i → Lo n sh b j
theorem minp {n : Nat} {sh : Nat → Nat → Int} {b : Nat → Int} (hs : ∀ i j, 0 ≤ sh i j) (hb : ∀ j, 0 ≤ b j) (ho : ∀ j, j < n → Lo n sh b j) {x : Nat → Int}
   (h : ∀ j, j < n → 0 ≤ (b j + sm n (fun i => sh i j)) * x j - sm n (fun i => sh i j * x i)) : ∀ j, j < n → 0 ≤ x j := fun j hj => by
 obtain ⟨k, hk, hm⟩ := least x n (by omega)
 rcases Int.lt_or_le (x k) 0 with q | q
 · exfalso
   have key : ∀ {j : Nat}, Lo n sh b j → j < n → x j = x k → False := fun {j} o => by
     induction o with
     | @here j hp =>
       intro hj e
       have h1 := h j hj
       have h2 : sm n (fun i => sh i j * x k) ≤ sm n (fun i => sh i j * x i) := sm_le fun i hi => Int.mul_le_mul_of_nonneg_left (hm i hi) (hs i j)
       rw [sm_congr (g := fun i => x k * sh i j) fun i _ => Int.mul_comm _ _, sm_mul] at h2
       have h3 : b j * x k < 0 := Int.mul_neg_of_pos_of_neg hp q
       rw [e, Int.add_mul, Int.mul_comm (sm n _)] at h1
       omega
     | @thr i j hi hp o ih =>
       intro hj e
       refine ih hi ?_
       have h1 := h j hj
       have h4 : sm n (fun i => sh i j * (x i - x k)) = sm n (fun i => sh i j * x i) - x k * sm n (fun i => sh i j) := by
         rw [← sm_mul, ← sm_sub]
         exact sm_congr fun i _ => by rw [Int.mul_sub, Int.mul_comm (x k)]
       have h5 : ∀ i, i < n → 0 ≤ sh i j * (x i - x k) := fun i hi => Int.mul_nonneg (hs i j) (by have := hm i hi; omega)
       have h6 := sm_ge h5 hi
       have h7 : b j * x k ≤ 0 := Int.mul_nonpos_of_nonneg_of_nonpos (hb j) (by omega)
       rw [e, Int.add_mul, Int.mul_comm (sm n _)] at h1
       have h8 : sh i j * (x i - x k) = 0 := by
         have := h5 i hi
         omega
       rcases Int.mul_eq_zero.mp h8 with w | w
       · omega
       · omega
   exact key (ho k hk) hk rfl
 · have := hm j hj; omega
def Ann (n w : Nat) (R : Nat → Nat → Int) (z : Nat → Int) : Prop := ∀ k, k < n → sm w (fun c => R k c * z c) = 0
structure Shape (n a : Nat) (R : Nat → Nat → Int) : Prop where
 dg : ∀ k, k < a → R k k ≠ 0
 up : ∀ k, k < a → ∀ c, c < a → c ≠ k → R k c = 0
 lo : ∀ k, a ≤ k → k < n → ∀ c, c < a → R k c = 0
theorem Shape.step {n a q : Nat} {R R1 R' : Nat → Nat → Int} (h : Shape n a R) (hq : a ≤ q) (hqn : q < n) (hp : R q a ≠ 0) (e0 : ∀ c, R1 a c = R q c) (e1 : ∀ c, R1 q c = R a c) (e2 : ∀ k, k ≠ a → k ≠ q → ∀ c, R1 k c = R k c)
   (e3 : ∀ c, c < n → R' a c = R1 a c) (e4 : ∀ k, k < n → k ≠ a → ∃ g : Int, g ≠ 0 ∧ ∀ c, c < n → g * R' k c = R1 k c * R1 a a - R1 a c * R1 k a) : Shape n (a + 1) R' := by
 have han : a < n := Nat.lt_of_le_of_lt hq hqn
 have z0 : ∀ c, c < a → R1 a c = 0 := fun c hc => by rw [e0]; exact h.lo q hq hqn c hc
 have p0 : R1 a a ≠ 0 := by rw [e0]; exact hp
 have lo1 : ∀ k, a < k → k < n → ∀ c, c < a → R1 k c = 0 := fun k hk hn c hc => by
   by_cases w : k = q
   · subst w; rw [e1]; exact h.lo a (Nat.le_refl a) han c hc
   · rw [e2 k (by omega) w]; exact h.lo k (by omega) hn c hc
 have up1 : ∀ k, k < a → ∀ c, R1 k c = R k c := fun k hk c => e2 k (by omega) (by omega) c
 have col : ∀ k, k < n → k ≠ a → R' k a = 0 := fun k hk w => by
   obtain ⟨g, hg, hc⟩ := e4 k hk w
   have := hc a han
   have e : g * R' k a = 0 := by rw [this]; grind
   exact (Int.mul_eq_zero.mp e).resolve_left hg
 refine ⟨fun k hk => ?_, fun k hk c hc hn => ?_, fun k hk hn c hc => ?_⟩
 · by_cases w : k = a
   · subst w; rw [e3 k han]; exact p0
   · have hk' : k < a := by omega
     obtain ⟨g, hg, hc⟩ := e4 k (by omega) w
     have := hc k (by omega)
     rw [z0 k hk', Int.zero_mul, Int.sub_zero, up1 k hk'] at this
     intro z
     rw [z, Int.mul_zero] at this
     rcases Int.mul_eq_zero.mp this.symm with u | u
     · exact h.dg k hk' u
     · exact p0 u
 · by_cases w : k = a
   · subst w; rw [e3 c (by omega)]; exact z0 c (by omega)
   · have hk' : k < a := by omega
     by_cases v : c = a
     · subst v; exact col k (by omega) w
     · obtain ⟨g, hg, hcc⟩ := e4 k (by omega) w
       have := hcc c (by omega)
       rw [z0 c (by omega), Int.zero_mul, Int.sub_zero, up1 k hk', h.up k hk' c (by omega) hn, Int.zero_mul] at this
       exact (Int.mul_eq_zero.mp this).resolve_left hg
 · by_cases v : c = a
   · subst v; exact col k hn (by omega)
   · obtain ⟨g, hg, hcc⟩ := e4 k hn (by omega)
     have := hcc c (by omega)
     rw [z0 c (by omega), Int.zero_mul, Int.sub_zero, lo1 k (by omega) hn c (by omega), Int.zero_mul] at this
     exact (Int.mul_eq_zero.mp this).resolve_left hg
theorem cofs (d : Nat → Int) : ∀ a, (∀ k, k < a → d k ≠ 0) → ∃ D : Int, D ≠ 0 ∧ ∃ y : Nat → Int, ∀ k, k < a → y k * d k = D
 | 0, _ => ⟨1, by decide, fun _ => 0, fun _ h => absurd h (Nat.not_lt_zero _)⟩
 | a + 1, h => by
   obtain ⟨D, hD, y, hy⟩ := cofs d a fun k hk => h k (Nat.lt_succ_of_lt hk)
   refine ⟨D * d a, Int.mul_ne_zero hD (h a (Nat.lt_succ_self a)), fun k => if k < a then y k * d a else D, fun k hk => ?_⟩
   by_cases w : k < a
   · simp only [if_pos w]
     have := hy k w
     grind
   · have e : k = a := by omega
     subst e
     simp only [if_neg w]
theorem cofs_pos (d : Nat → Int) : ∀ a, (∀ k, k < a → 0 < d k) → ∃ D : Int, 0 < D ∧ ∃ y : Nat → Int, (∀ k, k < a → 0 < y k) ∧ ∀ k, k < a → y k * d k = D
 | 0, _ => ⟨1, by decide, fun _ => 0, fun _ h => absurd h (Nat.not_lt_zero _), fun _ h => absurd h (Nat.not_lt_zero _)⟩
 | a + 1, h => by
   obtain ⟨D, hD, y, hy0, hy⟩ := cofs_pos d a fun k hk => h k (Nat.lt_succ_of_lt hk)
   have ha := h a (Nat.lt_succ_self a)
   refine ⟨D * d a, Int.mul_pos hD ha, fun k => if k < a then y k * d a else D, fun k hk => ?_, fun k hk => ?_⟩
   · by_cases w : k < a
     · simp only [if_pos w]; exact Int.mul_pos (hy0 k w) ha
     · simp only [if_neg w]; exact hD
   · by_cases w : k < a
     · simp only [if_pos w]
       have := hy k w
       grind
     · have e : k = a := by omega
       subst e
       simp only [if_neg w]
def aug (n : Nat) (S : Nat → Nat → Int) (j c : Nat) : Int := if c < n then S j c else if c = n + j then 1 else 0
theorem aug_dot {n : Nat} {S : Nat → Nat → Int} {z : Nat → Int} {j : Nat} (hj : j < n) : sm (n + n) (fun c => aug n S j c * z c) = sm n (fun c => S j c * z c) + z (n + j) := by
 rw [sm_plus]
 have h1 : sm n (fun c => aug n S j c * z c) = sm n (fun c => S j c * z c) := sm_congr fun c hc => by unfold aug; rw [if_pos hc]
 have h2 : sm n (fun k => aug n S j (n + k) * z (n + k)) = z (n + j) := by
   rw [sm_one hj fun k hk w => by unfold aug; rw [if_neg (by omega), if_neg (by omega), Int.zero_mul]]
   unfold aug
   rw [if_neg (by omega), if_pos rfl, Int.one_mul]
 rw [h1, h2]
def two (n : Nat) (x y : Nat → Int) (c : Nat) : Int := if c < n then x c else y (c - n)
theorem two_r (n : Nat) (x y : Nat → Int) (j : Nat) : two n x y (n + j) = y j := by
 unfold two
 rw [if_neg (by omega), show n + j - n = j by omega]
theorem dot_two (n : Nat) (r x y : Nat → Int) : sm (n + n) (fun c => r c * two n x y c) = sm n (fun c => r c * x c) + sm n (fun j => r (n + j) * y j) := by
 rw [sm_plus]
 have h1 : sm n (fun c => r c * two n x y c) = sm n (fun c => r c * x c) := sm_congr fun c hc => by unfold two; rw [if_pos hc]
 have h2 : sm n (fun k => r (n + k) * two n x y (n + k)) = sm n (fun j => r (n + j) * y j) := sm_congr fun c _ => by rw [two_r]
 rw [h1, h2]
theorem aug_two {n : Nat} {S : Nat → Nat → Int} {x y : Nat → Int} {j : Nat} (hj : j < n) : sm (n + n) (fun c => aug n S j c * two n x y c) = sm n (fun c => S j c * x c) + y j := by
 rw [aug_dot hj, two_r, sm_congr (g := fun c => S j c * x c) fun c hc => by unfold two; rw [if_pos hc]]
theorem stuck {n a : Nat} {S R : Nat → Nat → Int} (h : Shape n a R) (ha : a < n) (h0 : ∀ k, a ≤ k → k < n → R k a = 0) (hA : ∀ z, Ann n (n + n) R z → Ann n (n + n) (aug n S) z) : ∃ x : Nat → Int, x a ≠ 0 ∧ ∀ j, j < n → sm n (fun c => S j c * x c) = 0 := by
 obtain ⟨D, hD, y, hy⟩ := cofs (fun k => R k k) a h.dg
 obtain ⟨x, hx⟩ : ∃ x : Nat → Int, x = fun c => if c < a then -(y c * R c a) else if c = a then D else 0 := ⟨_, rfl⟩
 have xa : x a = D := by rw [hx]; show (if a < a then _ else if a = a then D else 0) = D; rw [if_neg (Nat.lt_irrefl a), if_pos rfl]
 have xl : ∀ c, c < a → x c = -(y c * R c a) := fun c hc => by rw [hx]; exact if_pos hc
 have xg : ∀ c, a < c → x c = 0 := fun c hc => by rw [hx]; show (if c < a then _ else if c = a then D else 0) = 0; rw [if_neg (by omega), if_neg (by omega)]
 refine ⟨x, by rw [xa]; exact hD, fun j hj => ?_⟩
 have hz := hA (two n x fun _ => 0) (fun k hk => by
   rw [dot_two, sm_zero' (f := fun j => R k (n + j) * 0) fun i hi => Int.mul_zero _, Int.add_zero]
   obtain ⟨m, hm⟩ : ∃ m, n = (a + 1) + m := ⟨n - (a + 1), by omega⟩
   rw [hm, sm_plus, sm_zero' (n := m) fun i hi => by rw [xg _ (by omega), Int.mul_zero], Int.add_zero]
   show sm a (fun c => R k c * x c) + R k a * x a = 0
   rcases Nat.lt_or_ge k a with w | w
   · rw [sm_one w fun c hc hn => by rw [h.up k w c hc hn, Int.zero_mul], xl k w, xa]
     have := hy k w
     grind
   · rw [sm_zero' fun c hc => by rw [h.lo k w hk c hc, Int.zero_mul], h0 k w hk, Int.zero_mul]; rfl) j hj
 rw [aug_two hj, Int.add_zero] at hz
 exact hz
theorem leftI {n : Nat} {S R : Nat → Nat → Int} (hu : ∀ k, k < n → ∀ c, c < n → c ≠ k → R k c = 0) (hA : ∀ z, Ann n (n + n) (aug n S) z → Ann n (n + n) R z) (x : Nat → Int) {k : Nat} (hk : k < n) : R k k * x k = sm n (fun j => R k (n + j) * sm n (fun c => S j c * x c)) := by
 have := hA (two n x fun j => - sm n (fun i => S j i * x i)) (fun j hj => by
   rw [aug_two hj]
   omega) k hk
 rw [dot_two, sm_one hk fun c hc hn => by rw [hu k hk c hc hn, Int.zero_mul],
   sm_congr (g := fun j => (-1) * (R k (n + j) * sm n (fun c => S j c * x c))) fun j hj => by rw [Int.mul_neg, Int.neg_one_mul], sm_mul] at this
 omega
theorem injT {n : Nat} {S R : Nat → Nat → Int} (hA : ∀ z, Ann n (n + n) R z → Ann n (n + n) (aug n S) z) {y : Nat → Int} (h : ∀ k, k < n → sm n (fun j => R k (n + j) * y j) = 0) {j : Nat} (hj : j < n) : y j = 0 := by
 have := hA (two n (fun _ => 0) y) (fun k hk => by
   rw [dot_two, sm_zero' (f := fun c => R k c * 0) fun c _ => Int.mul_zero _, h k hk]; rfl) j hj
 rw [aug_two hj, sm_zero' (f := fun c => S j c * 0) fun c _ => Int.mul_zero _] at this
 omega
theorem rightI {n : Nat} {S R : Nat → Nat → Int} (hu : ∀ k, k < n → ∀ c, c < n → c ≠ k → R k c = 0) (hA : ∀ z, Ann n (n + n) R z ↔ Ann n (n + n) (aug n S) z) {D : Int} {y : Nat → Int} (hy : ∀ k, k < n → y k * R k k = D) (h : Nat → Int) {j : Nat} (hj : j < n) :
   sm n (fun k => S j k * (y k * sm n (fun c => R k (n + c) * h c))) = D * h j := by
 have key := injT (S := S) (R := R) (fun z => (hA z).mp) (y := fun j => sm n (fun k => S j k * (y k * sm n (fun c => R k (n + c) * h c))) - D * h j) (fun k hk => by
   have e := leftI (S := S) hu (fun z => (hA z).mpr) (fun k => y k * sm n (fun c => R k (n + c) * h c)) hk
   rw [sm_congr (g := fun j => R k (n + j) * sm n (fun k => S j k * (y k * sm n (fun c => R k (n + c) * h c))) - D * (R k (n + j) * h j)) fun j _ => by grind, sm_sub, sm_mul, ← e]
   have := hy k hk
   grind) hj
 omega
end Q.G
namespace Q.G
open PySem L2 PySem.Spec Q
open Q.H (while_gcd)
open Q.W (loop_pre)
def gUn (a0 : (List (List Int))) : Out Unit Unit (List (List Int)) Unit :=
 (Res.ok (a0.length : Int)).to () fun v413 =>
 (Res.ok ([] : (List (List Int)))).to () fun v414 =>
 (Res.ok v413).to () fun n422 => gdO (rngB 0 n422) ((loopO (fun (x416 : Int) (s415 : (List (List Int))) =>
 ((((ixR a0 x416 >>= fun x418 => (Res.ok x418)) >>= fun x420 => ((gd (rngB 0 v413 && decide (Int.toNat v413 ≤ sizeLine)) (lcR (fun z419 : Int => (Res.ok true)) (fun z419 : Int => (Res.ok (if (decide (z419 = x416)) then 1 else 0))) (rng 0 v413)) >>= fun x421 => (gd (decide (x420.length + x421.length ≤ sizeLine)) (Res.ok (x420 ++ x421))))))).to () fun v417 => gdO (decide (s415.length < sizeLine))
 (.nx (s415 ++ [v417])))) (rng 0 n422) v414).then fun s415 : (List (List Int)) =>
 .rt s415)
def gDiv (a0 : Int) (a1 : Int) : Out Unit Unit Int Unit :=
 (Res.ok (if a0 < 0 then -a0 else a0)).to () fun v452 =>
 (Res.ok (if a1 < 0 then -a1 else a1)).to () fun v453 =>
 (whileO () (fun s454 : Int × Int => (Res.ok (!decide (s454.2 = (0 : Int))))) (fun s454 : Int × Int =>
 ((gd (!decide (s454.2 = 0)) (Res.ok (Int.fmod s454.1 s454.2))).to () fun v455 =>
 (Res.ok s454.2).to () fun v456 =>
 (Res.ok v455).to () fun v457 =>
 .nx (v456, v457))) 60000 (v452, v453)).then fun s454 : Int × Int =>
 (Res.ok s454.1).to () fun r458 => .rt r458
def gLow (a0 : (List Int)) : Out Unit Unit (List Int) Unit :=
 (Res.ok (0 : Int)).to () fun v447 =>
 (Res.ok a0).to () fun l450 => (loopO (fun (x449 : Int) (s448 : Int) =>
 ((outR (gDiv s448 x449)).to () fun v451 =>
 .nx v451)) l450 v447).then fun s448 : Int =>
 (Res.ok (decide (s448 = (0 : Int)))).to () fun b461 => cond b461
 ((Res.ok a0).to () fun r462 => .rt r462)
 ((gd (decide (a0.length ≤ sizeLine)) (lcR (fun z463 : Int => (Res.ok true)) (fun z463 : Int => (gd (divOk s448) (Res.ok (Int.fdiv z463 s448)))) a0)).to () fun r464 => .rt r464)
def gCrs (a0 : (List Int)) (a1 : (List Int)) (a2 : Int) : Out Unit Unit (List Int) Unit :=
 ((gd (rngB 0 (a0.length : Int) && decide (Int.toNat (a0.length : Int) ≤ sizeLine)) (lcR (fun z465 : Int => (Res.ok true)) (fun z465 : Int => (((ixR a0 z465 >>= fun x466 => ((ixR a1 a2 >>= fun x467 => (gd (mulB x466 x467) (Res.ok (x466 * x467)))))) >>= fun x470 => (((ixR a1 z465 >>= fun x468 => ((ixR a0 a2 >>= fun x469 => (gd (mulB x468 x469) (Res.ok (x468 * x469)))))) >>= fun x471 => (Res.ok (x470 - x471))))))) (rng 0 (a0.length : Int))) >>= fun x472 => (outR (gLow x472)))).to () fun r474 => .rt r474
def gClr (a0 : (List (List Int))) (a1 : Int) (a2 : Int) : Out Unit Unit (List (List Int)) Unit :=
 (Res.ok ([] : (List (List Int)))).to () fun v441 =>
 (Res.ok (a0.length : Int)).to () fun n480 => gdO (rngB 0 n480) ((loopO (fun (x443 : Int) (s442 : (List (List Int))) =>
 ((Res.ok (decide (x443 = a1))).to () fun b444 => cond b444
 ((ixR a0 x443).to () fun v445 => gdO (decide (s442.length < sizeLine))
 (.nx (s442 ++ [v445])))
 (((ixR a0 x443 >>= fun x475 => ((ixR a0 a1 >>= fun x476 => (outR (gCrs x475 x476 a2)))))).to () fun v446 => gdO (decide (s442.length < sizeLine))
 (.nx (s442 ++ [v446]))))) (rng 0 n480) v441).then fun s442 : (List (List Int)) =>
 .rt s442)
def gStp (v411 : Int) (x426 : Int) (s425 : (List (List Int)) × Int) : Out ((List (List Int)) × Int) ((List (List Int)) × Int) (List (Int × (List Int))) Unit :=
 ((gd (rngB s425.2 v411 && decide (Int.toNat (v411 - s425.2) ≤ sizeLine)) (lcR (fun z428 : Int => (((ixR s425.1 z428 >>= fun x429 => (ixR x429 x426)) >>= fun x430 => (Res.ok (!decide (x430 = (0 : Int))))))) (fun z428 : Int => (Res.ok z428)) (rng s425.2 v411))).to () fun v427 =>
 (neR ((fun xs : (List Int) => PyData.list (xs.map PyData.int)) v427) ((fun xs : (List Int) => PyData.list (xs.map PyData.int)) ([] : (List Int)))).to () fun b431 => cond b431
 ((ixR s425.1 s425.2).to () fun v432 =>
 ((ixR v427 (0 : Int) >>= fun x436 => (ixR s425.1 x436))).to () fun v434 => (Res.ok s425.2).to () fun k433 => (getR (setI s425.1 k433 v434)).to () fun l435 =>
 (Res.ok v432).to () fun v438 => (ixR v427 (0 : Int)).to () fun k437 => (getR (setI l435 k437 v438)).to () fun l439 =>
 (outR (gClr l439 s425.2 x426)).to () fun v481 =>
 (Res.ok (s425.2 + (1 : Int))).to () fun v485 =>
 .nx (v481, v485))
 (.nx (s425.1, s425.2)))
def gFin (v411 : Int) (s425 : (List (List Int)) × Int) (x492 : Int) (s491 : (List (Int × (List Int)))) : Out ((List (Int × (List Int)))) ((List (Int × (List Int)))) (List (Int × (List Int))) Unit :=
 (((ixR s425.1 x492 >>= fun x494 => (outR (gLow x494)))).to () fun v493 =>
 (((ixR v493 x492 >>= fun x496 => (Res.ok (decide (x496 < (0 : Int)))))).to () fun b497 => cond b497
 ((gd (decide (v493.length ≤ sizeLine)) (lcR (fun z499 : Int => (Res.ok true)) (fun z499 : Int => (Res.ok (-z499))) v493)).to () fun v498 =>
 .nx v498)
 (.nx v493)).then fun s500 : (List Int) =>
 ((ixR s500 x492 >>= fun x502 => (Res.ok (x502, (cutL s500 (some v411) none))))).to () fun v501 => gdO (decide (s491.length < sizeLine))
 (.nx (s491 ++ [v501])))
theorem gDiv0 (C1 : Int × Int → Res Bool) (F1 : Int × Int → Out (Int × Int) (Int × Int) Int Unit) (hc : ∀ s : Int × Int, 0 ≤ s.2 → C1 s = .ok (decide (0 < s.2))) (hf : ∀ s : Int × Int, 0 < s.2 → F1 s = .nx (s.2, Int.fmod s.1 s.2))
   {k n : Nat} {s : Int × Int} (hn : 2 * k + 2 ≤ n) (h1 : 0 ≤ s.1) (h2 : 0 ≤ s.2) (h3 : s.2 < 2 ^ k) : (whileO () C1 F1 n s : Out (Int × Int) Unit Int Unit) = .nx ((Int.gcd s.1 s.2 : Int), 0) := by
 obtain ⟨a, b⟩ := s
 have h1 : 0 ≤ a := h1
 have h2 : 0 ≤ b := h2
 by_cases e : 1 ≤ a
 · exact while_gcd C1 F1 hc hf k n (a, b) (by omega) e h2 h3
 · have ea : a = 0 := by omega
   subst ea
   obtain ⟨n, rfl⟩ : ∃ m, n = m + 1 := ⟨n - 1, by omega⟩
   by_cases eb : b = 0
   · subst eb
     unfold whileO
     rw [hc (0, 0) h2, ok_toN]
     rfl
   · have hb : 0 < b := by omega
     unfold whileO
     rw [hc (0, b) h2, ok_toN, show decide (0 < ((0 : Int), b).2) = true from decide_eq_true hb, hf (0, b) hb]
     show whileO () C1 F1 n (b, Int.fmod 0 b) = _
     rw [Int.zero_fmod, while_gcd C1 F1 hc hf k n (b, 0) (by omega) (by show 1 ≤ b; omega) (Int.le_refl 0) (by show (0 : Int) < 2 ^ k; exact Int.pow_pos (by decide))]
     show Out.nx ((Int.gcd b 0 : Int), (0 : Int)) = Out.nx ((Int.gcd 0 b : Int), (0 : Int))
     rw [Int.gcd_comm]
theorem abs_if (a : Int) : (if a < 0 then -a else a) = (a.natAbs : Int) := by
 by_cases h : a < 0
 · rw [if_pos h]; omega
 · rw [if_neg h]; omega
theorem gDiv_eq (a b : Int) {k : Nat} (hk : k ≤ 29000) (hb : b.natAbs < 2 ^ k) : outR (gDiv a b) = .ok (Int.gcd a b : Int) := by
 unfold gDiv
 rw [ok_toN, ok_toN, abs_if, abs_if]
 rw [gDiv0 _ _ (fun s h => by
   refine congrArg Res.ok ?_
   by_cases e : s.2 = 0
   · rw [e]; rfl
   · rw [decide_eq_false e, decide_eq_true (show 0 < s.2 by omega)]; rfl) (fun s h => by rw [gd_t (nz_of (by omega)), ok_toN, ok_toN, ok_toN]) (k := k) (n := 60000) (s := ((a.natAbs : Int), (b.natAbs : Int))) (by omega) (by show (0 : Int) ≤ (a.natAbs : Int); omega) (by show (0 : Int) ≤ (b.natAbs : Int); omega) (by
     show (b.natAbs : Int) < 2 ^ k
     have : ((b.natAbs : Nat) : Int) < ((2 ^ k : Nat) : Int) := by exact_mod_cast hb
     simpa using this)]
 rfl
def gcdL (xs : List Int) : Int := xs.foldl (fun s x => (Int.gcd s x : Int)) 0
theorem foldg : ∀ (xs : List Int) (s : Int), 0 ≤ s → 0 ≤ xs.foldl (fun s x => (Int.gcd s x : Int)) s ∧ xs.foldl (fun s x => (Int.gcd s x : Int)) s ∣ s ∧ (∀ x ∈ xs, xs.foldl (fun s x => (Int.gcd s x : Int)) s ∣ x) ∧ (s = 0 → (∀ x ∈ xs, x = 0) → xs.foldl (fun s x => (Int.gcd s x : Int)) s = 0)
 | [], s, h => ⟨h, Int.dvd_refl s, (fun _ z => nomatch z), fun e _ => e⟩
 | x :: xs, s, h => by
   obtain ⟨h1, h2, h3, h4⟩ := foldg xs (Int.gcd s x : Int) (by omega)
   refine ⟨h1, Int.dvd_trans h2 (Int.gcd_dvd_left ..), fun y hy => ?_, fun e z => h4 ?_ fun y hy => z y (List.mem_cons_of_mem _ hy)⟩
   · rcases List.mem_cons.mp hy with rfl | hy
     · exact Int.dvd_trans h2 (Int.gcd_dvd_right ..)
     · exact h3 y hy
   · rw [e, z x List.mem_cons_self]; rfl
def low (xs : List Int) : List Int := if gcdL xs = 0 then xs else xs.map fun z => Int.fdiv z (gcdL xs)
theorem low_len (xs : List Int) : (low xs).length = xs.length := by
 unfold low
 by_cases e : gcdL xs = 0
 · rw [if_pos e]
 · rw [if_neg e, List.length_map]
theorem low_mul (xs : List Int) : ∃ g : Int, 0 < g ∧ ∀ i, g * (low xs).getD i 0 = xs.getD i 0 := by
 obtain ⟨h1, _, h3, _⟩ := foldg xs 0 (Int.le_refl 0)
 unfold low
 by_cases e : gcdL xs = 0
 · rw [if_pos e]; exact ⟨1, by decide, fun i => Int.one_mul _⟩
 · rw [if_neg e]
   have hg : 0 < gcdL xs := by
     have : 0 ≤ gcdL xs := h1
     omega
   refine ⟨gcdL xs, hg, fun i => ?_⟩
   rw [List.getD_eq_getElem?_getD, List.getD_eq_getElem?_getD, List.getElem?_map]
   cases hx : xs[i]? with
   | none => exact Int.mul_zero _
   | some x =>
     show gcdL xs * Int.fdiv x (gcdL xs) = x
     have hd : gcdL xs ∣ x := h3 x (List.mem_of_getElem? hx)
     rw [Int.fdiv_eq_ediv_of_nonneg x (by omega)]
     exact Int.mul_ediv_cancel' hd
def rowB (k : Nat) (xs : List Int) : Prop := ∀ i, (xs.getD i 0).natAbs < 2 ^ k
theorem rowB_mem {k : Nat} {xs : List Int} (h : rowB k xs) {x : Int} (hx : x ∈ xs) : x.natAbs < 2 ^ k := by
 obtain ⟨i, hi⟩ := List.getElem?_of_mem hx
 have := h i
 rw [List.getD_eq_getElem?_getD, hi] at this
 exact this
theorem low_b {k : Nat} {xs : List Int} (h : rowB k xs) : rowB k (low xs) := fun i => by
 obtain ⟨g, hg, hm⟩ := low_mul xs
 have := h i
 rw [← hm i, Int.natAbs_mul] at this
 have h2 : 1 * ((low xs).getD i 0).natAbs ≤ g.natAbs * ((low xs).getD i 0).natAbs := Nat.mul_le_mul_right _ (by omega)
 omega
theorem gLow_eq {xs : List Int} {k : Nat} (hk : k < 9000) (h : rowB k xs) (hl : xs.length ≤ sizeLine) : outR (gLow xs) = .ok (low xs) := by
 unfold gLow
 rw [ok_toN, ok_toN, loopO_fold (fun s x => (Int.gcd s x : Int)) xs 0 (fun x hx s => by rw [gDiv_eq s x (by omega) (rowB_mem h hx), ok_toN])]
 rw [Out.nx_then, ok_toN, show xs.foldl (fun s x => (Int.gcd s x : Int)) 0 = gcdL xs from rfl]
 by_cases e : gcdL xs = 0
 · rw [decide_eq_true e]
   unfold low
   rw [if_pos e]
   rfl
 · rw [decide_eq_false e]
   show outR ((gd (decide (xs.length ≤ sizeLine)) _).to () _) = _
   obtain ⟨h1, _, h3, h4⟩ := foldg xs 0 (Int.le_refl 0)
   have hg : 0 < gcdL xs := by
     have : 0 ≤ gcdL xs := h1
     omega
   have hd : divOk (gcdL xs) = true := by
     obtain ⟨x, hx, hn⟩ : ∃ x, x ∈ xs ∧ x ≠ 0 := Classical.byContradiction fun q => e (h4 rfl fun x hx => Classical.byContradiction fun hn => q ⟨x, hx, hn⟩)
     have d : gcdL xs ∣ x := h3 x hx
     have l1 := Nat.le_of_dvd (by omega) (Int.natAbs_dvd_natAbs.mpr d)
     have l2 := rowB_mem h hx
     exact divOk_of e k (Nat.lt_of_le_of_lt l1 l2) (by omega)
   rw [gd_t (decide_eq_true hl), lcR_mem (fun _ => true) (fun z => Int.fdiv z (gcdL xs)) xs (fun x hx => ⟨rfl, gd_t hd⟩)]
   unfold low
   rw [if_neg e, List.filter_eq_self.mpr fun _ _ => rfl]
   rfl
theorem rng_at (n c : Nat) : (rng 0 (n : Int))[c]? = if c < n then some (c : Int) else none := by
 unfold rng
 rw [List.getElem?_map]
 by_cases h : c < n
 · rw [if_pos h, List.getElem?_range (by omega)]
   show some ((0 : Int) + (c : Int)) = some (c : Int)
   rw [Int.zero_add]
 · rw [if_neg h, List.getElem?_eq_none (by simp; omega)]; rfl
theorem rng_map_getD (n c : Nat) (f : Int → Int) : ((rng 0 (n : Int)).map f).getD c 0 = if c < n then f (c : Int) else 0 := by
 rw [List.getD_eq_getElem?_getD, List.getElem?_map, rng_at]
 by_cases h : c < n
 · rw [if_pos h, if_pos h]; rfl
 · rw [if_neg h, if_neg h]; rfl
theorem rng_mem {n : Nat} {z : Int} (h : z ∈ rng 0 (n : Int)) : ∃ c : Nat, c < n ∧ z = (c : Int) := by
 obtain ⟨i, hi⟩ := List.getElem?_of_mem h
 rw [rng_at] at hi
 by_cases q : i < n
 · rw [if_pos q] at hi; cases hi; exact ⟨i, q, rfl⟩
 · rw [if_neg q] at hi; cases hi
theorem rng_len (n : Nat) : (rng 0 (n : Int)).length = n := by simp [rng]
theorem ixG {xs : List Int} {c : Nat} (h : c < xs.length) : ixR xs (c : Int) = .ok (xs.getD c 0) := ixR_ok (by
 rw [List.getElem?_eq_getElem h, List.getD_eq_getElem?_getD, List.getElem?_eq_getElem h]; rfl)
def crs0 (r b : List Int) (at' : Nat) : List Int := (rng 0 (r.length : Int)).map fun z => r.getD z.toNat 0 * b.getD at' 0 - b.getD z.toNat 0 * r.getD at' 0
def crs (r b : List Int) (at' : Nat) : List Int := low (crs0 r b at')
theorem crs_len (r b : List Int) (at' : Nat) : (crs r b at').length = r.length := by
 unfold crs crs0
 rw [low_len, List.length_map, rng_len]
theorem crs_mul (r b : List Int) (at' : Nat) : ∃ g : Int, 0 < g ∧ ∀ c, c < r.length → g * (crs r b at').getD c 0 = r.getD c 0 * b.getD at' 0 - b.getD c 0 * r.getD at' 0 := by
 obtain ⟨g, hg, h⟩ := low_mul (crs0 r b at')
 refine ⟨g, hg, fun c hc => ?_⟩
 show g * (low (crs0 r b at')).getD c 0 = _
 rw [h c]
 unfold crs0
 rw [rng_map_getD, if_pos hc]
 rfl
theorem crs0_b {r b : List Int} {at' k : Nat} (hr : rowB k r) (hb : rowB k b) : rowB (2 * k + 1) (crs0 r b at') := fun c => by
 unfold crs0
 rw [rng_map_getD]
 by_cases h : c < r.length
 · rw [if_pos h]
   show (r.getD c 0 * b.getD at' 0 - b.getD c 0 * r.getD at' 0).natAbs < 2 ^ (2 * k + 1)
   have m : ∀ {x y : Int}, x.natAbs < 2 ^ k → y.natAbs < 2 ^ k → (x * y).natAbs < 2 ^ (2 * k) := fun {x y} hx hy => by
     rw [Int.natAbs_mul, show 2 * k = k + k by omega, Nat.pow_add]
     exact Nat.mul_lt_mul_of_lt_of_lt hx hy
   have h1 := m (hr c) (hb at')
   have h2 := m (hb c) (hr at')
   rw [Nat.pow_succ]
   omega
 · rw [if_neg h]; exact Nat.two_pow_pos _
theorem crs_b {r b : List Int} {at' k : Nat} (hr : rowB k r) (hb : rowB k b) : rowB (2 * k + 1) (crs r b at') := low_b (crs0_b hr hb)
theorem gCrs_eq {r b : List Int} {at' k : Nat} (hk : 2 * k + 1 < 9000) (hl : r.length ≤ 100000) (he : b.length = r.length) (ha : at' < r.length) (hr : rowB k r) (hb : rowB k b) : outR (gCrs r b (at' : Int)) = .ok (crs r b at') := by
 unfold gCrs
 rw [gd_t (by
   unfold rngB sizeLine
   simp only [Bool.and_eq_true, decide_eq_true_eq]
   omega), lcR_mem (fun _ => true) (fun z => r.getD z.toNat 0 * b.getD at' 0 - b.getD z.toNat 0 * r.getD at' 0) (rng 0 (r.length : Int)) (fun z hz => by
   obtain ⟨c, hc, rfl⟩ := rng_mem hz
   refine ⟨rfl, ?_⟩
   rw [ixG hc, ok_bindN, ixG (show at' < b.length by omega), ok_bindN, gd_t (mulB_of k k (hr c) (hb at') (by omega)), ok_bindN, ixG (show c < b.length by omega), ok_bindN, ixG ha, ok_bindN, gd_t (mulB_of k k (hb c) (hr at') (by omega)), ok_bindN]
   rfl), List.filter_eq_self.mpr fun _ _ => rfl, ok_bindN]
 show outR ((outR (gLow (crs0 r b at'))).to () _) = _
 rw [gLow_eq hk (crs0_b hr hb) (by unfold crs0 sizeLine; rw [List.length_map, rng_len]; omega), ok_toN]
 rfl
theorem ixG2 {R : List (List Int)} {c : Nat} (h : c < R.length) : ixR R (c : Int) = .ok (R.getD c []) := ixR_ok (by
 rw [List.getElem?_eq_getElem h, List.getD_eq_getElem?_getD, List.getElem?_eq_getElem h]; rfl)
theorem getD_mem {R : List (List Int)} {c : Nat} (h : c < R.length) : R.getD c [] ∈ R := by
 rw [List.getD_eq_getElem?_getD, List.getElem?_eq_getElem h]
 exact List.getElem_mem h
def clr (R : List (List Int)) (p at' : Nat) : List (List Int) := (rng 0 (R.length : Int)).map fun z => if z = (p : Int) then R.getD z.toNat [] else crs (R.getD z.toNat []) (R.getD p []) at'
theorem clr_len (R : List (List Int)) (p at' : Nat) : (clr R p at').length = R.length := by
 unfold clr
 rw [List.length_map, rng_len]
theorem clr_at {R : List (List Int)} {p at' c : Nat} (h : c < R.length) : (clr R p at').getD c [] = if c = p then R.getD c [] else crs (R.getD c []) (R.getD p []) at' := by
 unfold clr
 rw [List.getD_eq_getElem?_getD, List.getElem?_map, rng_at, if_pos h]
 show (if (c : Int) = (p : Int) then R.getD c [] else crs (R.getD c []) (R.getD p []) at') = _
 by_cases e : c = p
 · rw [if_pos e, if_pos (by omega)]
 · rw [if_neg e, if_neg (by omega)]
theorem gClr_eq {R : List (List Int)} {w p at' k : Nat} (hk : 2 * k + 1 < 9000) (hn : R.length ≤ 100000) (hw : w ≤ 100000) (hl : ∀ r ∈ R, r.length = w) (hp : p < R.length) (ha : at' < w) (hb : ∀ r ∈ R, rowB k r) : outR (gClr R (p : Int) (at' : Int)) = .ok (clr R p at') := by
 unfold gClr
 rw [ok_toN, ok_toN, gdO_t (rngB_of (by decide) (by decide) (by omega) (by omega))]
 obtain ⟨s', h1, h2⟩ := loop_pre (β := Unit) (ρ := List (List Int)) (ξ := Unit) (f := fun (x443 : Int) (s442 : (List (List Int))) =>
 ((Res.ok (decide (x443 = (p : Int)))).to () fun b444 => cond b444
 ((ixR R x443).to () fun v445 => gdO (decide (s442.length < sizeLine))
 (.nx (s442 ++ [v445])))
 (((ixR R x443 >>= fun x475 => ((ixR R (p : Int) >>= fun x476 => (outR (gCrs x475 x476 (at' : Int))))))).to () fun v446 => gdO (decide (s442.length < sizeLine))
 (.nx (s442 ++ [v446]))))) (fun P s => s = P.map fun z => if z = (p : Int) then R.getD z.toNat [] else crs (R.getD z.toNat []) (R.getD p []) at') (rng 0 (R.length : Int)) [] rfl (fun P x Qs s e hs => by
   have hx : x ∈ rng 0 (R.length : Int) := by rw [← e]; simp
   obtain ⟨c, hc, rfl⟩ := rng_mem hx
   have hlen : s.length < 1000000 := by
     have := congrArg List.length e
     rw [List.length_append, List.length_cons, rng_len] at this
     rw [hs, List.length_map]
     omega
   have hg : ∀ o : Out (List (List Int)) (List (List Int)) (List (List Int)) Unit, gdO (decide (s.length < sizeLine)) o = o := fun o => gdO_t (decide_eq_true (by unfold sizeLine; omega))
   refine ⟨s ++ [if (c : Int) = (p : Int) then R.getD c [] else crs (R.getD c []) (R.getD p []) at'], ?_, by rw [List.map_append, ← hs]; rfl⟩
   rw [ok_toN]
   by_cases q : (c : Int) = (p : Int)
   · rw [decide_eq_true q]
     show (ixR R (c : Int)).to () _ = _
     rw [ixG2 hc, ok_toN, hg, if_pos q]
   · rw [decide_eq_false q]
     show (ixR R (c : Int) >>= _).to () _ = _
     have e1 := hl _ (getD_mem hc)
     have e2 := hl _ (getD_mem hp)
     rw [ixG2 hc, ok_bindN, ixG2 hp, ok_bindN, gCrs_eq hk (by omega) (by omega) (by omega) (hb _ (getD_mem hc)) (hb _ (getD_mem hp)), ok_toN, hg, if_neg q])
 rw [h1, Out.nx_then, h2]
 rfl
def unR (sq : List (List Int)) (z : Int) : List Int := sq.getD z.toNat [] ++ (rng 0 (sq.length : Int)).map fun y => if decide (y = z) then 1 else 0
def un (sq : List (List Int)) : List (List Int) := (rng 0 (sq.length : Int)).map (unR sq)
theorem un_len (sq : List (List Int)) : (un sq).length = sq.length := by
 unfold un
 rw [List.length_map, rng_len]
theorem un_at {sq : List (List Int)} {c : Nat} (h : c < sq.length) : (un sq).getD c [] = unR sq c := by
 unfold un
 rw [List.getD_eq_getElem?_getD, List.getElem?_map, rng_at, if_pos h]
 rfl
theorem gUn_eq {sq : List (List Int)} (hn : sq.length ≤ 100000) (hl : ∀ r ∈ sq, r.length = sq.length) : outR (gUn sq) = .ok (un sq) := by
 unfold gUn
 rw [ok_toN, ok_toN, ok_toN, gdO_t (rngB_of (by decide) (by decide) (by omega) (by omega))]
 obtain ⟨s', h1, h2⟩ := loop_pre (β := Unit) (ρ := List (List Int)) (ξ := Unit) (f := fun (x416 : Int) (s415 : (List (List Int))) =>
 ((((ixR sq x416 >>= fun x418 => (Res.ok x418)) >>= fun x420 => ((gd (rngB 0 (sq.length : Int) && decide (Int.toNat (sq.length : Int) ≤ sizeLine)) (lcR (fun z419 : Int => (Res.ok true)) (fun z419 : Int => (Res.ok (if (decide (z419 = x416)) then 1 else 0))) (rng 0 (sq.length : Int))) >>= fun x421 => (gd (decide (x420.length + x421.length ≤ sizeLine)) (Res.ok (x420 ++ x421))))))).to () fun v417 => gdO (decide (s415.length < sizeLine))
 (.nx (s415 ++ [v417])))) (fun P s => s = P.map (unR sq)) (rng 0 (sq.length : Int)) [] rfl (fun P x Qs s e hs => by
   have hx : x ∈ rng 0 (sq.length : Int) := by rw [← e]; simp
   obtain ⟨c, hc, rfl⟩ := rng_mem hx
   have hlen : s.length < 1000000 := by
     have := congrArg List.length e
     rw [List.length_append, List.length_cons, rng_len] at this
     rw [hs, List.length_map]
     omega
   have hg : ∀ o : Out (List (List Int)) (List (List Int)) (List (List Int)) Unit, gdO (decide (s.length < sizeLine)) o = o := fun o => gdO_t (decide_eq_true (by unfold sizeLine; omega))
   refine ⟨s ++ [unR sq (c : Int)], ?_, by rw [List.map_append, ← hs]; rfl⟩
   have e1 := hl _ (getD_mem hc)
   rw [ixG2 hc, ok_bindN, ok_bindN, gd_t (by
     unfold rngB sizeLine
     simp only [Bool.and_eq_true, decide_eq_true_eq]
     omega), lcR_mem (fun _ => true) (fun z : Int => if decide (z = (c : Int)) then (1 : Int) else 0) (rng 0 (sq.length : Int)) (fun z _ => ⟨rfl, rfl⟩), List.filter_eq_self.mpr fun _ _ => rfl, ok_bindN, gd_t (decide_eq_true (by
     rw [e1, List.length_map, rng_len]
     unfold sizeLine
     omega)), ok_toN, hg]
   rfl)
 rw [h1, Out.nx_then, h2]
 rfl
def fR (R : List (List Int)) (k c : Nat) : Int := (R.getD k []).getD c 0
theorem un_fR {sq : List (List Int)} (hl : ∀ r ∈ sq, r.length = sq.length) {k c : Nat} (hk : k < sq.length) (hc : c < sq.length + sq.length) : fR (un sq) k c = aug sq.length (fR sq) k c := by
 have e1 := hl _ (getD_mem hk)
 unfold fR aug
 rw [un_at hk]
 unfold unR
 rw [List.getD_eq_getElem?_getD]
 show ((sq.getD k [] ++ (rng 0 (sq.length : Int)).map fun y => if decide (y = (k : Int)) then (1 : Int) else 0)[c]?).getD 0 = _
 by_cases q : c < sq.length
 · rw [List.getElem?_append_left (by omega), if_pos q, ← List.getD_eq_getElem?_getD]
 · rw [List.getElem?_append_right (by omega), if_neg q, ← List.getD_eq_getElem?_getD, rng_map_getD, if_pos (by omega), e1]
   by_cases w : c = sq.length + k
   · rw [if_pos w, if_pos (decide_eq_true (by omega))]
   · rw [if_neg w, if_neg (by rw [decide_eq_true_eq]; omega)]
structure Inv (n a k : Nat) (S : Nat → Nat → Int) (R : List (List Int)) : Prop where
 len : R.length = n
 row : ∀ r ∈ R, r.length = n + n
 bd : ∀ r ∈ R, rowB k r
 sh : Shape n a (fR R)
 ann : ∀ z, Ann n (n + n) (fR R) z ↔ Ann n (n + n) (aug n S) z
theorem inv_un {sq : List (List Int)} {k : Nat} (hk : 0 < k) (hl : ∀ r ∈ sq, r.length = sq.length) (hb : ∀ r ∈ sq, rowB k r) : Inv sq.length 0 k (fR sq) (un sq) := by
 have mem : ∀ r ∈ un sq, ∃ c, c < sq.length ∧ r = unR sq (c : Int) := fun r hr => by
   obtain ⟨z, hz, rfl⟩ := List.mem_map.mp hr
   obtain ⟨c, hc, rfl⟩ := rng_mem hz
   exact ⟨c, hc, rfl⟩
 refine ⟨un_len sq, fun r hr => ?_, fun r hr i => ?_, ⟨fun _ h => absurd h (Nat.not_lt_zero _), fun _ h => absurd h (Nat.not_lt_zero _), fun _ _ _ _ h => absurd h (Nat.not_lt_zero _)⟩, fun z => ?_⟩
 · obtain ⟨c, hc, rfl⟩ := mem r hr
   unfold unR
   rw [List.length_append, List.length_map, rng_len, show ((c : Int)).toNat = c from rfl, hl _ (getD_mem hc)]
 · obtain ⟨c, hc, rfl⟩ := mem r hr
   have e1 := hl _ (getD_mem hc)
   have one : (1 : Nat) < 2 ^ k := Nat.one_lt_two_pow (by omega)
   by_cases q : i < sq.length + sq.length
   · have e := un_fR hl hc q
     unfold fR at e
     rw [un_at hc] at e
     rw [e]
     unfold aug
     by_cases w : i < sq.length
     · rw [if_pos w]; exact hb _ (getD_mem hc) i
     · rw [if_neg w]
       by_cases v : i = sq.length + c
       · rw [if_pos v]; exact one
       · rw [if_neg v]; exact Nat.two_pow_pos k
   · unfold unR
     rw [List.getD_eq_getElem?_getD, List.getElem?_eq_none (by rw [List.length_append, List.length_map, rng_len, show ((c : Int)).toNat = c from rfl, e1]; omega)]
     exact Nat.two_pow_pos k
 · have key : ∀ k, k < sq.length → sm (sq.length + sq.length) (fun c => fR (un sq) k c * z c) = sm (sq.length + sq.length) (fun c => aug sq.length (fR sq) k c * z c) := fun k hk => sm_congr fun c hc => by rw [un_fR hl hk hc]
   exact ⟨fun a k hk => (key k hk).symm.trans (a k hk), fun a k hk => (key k hk).trans (a k hk)⟩
def swp (R : List (List Int)) (a q : Nat) : List (List Int) := (R.set a (R.getD q [])).set q (R.getD a [])
theorem swp_len (R : List (List Int)) (a q : Nat) : (swp R a q).length = R.length := by
 unfold swp
 rw [List.length_set, List.length_set]
theorem swp_at {R : List (List Int)} {a q c : Nat} (ha : a < R.length) (hq : q < R.length) : (swp R a q).getD c [] = if c = q then R.getD a [] else if c = a then R.getD q [] else R.getD c [] := by
 unfold swp
 rw [List.getD_eq_getElem?_getD, List.getElem?_set, List.getElem?_set, List.length_set]
 by_cases e : c = q
 · subst e
   rw [if_pos rfl, if_pos rfl, if_pos hq]; rfl
 · rw [if_neg (fun z => e z.symm), if_neg e]
   by_cases f : c = a
   · subst f
     rw [if_pos rfl, if_pos rfl, if_pos ha]; rfl
   · rw [if_neg (fun z => f z.symm), if_neg f, List.getD_eq_getElem?_getD]
theorem mem_getD {R : List (List Int)} {r : List Int} (h : r ∈ R) : ∃ c, c < R.length ∧ r = R.getD c [] := by
 obtain ⟨i, hi, rfl⟩ := List.mem_iff_getElem.mp h
 exact ⟨i, hi, by rw [List.getD_eq_getElem?_getD, List.getElem?_eq_getElem hi]; rfl⟩
theorem swp_mem {R : List (List Int)} {a q : Nat} (ha : a < R.length) (hq : q < R.length) {r : List Int} (h : r ∈ swp R a q) : r ∈ R := by
 obtain ⟨c, hc, rfl⟩ := mem_getD h
 rw [swp_len] at hc
 rw [swp_at ha hq]
 by_cases e : c = q
 · rw [if_pos e]; exact getD_mem ha
 · rw [if_neg e]
   by_cases f : c = a
   · rw [if_pos f]; exact getD_mem hq
   · rw [if_neg f]; exact getD_mem hc
theorem rowB_up {k k' : Nat} (h : k ≤ k') {xs : List Int} (b : rowB k xs) : rowB k' xs := fun i => Nat.lt_of_lt_of_le (b i) (Nat.pow_le_pow_right (by decide) h)
theorem setI_ok {α : Type} (l : List α) (j : Nat) (x : α) (h1 : j < l.length) : setI l (j : Int) x = some (l.set j x) := by
 unfold setI ixN
 rw [if_pos (by omega), if_pos (by omega)]
 rfl
theorem neNil (q : Int) (xs : List Int) : neR ((fun xs : (List Int) => PyData.list (xs.map PyData.int)) (q :: xs)) ((fun xs : (List Int) => PyData.list (xs.map PyData.int)) ([] : (List Int))) = .ok true := by
 have h1 : okD 1 ((fun xs : (List Int) => PyData.list (xs.map PyData.int)) (q :: xs)) := okD_lst (okAll_map fun x _ => okD_int x)
 have h2 : okD 1 ((fun xs : (List Int) => PyData.list (xs.map PyData.int)) ([] : (List Int))) := okD_lst (okAll_nil 0)
 rw [neR_of (h1.sh (by decide)) (h2.sh (by decide))]
 rfl
def finR (R : List (List Int)) (k : Nat) : List Int := if (low (R.getD k [])).getD k 0 < 0 then (low (R.getD k [])).map fun z => -z else low (R.getD k [])
def finT (R : List (List Int)) (n : Nat) (z : Int) : Int × List Int := ((finR R z.toNat).getD z.toNat 0, cutL (finR R z.toNat) (some (n : Int)) none)
theorem map_neg (xs : List Int) (i : Nat) : (xs.map fun z => -z).getD i 0 = - xs.getD i 0 := by
 rw [List.getD_eq_getElem?_getD, List.getElem?_map, List.getD_eq_getElem?_getD]
 cases xs[i]? with
 | none => rfl
 | some x => rfl
theorem finR_len (R : List (List Int)) (k : Nat) : (finR R k).length = (R.getD k []).length := by
 unfold finR
 by_cases e : (low (R.getD k [])).getD k 0 < 0
 · rw [if_pos e, List.length_map, low_len]
 · rw [if_neg e, low_len]
theorem finR_mul (R : List (List Int)) (k : Nat) : ∃ g p : Int, g ≠ 0 ∧ p ≠ 0 ∧ ∀ i, g * (finR R k).getD i 0 = p * (R.getD k []).getD i 0 := by
 obtain ⟨g, hg, hm⟩ := low_mul (R.getD k [])
 unfold finR
 by_cases e : (low (R.getD k [])).getD k 0 < 0
 · rw [if_pos e]
   refine ⟨g, -1, by omega, by decide, fun i => ?_⟩
   rw [map_neg, Int.mul_neg, hm i, Int.neg_one_mul]
 · rw [if_neg e]
   exact ⟨g, 1, by omega, by decide, fun i => by rw [hm i, Int.one_mul]⟩
theorem finR_b {R : List (List Int)} {k b : Nat} (h : rowB b (R.getD k [])) : rowB b (finR R k) := fun i => by
 unfold finR
 by_cases e : (low (R.getD k [])).getD k 0 < 0
 · rw [if_pos e, map_neg, Int.natAbs_neg]; exact low_b h i
 · rw [if_neg e]; exact low_b h i
theorem finR_pos {R : List (List Int)} {k : Nat} (h : (R.getD k []).getD k 0 ≠ 0) : 0 < (finR R k).getD k 0 := by
 have h1 : (low (R.getD k [])).getD k 0 ≠ 0 := fun e => by
   obtain ⟨g, hg, hm⟩ := low_mul (R.getD k [])
   have := hm k
   rw [e, Int.mul_zero] at this
   exact h this.symm
 unfold finR
 by_cases e : (low (R.getD k [])).getD k 0 < 0
 · rw [if_pos e, map_neg]; omega
 · rw [if_neg e]; omega
theorem cut_at {xs : List Int} {n m i : Nat} (h : xs.length = n + m) : (cutL xs (some (n : Int)) none).getD i 0 = xs.getD (n + i) 0 := by
 have e1 : HT.sIx xs.length 0 (some (n : Int)) = n := by
   rw [HT.sIx_nat]
   omega
 have e2 : HT.sIx xs.length xs.length none = xs.length := rfl
 unfold cutL
 rw [e1, e2, List.take_of_length_le (by rw [List.length_drop]; omega), List.getD_eq_getElem?_getD, List.getElem?_drop, ← List.getD_eq_getElem?_getD]
end Q.G
namespace Q.G
def sqS (n : Nat) (sh : Nat → Nat → Int) (b : Nat → Int) (j c : Nat) : Int := (if c = j then b j + sm n (fun i => sh i j) else 0) - sh c j
theorem sqS_dot {n : Nat} {sh : Nat → Nat → Int} {b x : Nat → Int} {j : Nat} (hj : j < n) : sm n (fun c => sqS n sh b j c * x c) = (b j + sm n (fun i => sh i j)) * x j - sm n (fun i => sh i j * x i) := by
 rw [sm_congr (g := fun c => (if c = j then b j + sm n (fun i => sh i j) else 0) * x c - sh c j * x c) fun c _ => by unfold sqS; rw [Int.sub_mul], sm_sub, sm_one hj fun c _ hn => by rw [if_neg hn, Int.zero_mul], if_pos rfl]
structure Pap (n : Nat) (sh : Nat → Nat → Int) (b : Nat → Int) (F : Nat → Nat → Int) : Prop where
 hs : ∀ i j, 0 ≤ sh i j
 hb : ∀ j, 0 ≤ b j
 ho : ∀ j, j < n → Lo n sh b j
 dg : ∀ k, k < n → 0 < F k k
 up : ∀ k, k < n → ∀ c, c < n → c ≠ k → F k c = 0
 ann : ∀ z, Ann n (n + n) F z ↔ Ann n (n + n) (aug n (sqS n sh b)) z
def top (n : Nat) (F : Nat → Nat → Int) (h : Nat → Int) (k : Nat) : Int := sm n (fun c => F k (n + c) * h c)
variable {n : Nat} {sh : Nat → Nat → Int} {b : Nat → Int} {F : Nat → Nat → Int}
theorem Pap.eq (p : Pap n sh b F) {D : Int} {y : Nat → Int} (hy : ∀ k, k < n → y k * F k k = D) (h : Nat → Int) {j : Nat} (hj : j < n) : (b j + sm n (fun i => sh i j)) * (y j * top n F h j) - sm n (fun i => sh i j * (y i * top n F h i)) = D * h j := by
 have := rightI (S := sqS n sh b) p.up p.ann hy h hj
 rw [← this]
 exact (sqS_dot (x := fun k => y k * top n F h k) hj).symm
theorem Pap.nonneg (p : Pap n sh b F) {h : Nat → Int} (hh : ∀ j, j < n → 0 ≤ h j) {k : Nat} (hk : k < n) : 0 ≤ top n F h k := by
 obtain ⟨D, hD, y, hy0, hy⟩ := cofs_pos (fun k => F k k) n p.dg
 have := minp p.hs p.hb p.ho (x := fun k => y k * top n F h k) (fun j hj => by
   rw [p.eq hy h hj]
   exact Int.mul_nonneg (by omega) (hh j hj)) k hk
 exact Int.nonneg_of_mul_nonneg_right this (hy0 k hk)
theorem Pap.all (p : Pap n sh b F) {k : Nat} (hk : k < n) : top n F b k = F k k := by
 have := leftI (S := sqS n sh b) p.up (fun z => (p.ann z).mpr) (fun _ => 1) hk
 rw [Int.mul_one] at this
 rw [this]
 exact sm_congr fun j hj => by
   rw [sqS_dot hj, Int.mul_one, sm_congr (f := fun i => sh i j * 1) (g := fun i => sh i j) fun i _ => Int.mul_one _]
   congr 1
   omega
theorem top_add (h g : Nat → Int) (k : Nat) : top n F (fun c => h c + g c) k = top n F h k + top n F g k := by
 unfold top
 rw [← sm_add]
 exact sm_congr fun c _ => Int.mul_add ..
theorem Pap.le (p : Pap n sh b F) {h : Nat → Int} (hh : ∀ j, j < n → h j ≤ b j) {k : Nat} (hk : k < n) : top n F h k ≤ F k k := by
 have h1 := p.nonneg (h := fun c => b c - h c) (fun j hj => by have := hh j hj; show 0 ≤ b j - h j; omega) hk
 have h2 := top_add (n := n) (F := F) h (fun c => b c - h c) k
 have h3 : top n F (fun c => h c + (b c - h c)) k = top n F b k := by
   unfold top
   exact sm_congr fun c _ => by
     show F k (n + c) * (h c + (b c - h c)) = F k (n + c) * b c
     rw [show h c + (b c - h c) = b c by omega]
 rw [h3, p.all hk] at h2
 omega
end Q.G
namespace Q
open PySem L2 PySem.Spec
end Q
namespace Q.G
def eI (i c : Nat) : Int := if c = i then 1 else 0
variable {n : Nat} {sh : Nat → Nat → Int} {b : Nat → Int} {F : Nat → Nat → Int}
end Q.G
namespace Q
open PySem L2
section
variable {T : Tb} {C : Kc} {Γ : Cx0} {α β κ κ' ι ι' η : Type}
end
def oOpt {α : Type} (o : α → Ow) : Option α → Ow
 | none => oV (vC .non)
 | some x => o x
instance {α : Type} {o : α → Ow} {v : α → Vw} [i : OwV o v] : OwV (oOpt o) (vOpt v) := ⟨fun x => match x with
 | none => rfl
 | some x => i.eq x⟩
instance {α : Type} {o : α → Ow} [i : CloT o] : CloT (oOpt o) := ⟨fun x B B' H v fp s h => match x, h with
 | none, h => ⟨h.1, h.2⟩
 | some x, h => i.ct x B B' H v fp s h⟩
section
variable {T : Tb} {C : Kc} {Γ : Cx0} {α : Type}
theorem ev_oNone {o : α → Ow} : EvO T C Γ .non (oOpt o) (.ok none) := fun W σ B H Q g z => z _ B H (.refl g.sub) ⟨[], ⟨rfl, rfl⟩, List.nodup_nil, fun _ z => nomatch z⟩
theorem ev_oSome {o : α → Ow} {e : E} {m : Res α} (h : EvO T C Γ e o m) : EvO T C Γ e (oOpt o) (m >>= fun x => .ok (some x)) := fun W σ B H Q g z => h W σ B H Q g (rz_bind.mp z)
end
section
variable {a b c d e f g h : Option Ow} {Γ Γ' : Cx0}
theorem Wk.d2 (w : Wk Γ Γ') : Wk (a :: b :: Γ) (none :: none :: Γ') := .drop (.drop w)
theorem Wk.d4 (w : Wk Γ Γ') : Wk (a :: b :: c :: d :: Γ) (none :: none :: none :: none :: Γ') := .d2 (.d2 w)
theorem Wk.d8 (w : Wk Γ Γ') : Wk (a :: b :: c :: d :: e :: f :: g :: h :: Γ) (none :: none :: none :: none :: none :: none :: none :: none :: Γ') := .d4 (.d4 w)
theorem Bor.d2 (w : Bor Γ Γ') : Bor (a :: b :: Γ) (none :: none :: Γ') := .drop (.drop w)
theorem Bor.d4 (w : Bor Γ Γ') : Bor (a :: b :: c :: d :: Γ) (none :: none :: none :: none :: Γ') := .d2 (.d2 w)
theorem Bor.d8 (w : Bor Γ Γ') : Bor (a :: b :: c :: d :: e :: f :: g :: h :: Γ) (none :: none :: none :: none :: none :: none :: none :: none :: Γ') := .d4 (.d4 w)
theorem Wk.k2 {a b : Ow} (w : Wk Γ Γ') : Wk (some a :: some b :: Γ) (some a :: some b :: Γ') := .keep (.keep w)
theorem Wk.k4 {a b c d : Ow} (w : Wk Γ Γ') : Wk (some a :: some b :: some c :: some d :: Γ) (some a :: some b :: some c :: some d :: Γ') := .k2 (.k2 w)
theorem nl {m n : Nat} (h : Nat.ble m n = true) : m ≤ n := Nat.le_of_ble_eq_true h
abbrev n2 (l : Cx0) : Cx0 := none :: none :: l
abbrev n4 (l : Cx0) : Cx0 := none :: none :: none :: none :: l
abbrev n8 (l : Cx0) : Cx0 := none :: none :: none :: none :: none :: none :: none :: none :: l
theorem eI {T : Tb} {C : Kc} {i : Nat} {x : Int} (h : Γ[i]? = some (some (oV (vInt x)))) : EvB T C Γ (.var i) vInt (.ok x) := evB_vV (τ := vInt) (x := x) h
theorem fc {α : Type} {p : α → Prop} {a : α} {l : List α} (h : p a) (t : ∀ x ∈ l, p x) : ∀ x ∈ a :: l, p x := List.forall_mem_cons.mpr ⟨h, t⟩
theorem fn0 {α : Type} {p : α → Prop} : ∀ x ∈ ([] : List α), p x := fun _ z => (List.not_mem_nil z).elim
end
end Q
namespace Q.W
open PySem L2 PySem.Spec Q
abbrev Ly := Str × Int × Int × Int
abbrev Hr := Int × Int × Str × Int × Int × List Ly
structure HrOk (x : Hr) : Prop where
 nm : PyData.strOk x.2.2.1 = true
 ly : ∀ l ∈ x.2.2.2.2.2, PyData.strOk l.1 = true
 ln : x.2.2.2.2.2.length ≤ 100000
def pairS (f a b c : Str) (x : Int) : List H.Sd := [(f, a, c, x), (f, b, c, -x)]
end Q.W
namespace Q.W
open PySem L2 PySem.Spec Q
structure RtOk (co : List Str) (ts : List Tl) (r : H.HIn) : Prop where
 A : H.Agr r (H.red ts) r.1
 raw : ∀ x ∈ ts, H.okRaw x
 told : r.1 ∈ co
 t0 : ixR co (0 : Int) = .ok r.1
 due : ∀ c ∈ co, ∀ d : Int, 0 ≤ d → ∃ y, H.due ts r.1 c d = some y ∧ H.rOk y
theorem ab_nat (x : Int) : H.ab x = (x.natAbs : Int) := by
 unfold H.ab
 split <;> omega
section
variable {cN cR : Nat} {co : List Str} {ts : List Tl} {r : H.HIn} (Rk : RtOk co ts r) (cn : ∀ x ∈ co, nOk x)
theorem RtOk.bd (Rk : RtOk co ts r) {c : Str} (hc : c ∈ co) {d : Int} (hd : 0 ≤ d) {a : Int} (ha : a.natAbs < 2 ^ 100) : (H.wOf ts r.1 d c a).natAbs < 2 ^ 140 := by
 obtain ⟨y, hy, h1, h2⟩ := Rk.due c hc d hd
 unfold H.wOf
 rw [hy]
 obtain ⟨g, hg, e1, e2, p1, p2⟩ := H.frac_eq y.1 y.2 h1.1 h2.1
 have l1 := H.le_mul_one g _ _ hg p1 e1
 have l2 := H.le_mul_one g _ _ hg p2 e2
 have n := (H.near_ok (a * (H.frac y.1 y.2).1) (H.frac y.1 y.2).2 p2).2
 rw [ab_nat, ab_nat] at n
 show (H.near (a * (H.frac y.1 y.2).1) (H.frac y.1 y.2).2).natAbs < _
 generalize H.near (a * (H.frac y.1 y.2).1) (H.frac y.1 y.2).2 = z at *
 have m : (a * (H.frac y.1 y.2).1).natAbs < 2 ^ 100 * 2 ^ 31 := by
   rw [Int.natAbs_mul]
   exact Nat.mul_lt_mul_of_lt_of_lt ha (by have := h1.2; omega)
 have p31 : (2 : Int) ^ 31 = 2147483648 := by decide
 have m' : (2 : Nat) ^ 100 * 2 ^ 31 = 2722258935367507707706996859454145691648 := by decide
 have p140 : (2 : Nat) ^ 140 = 1393796574908163946345982392040522594123776 := by decide
 rw [m'] at m
 rw [p140]
 have := h2.2
 omega
include cn in
theorem RtOk.w (Rk : RtOk co ts r) {c : Str} (hc : c ∈ co) {d : Int} (hd : 0 ≤ d) {a : Int} (ha : a.natAbs < 2 ^ 150) : outR (H.hWorth cN cR r a c d) = .ok (H.wOf ts r.1 d c a) ∧ outR (wWorth a c d r.1 ts) = .ok (H.wOf ts r.1 d c a) ∧ ∃ y, outR (H.hRate cR r c d) = .ok y := by
 obtain ⟨y, hy, _⟩ := Rk.due c hc d hd
 refine ⟨H.worth_ok Rk.A d Rk.raw c (cn c hc) a ha hy, worth_eq a (cn c hc) (cn _ Rk.told) Rk.raw ha hy, ?_⟩
 rw [H.hRate_eq Rk.A c d ((cn c hc).t.le (by decide)), H.due_red, hy]
 exact ⟨_, rfl⟩
end
inductive Prs : List H.Sd → Prop
 | nil : Prs []
 | cons (f a b c : Str) (x : Int) {L : List H.Sd} : Prs L → Prs (pairS f a b c x ++ L)
end Q.W
namespace Q
open PySem L2 PySem.Spec
section
variable {T : Tb} {cs : List Nat} {C : Kc} {Γ Γ' : Cx0} {α β γ ν ν' ρ ξ ι ι' η κ κ' : Type}
inductive AllV : Cx0 → Prop
 | nil : AllV []
 | no {Γ : Cx0} (h : AllV Γ) : AllV (none :: Γ)
 | v {Γ : Cx0} {w : Vw} (h : AllV Γ) : AllV (some (oV w) :: Γ)
theorem AllV.get : ∀ {Γ : Cx0}, AllV Γ → ∀ {i : Nat} {o : Ow}, Γ[i]? = some (some o) → ∃ w, o = oV w
 | _, .no h, 0, _, e => by simp at e
 | _, .no h, i + 1, _, e => by
   rw [List.getElem?_cons_succ] at e
   exact h.get e
 | _, .v (w := w) h, 0, _, e => by
   rw [List.getElem?_cons_zero] at e
   cases e
   exact ⟨w, rfl⟩
 | _, .v h, i + 1, _, e => by
   rw [List.getElem?_cons_succ] at e
   exact h.get e
theorem AllV.lk {σ : L2.St} {B H : Hp} {q : Addr} {od : Obj} {u : HO} (a : AllV Γ) (hu : dicB u = true) (hB : B q = some u) (g : EnvC Γ σ B H) : EnvC Γ σ (upd B q (.frz od u)) (upd H q (.frz od u)) where
 get := fun i o e => by
   obtain ⟨v, f, h1, h2⟩ := g.get i o e
   obtain ⟨w, rfl⟩ := a.get e
   have hf : f = [] := h2.2
   subst hf
   exact ⟨v, [], h1, (oV w).lk (lock_lk hu hB) (fun _ z => nomatch z) h2⟩
 sub := fun b w e => by
   by_cases h : b = q
   · subst h; rw [upd_same] at e ⊢; exact e
   · rw [upd_ne h] at e ⊢; exact g.sub b w e
 len := g.len
end
end Q
namespace Q
open PySem L2 PySem.Spec
section
variable {T : Tb} {cs : List Nat} {C : Kc} {Γ Γ' : Cx0} {α β γ ν ν' ρ ξ ι ι' η κ κ' : Type}
end
end Q
namespace Q
open PySem L2 PySem.Spec
section
variable {T : Tb} {cs : List Nat} {C : Kc} {Γ Γ' : Cx0} {α β γ ν ν' ρ ξ ι ι' η κ κ' : Type}
def repB (n : Nat) (k : Int) : Bool := decide (-(2 ^ 63) ≤ k) && decide (k < 2 ^ 63) && decide (n * k.toNat ≤ sizeLine)
theorem vwl_rep {B : Hp} {τ : α → Vw} {xs : List α} {vs : List V} (h : VwL B vs (xs.map τ)) : ∀ n : Nat, VwL B (List.replicate n vs).flatten ((List.replicate n xs).flatten.map τ)
 | 0 => .nil
 | n + 1 => by
   rw [List.replicate_succ, List.replicate_succ, List.flatten_cons, List.flatten_cons]
   exact vwl_app h (vwl_rep h n)
theorem ev_rep {a b : E} {τ : α → Vw} {ma : Res (List α)} {mb : Res Int} (ha : EvO T C Γ a (oL C fun x => oV (τ x)) ma) (hb : EvB T C Γ b vInt mb) :
   EvO T C Γ (.bin .Mult a b) (oL C fun x => oV (τ x)) (ma >>= fun xs => mb >>= fun k => gd (repB xs.length k) (.ok (List.replicate k.toNat xs).flatten)) := fun W σ B H Q g z => by
 show (rd T C a W).E σ H _
 refine ha W σ B H _ g (rz_imp (rz_bind.mp z) (fun xs z v B1 H1 g1 ⟨fp, ⟨p, vs, f, hv, h2, h3, hf⟩, nd, fr⟩ => ?_) fun _ z => z)
 subst hv
 obtain ⟨h3, _⟩ := owl_oV_inv h3
 show (rd T C b W).E σ H1 _
 refine hb W σ B1 H1 _ (g.up g1.b g1.h g1.s) (rz_imp (rz_bind.mp z) (fun k z u B2 H2 g2 p2 => ?_) fun _ z => z.up g1.h)
 have hu : u = .int k := p2
 subst hu
 cases hz : repB xs.length k with
 | false => rw [hz] at z; exact z.elim
 | true =>
   rw [hz] at z
   unfold repB at hz
   simp only [Bool.and_eq_true, decide_eq_true_eq] at hz
   have e1 := h3.len
   rw [List.length_map] at e1
   refine .inr ⟨p, k, vs, rfl, rfl, g2.h _ _ h2, hz.1.1, hz.1.2, by rw [e1]; exact hz.2, fun q hq => ?_⟩
   have ho := owl_oV' (B := B2) (H := H2) (vwl_rep (h3.mono g2.b) k.toNat)
   obtain ⟨k1, k2, k3, k4⟩ := new_ls (C := C) g2.s hq ho
   have g0 := g1.trans g2
   exact z (.ref q) B2 _ (g0.trans k1) ⟨[q], k2, k3, fun b hb => ⟨none_back g0.h (k4 b hb).1, (k4 b hb).2⟩⟩
theorem ev_repP {a b : E} {τ : α → Vw} {x : List α} {y : Int} (ha : EvO T C Γ a (oL C fun x => oV (τ x)) (.ok x)) (hb : EvB T C Γ b vInt (.ok y)) : EvO T C Γ (.bin .Mult a b) (oL C fun x => oV (τ x)) (gd (repB x.length y) (.ok (List.replicate y.toNat x).flatten)) := ev_rep ha hb
end
end Q
namespace Q.G
def red (a b : Int) : Int × Int := (Int.fdiv a (Int.gcd a b), Int.fdiv b (Int.gcd a b))
end Q.G
namespace Q.K
open PySem L2 PySem.Spec
abbrev La := Str × Int × Int × Int
abbrev Hd := Int × Str × Int × Int × List La
abbrev Stk := List (Int × Hd)
section
variable {cB cG cF cN : Nat}
theorem then_g {ν ν' β ρ ξ : Type} {m : Out ν β ρ ξ} {k : ν → Out ν' β ρ ξ} (P : ν → Prop) (G : Out ν' β ρ ξ → Prop) (h : ∃ s, m = .nx s ∧ P s) (hk : ∀ s, P s → G (k s)) : G (m.then k) := by
 obtain ⟨s, e, hs⟩ := h
 rw [e]
 exact hk s hs
structure LaOk (l : La) : Prop where
 nm : tOk 26 l.1
 c0 : 0 ≤ l.2.1
 c1 : l.2.1 < 2 ^ 140
 f0 : 0 ≤ l.2.2.1
 lt : l.2.2.1 < l.2.2.2
 l1 : l.2.2.2 < 2 ^ 21
structure Chain (ls : List La) (s t : Int) : Prop where
 ne : 1 ≤ ls.length
 len : ls.length ≤ 80
 ok : ∀ l ∈ ls, LaOk l
 lo : ∀ l ∈ ls, l.2.2.1 ≤ s
 hi : ∀ l ∈ ls, t ≤ l.2.2.2
theorem Chain.sub {ls : List La} {s t a b : Int} (h : Chain ls s t) (ha : s ≤ a) (hb : b ≤ t) : Chain ls a b := ⟨h.ne, h.len, h.ok, fun l hl => Int.le_trans (h.lo l hl) ha, fun l hl => Int.le_trans hb (h.hi l hl)⟩
section
variable {st : Stk} {n m lot a b : Int} {fm : Str} {ls : List La}
end
def hd0 : Hd := (0, ("" : Str), 0, 0, [])
end
end Q.K
namespace Q
open PySem L2 PySem.Spec
section
variable {T : Tb} {cs : List Nat} {C : Kc} {Γ : Cx0} {α β ν ρ ξ η : Type}
def optO (o : Option α) (k : α → Out ν β ρ ξ) : Out ν β ρ ξ := match o with
 | some x => k x
 | none => .bad
def vXv (a : Addr) (dx : Option Addr) (f : Str) (w : Vw) : Vw := ⟨fun B v => v = .ref a ∧ ∃ d p, dx = some d ∧ B d = some (.xd [(f, p)]) ∧ w.rel B p, fun e ⟨h0, d, p, h1, h2, h3⟩ => ⟨h0, d, p, h1, e _ _ h2, w.mono e h3⟩, fun e ⟨h0, d, p, h1, h2, h3⟩ => ⟨h0, d, p, h1, e.eq h2 rfl (fun _ _ z => nomatch z), w.lk e h3⟩⟩
def oXo (a : Addr) (dx : Option Addr) (f : Str) (o : Ow) : Ow where
 rel := fun B H v fp => v = .ref a ∧ ∃ d p, dx = some d ∧ B d = some (.xd [(f, p)]) ∧ o.rel B H p fp
 mono := fun e n ⟨h0, d, p, h1, h2, h3⟩ => ⟨h0, d, p, h1, e _ _ h2, o.mono e n h3⟩
 al := fun ⟨_, _, _, _, _, h3⟩ => o.al h3
 nt := fun ⟨_, _, _, _, _, h3⟩ => o.nt h3
 lk := fun e n ⟨h0, d, p, h1, h2, h3⟩ => ⟨h0, d, p, h1, e.eq h2 rfl (fun _ _ z => nomatch z), o.lk e n h3⟩
 vw := vXv a dx f o.vw
 sub := fun e n ⟨h0, d, p, h1, h2, h3⟩ => ⟨h0, d, p, h1, e _ _ h2, o.sub e n h3⟩
instance {a : Addr} {dx : Option Addr} {f : Str} {o : α → Ow} {v : α → Vw} [i : OwV o v] : OwV (fun x => oXo a dx f (o x)) (fun x => vXv a dx f (v x)) := ⟨fun x => congrArg (vXv a dx f) (i.eq x)⟩
instance {z : Option (Nat × Addr × Option Addr)} {τ : α → Vw} : Ity { C with ex := z } (vL C τ) "list" := (inferInstance : Ity { C with ex := z } (vL { C with ex := z } τ) "list")
instance {z : Option (Nat × Addr × Option Addr)} {τ : α → Vw} {pd : α → PyData} [Pd { C with ex := z } τ pd] : Pd { C with ex := z } (vL C τ) (fun xs => PyData.list (xs.map pd)) := (inferInstance : Pd { C with ex := z } (vL { C with ex := z } τ) (fun xs => PyData.list (xs.map pd)))
theorem look1 (f : Str) (p : V) : [(f, p)].lookup f = some p := by rw [List.lookup_cons, beq_self_eq_true]
theorem ev_exfV {i m : Nat} {f : Str} {a : Addr} {dx : Option Addr} {τ : α → Vw} {x : α} (hi : Γ[i]? = some (some (oV (vXv a dx f (τ x))))) (hf : PySem.W.findIn C.K (.ref (C.cl m)) f = some none) : EvB T { C with ex := some (m, a, dx) } Γ (.exf i f) τ (.ok x) := fun W σ B H Q g z => by
 obtain ⟨v, f0, h1, ⟨⟨rfl, d, p, rfl, hd, hw⟩, _⟩⟩ := g.get i _ hi
 exact ⟨m, a, d, [(f, p)], p, rfl, h1, g.sub _ _ hd, look1 f p, hf, z p B H (.refl g.sub) ((τ x).mono g.sub hw)⟩
theorem evx_mvX {D : Ds ν β ρ ξ} {i m : Nat} {f : Str} {a : Addr} {dx : Option Addr} {τ : α → Ow} {x : α} {k : Unit → Out ν β ρ ξ} (hi : Γ[i]? = some (some (oXo a dx f (τ x)))) (hf : PySem.W.findIn C.K (.ref (C.cl m)) f = some none) :
   EvX T { C with ex := some (m, a, dx) } D Γ (.lst (.cons (.exf i f) .nil)) (fun _ : Unit => oL C τ [x]) (fun _ => Γ.set i none) k (k ()) := fun W E σ B Z H fp Q o p q => by
 obtain ⟨v, fx, g, q1, ⟨rfl, d, pv, rfl, hd, hr⟩, q3, q4⟩ := o.env.focus hi
 obtain ⟨fp', e1, e2⟩ := q4 B H (oXo a (some d) f (oV (vC pv))) [] (sm_refl _) (fun _ _ => rfl) ⟨rfl, d, pv, rfl, hd, rfl, rfl⟩
 obtain ⟨fq, w1, w2⟩ := (show Wk (Γ.set i (some (oXo a (some d) f (oV (vC pv))))) (Γ.set i none) from by
   have : ∀ (Γ : Cx0) (i : Nat) (o : Ow), Wk (Γ.set i (some o)) (Γ.set i none) := fun Γ => by
     induction Γ with
     | nil => intro i o; exact .nil
     | cons a Γ ih =>
       intro i o
       cases i with
       | zero => exact .drop (Wk.refl Γ)
       | succ i =>
         cases a with
         | none => exact .drop (ih i o)
         | some a => exact .keep (ih i o)
   exact this _ _ _).env e1
 refine ⟨m, a, d, [(f, pv)], pv, rfl, q1, o.b _ _ hd, look1 f pv, hf, ?_⟩
 refine ⟨(show 1 ≤ sizeLine by decide), fun l hl => ?_⟩
 have al := o.env.al
 have nl : ∀ b ∈ fp, b ≠ l := fun b hb z => by
   have := al b hb
   rw [z, hl] at this; cases this
 have pf : ∀ b ∈ fx, b ∈ fp := fun b hb => q3.mem_iff.mp (List.mem_append_left _ hb)
 have qf : ∀ b ∈ fq, b ∈ fp := fun b hb => q3.mem_iff.mp (List.mem_append_right _ (by
   have := w2.subset hb
   rw [← List.nil_append g]
   exact e2.mem_iff.mpr this))
 have hB := none_back o.b hl
 have hZ := none_back o.z hl
 have nd := q3.nodup_iff.mpr o.nd
 obtain ⟨n1, n2, n3⟩ := List.nodup_append.mp nd
 have nq : fq.Nodup := (e2.nodup_iff.mp (by rw [List.nil_append]; exact n2)).sublist w2
 have sep : ∀ b ∈ fx, ∀ c ∈ fq, b ≠ c := fun b hb c hc z => n3 b hb c (by
   have := w2.subset hc
   rw [← List.nil_append g]
   exact e2.mem_iff.mpr this) z
 refine q () (.ref l) B _ ((l :: fx) ++ fq) (Gz.refl _ _) ⟨⟨.ref l, l :: fx, fq, rfl, rfl, ⟨l, [pv], fx, rfl, upd_same, ⟨fx, [], (List.append_nil fx).symm, (τ x).mono (sm_refl _) (fun b hb => upd_ne (nl b (pf b hb))) hr, rfl⟩, rfl⟩, w1.mono (sm_refl _) fun b hb => upd_ne (nl b (qf b hb))⟩, ?_, fun b hb => ?_, sm_trans o.b (sm_new hl), sm_trans o.z (sm_new hl)⟩ p
 · refine List.nodup_append.mpr ⟨List.nodup_cons.mpr ⟨fun z => nl l (pf l z) rfl, n1⟩, nq, fun b hb c hc z => ?_⟩
   rcases List.mem_cons.mp hb with rfl | hb
   · exact nl c (qf c hc) z.symm
   · exact sep b hb c hc z
 · rcases List.mem_append.mp hb with hb | hb
   · rcases List.mem_cons.mp hb with rfl | hb
     · exact ⟨hZ, hB⟩
     · exact o.fr b (pf b hb)
   · exact o.fr b (qf b hb)
def lstA (pr : V → Option α) (f : Str) (fs : List (Str × V)) : Option (List α) := match fs with
 | (g, .non) :: r => if g = f then r.mapM (fun p => pr p.2) else none
 | _ => none
def prI : V → Option Int
 | .int i => some i
 | _ => none
theorem prI_inv {v : V} {x : Int} (h : prI v = some x) : v = .int x := by cases v <;> cases h; rfl
theorem mapM_inv {pr : V → Option α} {inj : α → V} (hp : ∀ v x, pr v = some x → v = inj x) (f : Str) : ∀ {vs : List V} {xs : List α}, (vs.map fun v => (f, v)).mapM (fun p : Str × V => pr p.2) = some xs → vs = xs.map inj
 | [], xs, h => by
   rw [List.map_nil, List.mapM_nil] at h
   cases h; rfl
 | v :: vs, xs, h => by
   rw [List.map_cons, List.mapM_cons] at h
   cases q : pr v with
   | none => simp [q] at h
   | some x =>
     cases q2 : (vs.map fun v => (f, v)).mapM (fun p : Str × V => pr p.2) with
     | none => simp [q, q2] at h
     | some ys =>
       simp [q, q2] at h
       subst h
       rw [hp v x q, mapM_inv hp f q2]; rfl
theorem mapM_inj {pr : V → Option α} {inj : α → V} (hp : ∀ x, pr (inj x) = some x) (f : Str) : ∀ xs : List α, ((xs.map inj).map fun v => (f, v)).mapM (fun p : Str × V => pr p.2) = some xs
 | [] => rfl
 | x :: xs => by
   have ih := mapM_inj hp f xs
   simp only [List.map_cons, List.mapM_cons]
   rw [ih]
   simp [hp x]
theorem lstA_enc {pr : V → Option α} {inj : α → V} (hp : ∀ x, pr (inj x) = some x) (f : Str) (xs : List α) : lstA pr f (encL f (xs.map inj)) = some xs := by
 unfold lstA encL
 show (if f = f then _ else none) = _
 rw [if_pos rfl]
 exact mapM_inj hp f xs
theorem lstA_inv {pr : V → Option α} {inj : α → V} (hp : ∀ v x, pr v = some x → v = inj x) {f g : Str} {vs : List V} {xs : List α} (h : lstA pr f (encL g vs) = some xs) : g = f ∧ vs = xs.map inj := by
 unfold lstA encL at h
 replace h : (if g = f then (vs.map fun v => (g, v)).mapM (fun p : Str × V => pr p.2) else none) = some xs := h
 by_cases q : g = f
 · rw [if_pos q] at h
   exact ⟨q, mapM_inv hp g h⟩
 · rw [if_neg q] at h; cases h
theorem lstA_non {pr : V → Option α} {f : Str} {fs : List (Str × V)} (h : nonE fs = true) : lstA pr f fs = none := by
 unfold lstA
 split
 · cases h
 · rfl
theorem ExD.own {pr : V → Option α} {inj : α → V} (hp : ∀ v x, pr v = some x → v = inj x) {e : Ex} {d : Option Addr} {Z B H : Hp} {us : List V} {os : List Ow} {f : Str} {xs : List α} {σ : L2.St} {fp : List Addr} {i : Nat} {a : Addr} (r : ExD C e d Z B us os) (o : Oks (os.map some ++ Γ) (us.map some ++ σ) B Z H fp) (h : lstA pr f e.fs = some xs) (li : i < Γ.length) :
   ∃ fp', Oks (Γ.set i (some (oXo a d f (oL C (fun x => oV (vC (inj x))) xs)))) (σ.set i (some (.ref a))) B Z H fp' := by
 rcases r with ⟨_, _, ⟨h1, _⟩ | ⟨dd, h1, h2, h3, h4⟩⟩ | ⟨dd, p, g, vs, rfl, rfl, h1, h2, h3, h4⟩
 · rw [h1] at h; cases h
 · rw [lstA_non h4] at h; cases h
 · rw [h2] at h
   obtain ⟨rfl, rfl⟩ := lstA_inv hp h
   obtain ⟨⟨u, f0, g0, q0, q1, q2, q3⟩, nd, fr, b, z⟩ := o
   cases q0
   refine Oks.set (v := .ref a) (o := oXo a d g (oL C (fun x => oV (vC (inj x))) xs)) (fp := fp) ⟨⟨.ref a, f0, g0, rfl, q1, ⟨rfl, dd, .ref p, h1, h3, ?_⟩, q3⟩, nd, fr, b, z⟩ li
   have e : oXs C (xs.map inj) = oL C (fun x => oV (vC (inj x))) xs := by
     unfold oXs
     rw [List.map_map]
     rfl
   rw [← e]
   exact q2
theorem b_rseL {D : Ds ν β ρ ξ} {c : Nat} {e : E} {s : S} {inj : α → V} {m : Res (List α)} {x0 : ξ} {f : Str} (hI : IniOk T C c 1 [(f, 1)]) (h : EvO T C Γ e (oL C fun x => oV (vC (inj x))) m) (w : Wk Γ (D.x x0)) :
   Blk T cs C D Γ (.seq (.rse c (.cons e .nil)) s) (m.to x0 fun xs => .exc ⟨c, encL f (xs.map inj)⟩ x0) := fun W E σ B Z H fp o p => by
 show (if elen (Q.E.cons e .nil) + 1 = (T.f (T.ini c)).ar then tMkO (C.cl c) ((T.f (T.ini c)).sp C) [] (rd T C (.cons e .nil) W).L σ H (fun cls d H' => W cls d σ H') else False)
 rw [show elen (Q.E.cons e .nil) = 1 from rfl, if_pos hI.ar.symm]
 show (rd T C e W).E σ H _
 refine h W σ B H _ o.envC ?_
 cases m with
 | exc e =>
   intro cls d H' s r
   exact exc_post o w p s r
 | bad => exact p
 | ok xs =>
   intro v B1 H1 g1 ⟨fq, r1, nq, fr1⟩
   have ee : oL C (fun x => oV (vC (inj x))) xs = oXs C (xs.map inj) := by
     unfold oXs
     rw [List.map_map]
     rfl
   rw [ee] at r1
   obtain ⟨l, rfl, hl, rfl⟩ := oXs_inv r1
   have hl0 := (fr1 l List.mem_cons_self).1
   refine ⟨Nat.le_of_ble_eq_true rfl, fun a ha => ?_⟩
   rw [List.append_nil]
   refine hI.run [.ref l] a H1 _ _ rfl ha fun d H2 e1 e2 e3 e4 e5 => ⟨rfl, d, fsOf [(f, 1)] [.ref l], e1, e2, e3, ?_⟩
   have la : l ≠ a := fun q => by rw [q, ha] at hl; cases hl
   have ld : l ≠ d := fun q => by rw [q, e3] at hl; cases hl
   refine exc_post o w p (sm_trans g1.h fun b u hb => ?_) ⟨rfl, .inr (.inr ⟨d, l, f, xs.map inj, rfl, rfl, upd_same, none_back g1.h e3, ?_, hl0⟩)⟩
   · have bd : b ≠ d := fun q => by rw [q, e3] at hb; cases hb
     have ba : b ≠ a := fun q => by rw [q, ha] at hb; cases hb
     rw [upd_ne bd, del_ne ba, e5 b ba bd]
     exact hb
   · rw [upd_ne ld, del_ne la, e5 l la ld]
     exact hl
theorem b_tryAL {D : Ds ν β ρ ξ} {Γx : η → Cx0} {b h : S} {n i : Nat} {pr : V → Option α} {inj : α → V} {f : Str} {mb : Out ν β ρ η} {hm : Ex → List α → η → Out ν β ρ ξ} {o : η → ξ} (hp : ∀ v x, pr v = some x → v = inj x) (hb : Blk T cs C ({ n := D.n, b := D.b, t := D.t, r := D.r, x := Γx } : Ds ν β ρ η) Γ b mb) (li : ∀ y, i < (Γx y).length)
   (hh : ∀ a dx e xs y, e.c ∈ cs → T.sub e.c n = true → Blk T cs { C with ex := some (e.c, a, dx) } D ((Γx y).set i (some (oXo a dx f (oL C (fun x => oV (vC (inj x))) xs)))) h (hm e xs y)) (exm : ∀ m ∈ cs, PySem.W.exmOne C.K (.ref (C.cl m)) (.ref (C.cl n)) = some (T.sub m n))
   (hn : ∀ x, (D.n x).set i none = D.n x) (hk : ∀ x, (D.b x).set i none = D.b x) (w : ∀ y, Wk (Γx y) (D.x (o y))) : Blk T cs C D Γ (.tryA b n i h) (catO cs (fun m => T.sub m n) mb (fun e y => optO (lstA pr f e.fs) fun xs => noEO (hm e xs y)) o) := fun W E σ B Z H fp ok p => by
 refine hb _ E σ B Z H fp ok ?_
 cases mb with
 | nx x => exact p
 | bk x => exact p
 | ct x => exact p
 | rt x => exact p
 | bad => exact p
 | exc e y =>
   intro cls d σ1 B1 H1 fp1 us os g1 o1 cr r
   replace p : Post C D (cond (decide (e.c ∈ cs)) (cond (T.sub e.c n) (optO (lstA pr f e.fs) fun xs => noEO (hm e xs y)) (.exc e (o y))) .bad) W E B Z := p
   cases hc : decide (e.c ∈ cs) with
   | false => rw [hc] at p; exact p.elim
   | true =>
     rw [hc] at p
     replace p : Post C D (cond (T.sub e.c n) (optO (lstA pr f e.fs) fun xs => noEO (hm e xs y)) (.exc e (o y))) W E B Z := p
     have hc := of_decide_eq_true hc
     refine ⟨T.sub e.c n, by rw [cr]; exact exm e.c hc, fun ht a ha => ⟨e.c, hc, cr, ?_⟩, fun hf => ?_⟩
     · rw [ht] at p
       replace p : Post C D (optO (lstA pr f e.fs) fun xs => noEO (hm e xs y)) W E B Z := p
       cases hx : lstA pr f e.fs with
       | none => rw [hx] at p; exact p.elim
       | some xs =>
         rw [hx] at p
         replace p : Post C D (noEO (hm e xs y)) W E B Z := p
         obtain ⟨fp2, o2⟩ := r.own hp o1 hx (li y) (a := a)
         refine hh a d e xs y hc ht noX _ _ B1 Z H1 fp2 o2 ?_
         have p2 := p.up g1
         cases q : hm e xs y with
         | nx x =>
           rw [q] at p2
           intro σ3 B3 H3 fp3 g3 o3
           obtain ⟨fp4, o4⟩ := o3.setN (i := i)
           rw [hn] at o4
           exact p2 _ B3 H3 fp4 g3 o4
         | bk x =>
           rw [q] at p2
           intro σ3 B3 H3 fp3 g3 o3
           obtain ⟨fp4, o4⟩ := o3.setN (i := i)
           rw [hk] at o4
           exact p2 _ B3 H3 fp4 g3 o4
         | ct x =>
           rw [q] at p2
           intro σ3 B3 H3 fp3 g3 o3
           obtain ⟨fp4, o4⟩ := o3.setN (i := i)
           rw [hk] at o4
           exact p2 _ B3 H3 fp4 g3 o4
         | rt x => rw [q] at p2; exact p2
         | exc e x => rw [q] at p2; exact p2.elim
         | bad => rw [q] at p2; exact p2
     · rw [hf] at p
       obtain ⟨fp2, o2⟩ := r.cv (fun _ _ _ _ _ o => o.wk (w y)) o1
       exact p cls d σ1 B1 H1 fp2 us os g1 o2 cr r
theorem p_uw {D : Ds ν β ρ ξ} {i : Nat} {o : α → Ow} {v : Option α} {s : S} {ms : α → Out ν β ρ ξ} (hi : Γ[i]? = some (some (oOpt o v))) (hs : ∀ x, Blk T cs C D (Γ.set i (some (o x))) s (ms x)) : Blk T cs C D Γ s (optO v ms) := by
 cases v with
 | none => exact b_badS
 | some x =>
   have := hs x
   have e : Γ.set i (some (o x)) = Γ := by
     refine List.ext_getElem? fun j => ?_
     rw [List.getElem?_set]
     by_cases q : i = j
     · subst q
       have hl : i < Γ.length := by
         rcases Nat.lt_or_ge i Γ.length with h | h
         · exact h
         · rw [List.getElem?_eq_none h] at hi; cases hi
       rw [if_pos rfl, if_pos hl, hi]
       rfl
     · rw [if_neg q]
   rw [e] at this
   exact this
end
end Q
namespace Q
open PySem L2 PySem.Spec
section
variable {T : Tb} {cs : List Nat} {C : Kc} {Γ : Cx0} {α ν β ρ ξ : Type}
end
end Q

namespace K45
open PySem L2 PySem.Spec Q
abbrev Y0 := (Int × (List Int))
def sub (m n : Nat) : Bool := match m, n with
  | 0, 0 => true
  | 0, 3 => true
  | 1, 1 => true
  | 1, 3 => true
  | 2, 2 => true
  | 2, 3 => true
  | 3, 3 => true
  | _, _ => false
def fnm : Nat → Str
  | 2 => "_law_cell_at"
  | 3 => "_law_entry"
  | 4 => "_law_mix"
  | 1 => "_law_square"
  | 6 => "with_units"
  | 10 => "divisor"
  | 9 => "lowered"
  | 8 => "crossed"
  | 7 => "cleared"
  | 5 => "paper_of"
  | 12 => "_law_whole"
  | 13 => "_law_mixed"
  | 11 => "_law_mix_told"
  | 16 => "_law_whole"
  | 17 => "_law_mixed"
  | 15 => "_law_mix_told"
  | 14 => "_law_mix_again"
  | 18 => "_law_by_base"
  | 20 => "_law_divisor"
  | 19 => "_law_paper_told"
  | 0 => "law"
  | _ => ""
def cnm : Nat → Str
  | 0 => "Singular"
  | 1 => "Ringed"
  | 2 => "NoNumber"
  | 3 => "BooksError"
  | _ => ""
def gnm : Nat → Str
  | _ => ""
def cs : List Nat := [0, 1, 2, 3]
def lw : Lw := ⟨cs, sub, [3], fnm, cnm, [], gnm⟩
/-- what the typed proofs ask of the classes -/
structure Kf (C : Kc) : Prop where
  exm : ∀ m ∈ cs, ∀ n ∈ cs, PySem.W.exmOne C.K (.ref (C.cl m)) (.ref (C.cl n)) = some (sub m n)
  fnf : ∀ m ∈ cs, ∀ f ∈ [("mix" : Str)], PySem.W.findIn C.K (.ref (C.cl m)) f = some none
  oex : ∀ n ∈ [0], OexC C.K (C.cl n)
theorem Kf.hx {C : Kc} (X : Kf C) (e : Option (Nat × Addr × Option Addr)) : Kf { C with ex := e } := ⟨X.exm, X.fnf, X.oex⟩
abbrev tv0 (C : Kc) (x : (Int × (List Int))) : Vw := vTup C [vInt x.1, (vL C vInt) x.2]
abbrev to0 (C : Kc) (x : (Int × (List Int))) : Ow := oTup C [oV (vInt x.1), oV ((vL C vInt) x.2)]
instance {C : Kc} : OwV (to0 C) (tv0 C) := owv_tup fun _ => rfl
instance {C : Kc} : Ity C (tv0 C) "tuple" := ity_tup
instance {C : Kc} : NN (tv0 C) := ⟨fun x H v ⟨p, vs, h1, _⟩ z => by rw [h1] at z; cases z⟩
def tp0 (x : (Int × (List Int))) : PyData := .tuple [PyData.int x.1, (fun xs : (List Int) => PyData.list (xs.map PyData.int)) x.2]
instance {C : Kc} : Pd C (tv0 C) tp0 := pd_tup fun x => pdl_cons (τ := vInt) (pd := PyData.int) (x := x.1) (pdl_cons (τ := (vL C vInt)) (pd := (fun xs : (List Int) => PyData.list (xs.map PyData.int))) (x := x.2) (pdl_nil))
instance {C : Kc} {z} : Pd { C with ex := z } (tv0 C) tp0 := (inferInstance : Pd { C with ex := z } (tv0 { C with ex := z }) tp0)
abbrev ot0 (C : Kc) (x : (Int × (List Int))) : Ow := oTup C [oV (vInt x.1), (oL C fun x => oV (vInt x)) x.2]
instance {C : Kc} : OwV (ot0 C) (tv0 C) := owv_tup fun x => (by simp only [List.map_cons, List.map_nil]; rw [show ((oL C fun x => oV (vInt x)) x.2).vw = (vL C vInt) x.2 from OwV.eq (o := (oL C fun x => oV (vInt x))) x.2]; try rfl)
instance {C : Kc} : CloT (ot0 C) := clot_tup fun x => ctl_cons (τ := (fun x : Int => oV (vInt x))) (x := x.1) (ctl_cons (τ := (oL C fun x => oV (vInt x))) (x := x.2) (ctl_nil))
/-! Singular.__init__ -/
def b21 : S := iniB 3 ("a mix of the rows comes to nought" : Str) [(("mix" : Str), 1)]
def c21 : Cn := ⟨["self", "mix"], false, [], [], [], [], [], [], [3], []⟩
def T21 : Tb := ⟨fun _ => dfR, fun _ _ => 1, fun _ => 0, sub⟩
def R21 : Q.Row := rowB lw T21 2 [] 2 b21
theorem in0 {C : Kc} (X : Kf C) {T : Tb} (h : T.f (T.ini 0) = R21) : IniOk T C 0 1 [(("mix" : Str), 1)] :=
  iniOk (cs := cs) (T' := T21) (N := 2) (k := 3) (msg := ("a mix of the rows comes to nought" : Str)) (by rw [h]; rfl) (fun C => by rw [h]; rfl) (X.oex 0 (by decide)) (fc ⟨X.fnf 0 (by decide) ("mix" : Str) (by decide), by decide, by decide⟩ fn0) (by decide) (by decide)
/-! _law_cell_at -/
def b2 : S := (.seq (.ife (.cmp .Lt (.var 1) (.blt .len (.cons (.var 0) .nil)))
  (.seq (.ret (.ix (.var 0) (.var 1)))
  .nop)
  .nop)
  (.seq (.ret (.int 0))
  .nop))
def c2 : Cn := ⟨["_law_script", "_law_k"], false, [], [], [], [], [], [], [], []⟩
def t2 : Nat → Q.Row
  | _ => dfR
def T2 : Tb := ⟨t2, fun _ _ => 0, fun _ => 0, sub⟩
def R2 : Q.Row := rowB lw T2 2 [] 2 b2
/-! _law_entry -/
def b3 : S := (.seq (.ife (.cmp .Eq (.bin .Mod (.var 0) (.int 3)) (.int 0))
  (.seq (.ret (.bin .Sub (.bin .Mod (.bin .FloorDiv (.var 0) (.int 3)) (.int 3)) (.int 1)))
  .nop)
  .nop)
  (.seq (.ife (.cmp .Eq (.bin .Mod (.var 0) (.int 3)) (.int 1))
  (.seq (.ret (.bin .Sub (.bin .Mod (.bin .FloorDiv (.var 0) (.int 3)) (.int 19)) (.int 9)))
  .nop)
  .nop)
  (.seq (.asg 2 (.bin .Pow (.int 10) (.int 6)))
  (.seq (.ife (.cmp .Lt (.var 1) (.int 3))
  (.seq (.asg 2 (.bin .Pow (.int 10) (.int 59)))
  .nop)
  .nop)
  (.seq (.ret (.bin .Sub (.bin .Mod (.bin .Mult (.bin .FloorDiv (.var 0) (.int 3)) (.bin .Pow (.int 1000003) (.int 10))) (.bin .Add (.bin .Mult (.int 2) (.var 2)) (.int 1))) (.var 2)))
  .nop)))))
def c3 : Cn := ⟨["_law_cell", "_law_many", "_law_far"], false, [], [], [], [], [], [], [], []⟩
def t3 : Nat → Q.Row
  | _ => dfR
def T3 : Tb := ⟨t3, fun _ _ => 0, fun _ => 0, sub⟩
def R3 : Q.Row := rowB lw T3 2 [] 3 b3
/-! _law_mix -/
def b4 : S := (.seq (.ret (.bin .FloorDiv (.bin .Mod (.bin .Mult (.bin .Add (.bin .Mod (.var 0) (.int 2147483647)) (.int 17)) (.var 1)) (.int 2147483399)) (.int 97)))
  .nop)
def c4 : Cn := ⟨["_law_cell", "_law_by"], false, [], [], [], [], [], [], [], []⟩
def t4 : Nat → Q.Row
  | _ => dfR
def T4 : Tb := ⟨t4, fun _ _ => 0, fun _ => 0, sub⟩
def R4 : Q.Row := rowB lw T4 2 [] 2 b4
/-! _law_square -/
def b1 : S := (.seq (.asg 1 (.bin .Mod (.call 2 (.cons (.var 0) (.cons (.int 0) .nil))) (.int 7)))
  (.seq (.asg 2 (.lst .nil))
  (.seq (.for [3] (.iR1 (.var 1))
  (.seq (.asg 5 (.lst .nil))
  (.seq (.for [6] (.iR1 (.var 1))
  (.seq (.asg 7 (.bin .Add (.bin .Add (.int 2) (.bin .Mult (.var 1) (.var 3))) (.var 6)))
  (.seq (.ife (.cmp .Lt (.var 7) (.blt .len (.cons (.var 0) .nil)))
  (.seq (.exp (.bm .lApp (.var 5) (.cons (.call 3 (.cons (.ix (.var 0) (.var 7)) (.cons (.var 1) .nil))) .nil)))
  .nop)
  (.seq (.exp (.bm .lApp (.var 5) (.cons (.bin .Sub (.bin .Mod (.call 4 (.cons (.call 2 (.cons (.var 0) (.cons (.int 1) .nil))) (.cons (.bin .Add (.int 40014) (.bin .Mult (.bin .Mult (.int 2) (.var 7)) (.var 7))) .nil))) (.int 7)) (.int 3)) .nil)))
  .nop))
  .nop)))
  (.seq (.exp (.bm .lApp (.var 2) (.cons (.var 5) .nil)))
  .nop))))
  (.seq (.asg 4 (.call 2 (.cons (.var 0) (.cons (.int 1) .nil))))
  (.seq (.ife (.and (.cons (.cmp .Gt (.var 1) (.int 0)) (.cons (.cmp .Eq (.bin .Mod (.var 4) (.int 3)) (.int 1)) .nil)))
  (.seq (.asg 7 (.bin .Mod (.call 4 (.cons (.var 4) (.cons (.int 48271) .nil))) (.var 1)))
  (.seq (.asg 8 (.ix (.var 2) (.bin .Mod (.call 4 (.cons (.var 4) (.cons (.int 69621) .nil))) (.var 1))))
  (.seq (.asg 9 (.ix (.var 2) (.bin .Mod (.call 4 (.cons (.var 4) (.cons (.int 40692) .nil))) (.var 1))))
  (.seq (.asg 10 (.bin .Sub (.bin .Mod (.call 4 (.cons (.var 4) (.cons (.int 39373) .nil))) (.int 7)) (.int 3)))
  (.seq (.asg 11 (.bin .Mult (.bin .Sub (.var 10) (.int 2)) (.blt .int (.cons (.cmp .Gt (.var 7) (.int 0)) .nil))))
  (.seq (.setl (.var 2) (.var 7) (.lc [3] (.iR1 (.var 1)) .nil (.bin .Add (.bin .Mult (.ix (.var 8) (.var 3)) (.var 10)) (.bin .Mult (.ix (.var 9) (.var 3)) (.var 11)))))
  .nop))))))
  .nop)
  (.seq (.ret (.var 2))
  .nop))))))
def c1 : Cn := ⟨["_law_script", "_law_many", "_law_square_here", "_law_k", "_law_cell", "_law_row", "_law_j", "_law_at", "_law_one", "_law_other", "_law_by", "_law_more"], false, [2, 3, 4], [], [], [], [], [], [], []⟩
def t1 : Nat → Q.Row
  | 2 => R2
  | 3 => R3
  | 4 => R4
  | _ => dfR
def T1 : Tb := ⟨t1, fun _ _ => 0, fun _ => 0, sub⟩
def R1 : Q.Row := rowB lw T1 1 [] 12 b1
/-! with_units -/
def b6 : S := (.seq (.asg 1 (.blt .len (.cons (.var 0) .nil)))
  (.seq (.asg 2 (.lst .nil))
  (.seq (.for [3] (.iR1 (.var 1))
  (.seq (.exp (.bm .lApp (.var 2) (.cons (.bin .Add (.blt .list (.cons (.ix (.var 0) (.var 3)) .nil)) (.lc [4] (.iR1 (.var 1)) .nil (.blt .int (.cons (.cmp .Eq (.var 4) (.var 3)) .nil)))) .nil)))
  .nop))
  (.seq (.ret (.var 2))
  .nop))))
def c6 : Cn := ⟨["square", "size", "rows", "at", "k"], false, [], [], [], [], [], [], [], []⟩
def t6 : Nat → Q.Row
  | _ => dfR
def T6 : Tb := ⟨t6, fun _ _ => 0, fun _ => 0, sub⟩
def R6 : Q.Row := rowB lw T6 1 [] 5 b6
/-! divisor -/
def b10 : S := (.seq (.asg 0 (.blt .abs (.cons (.var 0) .nil)))
  (.seq (.asg 1 (.blt .abs (.cons (.var 1) .nil)))
  (.seq (.whl (.cmp .NotEq (.var 1) (.int 0))
  (.seq (.asg 2 (.bin .Mod (.var 0) (.var 1)))
  (.seq (.asg 0 (.var 1))
  (.seq (.asg 1 (.var 2))
  .nop))))
  (.seq (.ret (.var 0))
  .nop))))
def c10 : Cn := ⟨["one", "other", "rest"], false, [], [], [], [], [], [], [], []⟩
def t10 : Nat → Q.Row
  | _ => dfR
def T10 : Tb := ⟨t10, fun _ _ => 0, fun _ => 0, sub⟩
def R10 : Q.Row := rowB lw T10 2 [] 3 b10
/-! lowered -/
def b9 : S := (.seq (.asg 1 (.int 0))
  (.seq (.for [2] (.iL (.var 0))
  (.seq (.asg 1 (.call 10 (.cons (.var 1) (.cons (.var 2) .nil))))
  .nop))
  (.seq (.ife (.cmp .Eq (.var 1) (.int 0))
  (.seq (.ret (.blt .list (.cons (.var 0) .nil)))
  .nop)
  .nop)
  (.seq (.ret (.lc [2] (.iL (.var 0)) .nil (.bin .FloorDiv (.var 2) (.var 1))))
  .nop))))
def c9 : Cn := ⟨["row", "by", "number"], false, [10], [], [], [], [], [], [], []⟩
def t9 : Nat → Q.Row
  | 10 => R10
  | _ => dfR
def T9 : Tb := ⟨t9, fun _ _ => 0, fun _ => 0, sub⟩
def R9 : Q.Row := rowB lw T9 1 [] 3 b9
/-! crossed -/
def b8 : S := (.seq (.ret (.call 9 (.cons (.lc [3] (.iR1 (.blt .len (.cons (.var 0) .nil))) .nil (.bin .Sub (.bin .Mult (.ix (.var 0) (.var 3)) (.ix (.var 1) (.var 2))) (.bin .Mult (.ix (.var 1) (.var 3)) (.ix (.var 0) (.var 2))))) .nil)))
  .nop)
def c8 : Cn := ⟨["row", "by", "at", "k"], false, [9], [], [], [], [], [], [], []⟩
def t8 : Nat → Q.Row
  | 9 => R9
  | _ => dfR
def T8 : Tb := ⟨t8, fun _ _ => 0, fun _ => 0, sub⟩
def R8 : Q.Row := rowB lw T8 3 [] 4 b8
/-! cleared -/
def b7 : S := (.seq (.asg 3 (.lst .nil))
  (.seq (.for [4] (.iR1 (.blt .len (.cons (.var 0) .nil)))
  (.seq (.ife (.cmp .Eq (.var 4) (.var 1))
  (.seq (.exp (.bm .lApp (.var 3) (.cons (.ix (.var 0) (.var 4)) .nil)))
  .nop)
  (.seq (.exp (.bm .lApp (.var 3) (.cons (.call 8 (.cons (.ix (.var 0) (.var 4)) (.cons (.ix (.var 0) (.var 1)) (.cons (.var 2) .nil)))) .nil)))
  .nop))
  .nop))
  (.seq (.ret (.var 3))
  .nop)))
def c7 : Cn := ⟨["rows", "place", "at", "made", "k"], false, [8], [], [], [], [], [], [], []⟩
def t7 : Nat → Q.Row
  | 8 => R8
  | _ => dfR
def T7 : Tb := ⟨t7, fun _ _ => 0, fun _ => 0, sub⟩
def R7 : Q.Row := rowB lw T7 3 [] 5 b7
/-! paper_of -/
def b5 : S := (.seq (.asg 1 (.blt .len (.cons (.var 0) .nil)))
  (.seq (.asg 2 (.call 6 (.cons (.var 0) .nil)))
  (.seq (.asg 3 (.int 0))
  (.seq (.for [4] (.iR1 (.var 1))
  (.seq (.asg 6 (.lc [9] (.iR2 (.var 3) (.var 1)) (.cons (.cmp .NotEq (.ix (.ix (.var 2) (.var 9)) (.var 4)) (.int 0)) .nil) (.var 9)))
  (.seq (.ife (.cmp .NotEq (.var 6) (.lst .nil))
  (.seq (.asg 8 (.ix (.var 2) (.var 3)))
  (.seq (.setl (.var 2) (.var 3) (.ix (.var 2) (.ix (.var 6) (.int 0))))
  (.seq (.setl (.var 2) (.ix (.var 6) (.int 0)) (.var 8))
  (.seq (.asg 2 (.call 7 (.cons (.var 2) (.cons (.var 3) (.cons (.var 4) .nil)))))
  (.seq (.asg 3 (.bin .Add (.var 3) (.int 1)))
  .nop)))))
  .nop)
  .nop)))
  (.seq (.ife (.cmp .Lt (.var 3) (.var 1))
  (.seq (.rse 0 (.cons (.sl (.ix (.var 2) (.var 3)) (.cons (.var 1) .nil) .nil) .nil))
  .nop)
  .nop)
  (.seq (.asg 5 (.lst .nil))
  (.seq (.for [4] (.iR1 (.var 1))
  (.seq (.asg 7 (.call 9 (.cons (.ix (.var 2) (.var 4)) .nil)))
  (.seq (.ife (.cmp .Lt (.ix (.var 7) (.var 4)) (.int 0))
  (.seq (.asg 7 (.lc [10] (.iL (.var 7)) .nil (.neg (.var 10))))
  .nop)
  .nop)
  (.seq (.exp (.bm .lApp (.var 5) (.cons (.tup (.cons (.ix (.var 7) (.var 4)) (.cons (.sl (.var 7) (.cons (.var 1) .nil) .nil) .nil))) .nil)))
  .nop))))
  (.seq (.ret (.var 5))
  .nop))))))))
def c5 : Cn := ⟨["square", "size", "rows", "place", "at", "paper", "some", "row", "kept", "k", "number"], false, [6, 7, 9], [], [], [], [], [], [0], []⟩
def t5 : Nat → Q.Row
  | 6 => R6
  | 7 => R7
  | 9 => R9
  | 21 => R21
  | _ => dfR
def y5 : Nat → Nat
  | 0 => 21
  | _ => 0
def T5 : Tb := ⟨t5, fun _ _ => 0, y5, sub⟩
def R5 : Q.Row := rowB lw T5 1 [] 11 b5
/-! _law_whole -/
def b12 : S := (.seq (.ret (.and (.cons (.isi (.var 0) "int") (.cons (.nt (.isi (.var 0) "bool")) .nil))))
  .nop)
def c12 : Cn := ⟨["_law_found"], false, [], [], [], [], [], [], [], []⟩
def t12 : Nat → Q.Row
  | _ => dfR
def T12 : Tb := ⟨t12, fun _ _ => 0, fun _ => 0, sub⟩
def R12 : Q.Row := rowB lw T12 1 [] 1 b12
/-! _law_mixed -/
def b13 : S := (.seq (.ret (.lc [2] (.iR1 (.blt .len (.cons (.var 0) .nil))) .nil (.blt .sum (.cons (.lc [3] (.iR1 (.blt .len (.cons (.var 0) .nil))) .nil (.bin .Mult (.ix (.var 1) (.var 3)) (.ix (.ix (.var 0) (.var 3)) (.var 2)))) .nil))))
  .nop)
def c13 : Cn := ⟨["_law_square_here", "_law_row", "_law_at", "_law_k"], false, [], [], [], [], [], [], [], []⟩
def t13 : Nat → Q.Row
  | _ => dfR
def T13 : Tb := ⟨t13, fun _ _ => 0, fun _ => 0, sub⟩
def R13 : Q.Row := rowB lw T13 2 [] 4 b13
/-! _law_mix_told -/
def b11 : S := (.seq (.ife (.or (.cons (.nt (.isi (.var 1) "list")) (.cons (.cmp .NotEq (.blt .len (.cons (.var 1) .nil)) (.blt .len (.cons (.var 0) .nil))) .nil)))
  (.seq (.ret (.bl false))
  .nop)
  .nop)
  (.seq (.for [2] (.iL (.var 1))
  (.seq (.ife (.nt (.call 12 (.cons (.var 2) .nil)))
  (.seq (.ret (.bl false))
  .nop)
  .nop)
  .nop))
  (.seq (.ret (.and (.cons (.blt .any (.cons (.lc [2] (.iL (.var 1)) .nil (.cmp .NotEq (.var 2) (.int 0))) .nil)) (.cons (.cmp .Eq (.call 13 (.cons (.var 0) (.cons (.var 1) .nil))) (.bin .Mult (.lst (.cons (.int 0) .nil)) (.blt .len (.cons (.var 0) .nil)))) .nil))))
  .nop)))
def c11 : Cn := ⟨["_law_square_here", "_law_mix_here", "_law_number"], false, [12, 13], [], [], [], [], [], [], []⟩
def t11 : Nat → Q.Row
  | 12 => R12
  | 13 => R13
  | _ => dfR
def T11 : Tb := ⟨t11, fun _ _ => 0, fun _ => 0, sub⟩
def R11 : Q.Row := rowB lw T11 2 [] 3 b11
/-! _law_whole#hot -/
def b16 : S := (.seq (.ret (.and (.cons (.isi (.var 0) "int") (.cons (.nt (.isi (.var 0) "bool")) .nil))))
  .nop)
def c16 : Cn := ⟨["_law_found"], true, [], [], [], [], [], [], [], []⟩
def t16 : Nat → Q.Row
  | _ => dfR
def T16 : Tb := ⟨t16, fun _ _ => 0, fun _ => 0, sub⟩
def R16 : Q.Row := rowB lw T16 1 [] 1 b16
/-! _law_mixed#hot -/
def b17 : S := (.seq (.ret (.lc [2] (.iR1 (.blt .len (.cons (.var 0) .nil))) .nil (.blt .sum (.cons (.lc [3] (.iR1 (.blt .len (.cons (.var 0) .nil))) .nil (.bin .Mult (.ix (.var 1) (.var 3)) (.ix (.ix (.var 0) (.var 3)) (.var 2)))) .nil))))
  .nop)
def c17 : Cn := ⟨["_law_square_here", "_law_row", "_law_at", "_law_k"], true, [], [], [], [], [], [], [], []⟩
def t17 : Nat → Q.Row
  | _ => dfR
def T17 : Tb := ⟨t17, fun _ _ => 0, fun _ => 0, sub⟩
def R17 : Q.Row := rowB lw T17 2 [] 4 b17
/-! _law_mix_told#hot -/
def b15 : S := (.seq (.ife (.or (.cons (.nt (.isi (.var 1) "list")) (.cons (.cmp .NotEq (.blt .len (.cons (.var 1) .nil)) (.blt .len (.cons (.var 0) .nil))) .nil)))
  (.seq (.ret (.bl false))
  .nop)
  .nop)
  (.seq (.for [2] (.iL (.var 1))
  (.seq (.ife (.nt (.callH 16 (.cons (.var 2) .nil)))
  (.seq (.ret (.bl false))
  .nop)
  .nop)
  .nop))
  (.seq (.ret (.and (.cons (.blt .any (.cons (.lc [2] (.iL (.var 1)) .nil (.cmp .NotEq (.var 2) (.int 0))) .nil)) (.cons (.cmp .Eq (.callH 17 (.cons (.var 0) (.cons (.var 1) .nil))) (.bin .Mult (.lst (.cons (.int 0) .nil)) (.blt .len (.cons (.var 0) .nil)))) .nil))))
  .nop)))
def c15 : Cn := ⟨["_law_square_here", "_law_mix_here", "_law_number"], true, [], [16, 17], [], [], [], [], [], []⟩
def t15 : Nat → Q.Row
  | 16 => R16
  | 17 => R17
  | _ => dfR
def T15 : Tb := ⟨t15, fun _ _ => 0, fun _ => 0, sub⟩
def R15 : Q.Row := rowB lw T15 2 [] 3 b15
/-! _law_mix_again -/
def b14 : S := (.seq (.asg 2 (.bl false))
  (.seq (.tryA (.seq (.exp (.call 5 (.cons (.var 1) .nil)))
  .nop) 0 3
  (.seq (.asg 2 (.callH 15 (.cons (.var 0) (.cons (.exf 3 "mix") .nil))))
  .nop))
  (.seq (.ret (.var 2))
  .nop)))
def c14 : Cn := ⟨["_law_square_here", "_law_handed", "_law_good", "e"], false, [5], [15], [], [], [], [], [], []⟩
def t14 : Nat → Q.Row
  | 5 => R5
  | 15 => R15
  | _ => dfR
def T14 : Tb := ⟨t14, fun _ _ => 0, fun _ => 0, sub⟩
def R14 : Q.Row := rowB lw T14 2 [] 4 b14
/-! _law_by_base -/
def b18 : S := (.seq (.asg 1 (.bl false))
  (.seq (.tryA (.seq (.exp (.call 5 (.cons (.var 0) .nil)))
  .nop) 3 2
  (.seq (.asg 1 (.and (.cons (.isv 2) (.cons (.isx 2 0) .nil))))
  (.seq (.asg 1 (.and (.cons (.var 1) (.cons (.nt (.isx 2 1)) (.cons (.nt (.isx 2 2)) .nil)))))
  .nop)))
  (.seq (.ret (.var 1))
  .nop)))
def c18 : Cn := ⟨["_law_square_here", "_law_good", "e"], false, [5], [], [], [], [], [], [], []⟩
def t18 : Nat → Q.Row
  | 5 => R5
  | _ => dfR
def T18 : Tb := ⟨t18, fun _ _ => 0, fun _ => 0, sub⟩
def R18 : Q.Row := rowB lw T18 1 [] 3 b18
/-! _law_divisor -/
def b20 : S := (.seq (.whl (.cmp .NotEq (.var 1) (.int 0))
  (.seq (.asg 2 (.bin .Mod (.var 0) (.var 1)))
  (.seq (.asg 0 (.var 1))
  (.seq (.asg 1 (.var 2))
  .nop))))
  (.seq (.ret (.blt .abs (.cons (.var 0) .nil)))
  .nop))
def c20 : Cn := ⟨["_law_one", "_law_other", "_law_rest"], false, [], [], [], [], [], [], [], []⟩
def t20 : Nat → Q.Row
  | _ => dfR
def T20 : Tb := ⟨t20, fun _ _ => 0, fun _ => 0, sub⟩
def R20 : Q.Row := rowB lw T20 2 [] 3 b20
/-! _law_paper_told -/
def b19 : S := (.seq (.asg 2 (.blt .len (.cons (.var 0) .nil)))
  (.seq (.ife (.or (.cons (.nt (.isi (.var 1) "list")) (.cons (.cmp .NotEq (.blt .len (.cons (.var 1) .nil)) (.var 2)) .nil)))
  (.seq (.ret (.bl false))
  .nop)
  .nop)
  (.seq (.for [3] (.iR1 (.var 2))
  (.seq (.ife (.or (.cons (.nt (.isi (.ix (.var 1) (.var 3)) "tuple")) (.cons (.cmp .NotEq (.blt .len (.cons (.ix (.var 1) (.var 3)) .nil)) (.int 2)) .nil)))
  (.seq (.ret (.bl false))
  .nop)
  .nop)
  (.seq (.asg 4 (.ix (.ix (.var 1) (.var 3)) (.int 0)))
  (.seq (.asg 5 (.ix (.ix (.var 1) (.var 3)) (.int 1)))
  (.seq (.ife (.or (.cons (.nt (.call 12 (.cons (.var 4) .nil))) (.cons (.cmp .Lt (.var 4) (.int 1)) (.cons (.nt (.isi (.var 5) "list")) (.cons (.cmp .NotEq (.blt .len (.cons (.var 5) .nil)) (.var 2)) .nil)))))
  (.seq (.ret (.bl false))
  .nop)
  .nop)
  (.seq (.asg 6 (.var 4))
  (.seq (.for [7] (.iL (.var 5))
  (.seq (.ife (.nt (.call 12 (.cons (.var 7) .nil)))
  (.seq (.ret (.bl false))
  .nop)
  .nop)
  (.seq (.asg 6 (.call 20 (.cons (.var 6) (.cons (.var 7) .nil))))
  .nop)))
  (.seq (.asg 8 (.lc [9] (.iR1 (.var 2)) .nil (.bin .Mult (.var 4) (.blt .int (.cons (.cmp .Eq (.var 9) (.var 3)) .nil)))))
  (.seq (.ife (.or (.cons (.cmp .NotEq (.var 6) (.int 1)) (.cons (.cmp .NotEq (.call 13 (.cons (.var 0) (.cons (.var 5) .nil))) (.var 8)) .nil)))
  (.seq (.ret (.bl false))
  .nop)
  .nop)
  .nop)))))))))
  (.seq (.ret (.bl true))
  .nop))))
def c19 : Cn := ⟨["_law_square_here", "_law_paper", "_law_many", "_law_k", "_law_d", "_law_row", "_law_by", "_law_number", "_law_due", "_law_at"], false, [12, 13, 20], [], [], [], [], [], [], []⟩
def t19 : Nat → Q.Row
  | 12 => R12
  | 13 => R13
  | 20 => R20
  | _ => dfR
def T19 : Tb := ⟨t19, fun _ _ => 0, fun _ => 0, sub⟩
def R19 : Q.Row := rowB lw T19 2 [] 10 b19
/-! law -/
def b0 : S := (.seq (.asg 1 (.call 1 (.cons (.var 0) .nil)))
  (.seq (.asg 2 (.lc [7] (.iL (.var 1)) .nil (.blt .list (.cons (.var 7) .nil))))
  (.seq (.asg 3 .non)
  (.seq (.asg 4 .non)
  (.seq (.tryA (.seq (.asg 4 (.call 5 (.cons (.var 2) .nil)))
  .nop) 0 5
  (.seq (.asg 3 (.lst (.cons (.exf 5 "mix") .nil)))
  .nop))
  (.seq (.ife (.cmp .NotEq (.var 2) (.var 1))
  (.seq (.ret (.bl false))
  .nop)
  .nop)
  (.seq (.ife (.cmp .IsNot (.var 3) .non)
  (.seq (.ife (.nt (.call 11 (.cons (.var 1) (.cons (.ix (.var 3) (.int 0)) .nil))))
  (.seq (.ret (.bl false))
  .nop)
  .nop)
  (.seq (.exp (.bm .lClr (.ix (.var 3) (.int 0)) .nil))
  (.seq (.ret (.and (.cons (.call 14 (.cons (.var 1) (.cons (.var 2) .nil))) (.cons (.call 18 (.cons (.var 2) .nil)) .nil))))
  .nop)))
  .nop)
  (.seq (.ife (.nt (.call 19 (.cons (.var 1) (.cons (.var 4) .nil))))
  (.seq (.ret (.bl false))
  .nop)
  .nop)
  (.seq (.asg 6 (.lc [10, 7] (.iL (.var 4)) .nil (.tup (.cons (.var 10) (.cons (.blt .list (.cons (.var 7) .nil)) .nil)))))
  (.seq (.for [7] (.iL (.var 2))
  (.seq (.exp (.bm .lClr (.var 7) .nil))
  .nop))
  (.seq (.ife (.cmp .NotEq (.var 4) (.var 6))
  (.seq (.ret (.bl false))
  .nop)
  .nop)
  (.seq (.for [8] (.iL (.var 4))
  (.seq (.exp (.bm .lClr (.ix (.var 8) (.int 1)) .nil))
  .nop))
  (.seq (.asg 9 (.call 5 (.cons (.lc [7] (.iL (.var 1)) .nil (.blt .list (.cons (.var 7) .nil))) .nil)))
  (.seq (.ret (.and (.cons (.call 19 (.cons (.var 1) (.cons (.var 9) .nil))) (.cons (.cmp .Eq (.var 9) (.var 6)) .nil))))
  .nop))))))))))))))
def c0 : Cn := ⟨["_law_script", "_law_square_here", "_law_handed", "_law_mix_here", "_law_paper", "e", "_law_kept", "_law_row", "_law_pair", "_law_again", "_law_d"], false, [1, 5, 11, 14, 18, 19], [], [], [], [], [], [], []⟩
def t0 : Nat → Q.Row
  | 1 => R1
  | 5 => R5
  | 11 => R11
  | 14 => R14
  | 18 => R18
  | 19 => R19
  | _ => dfR
def T0 : Tb := ⟨t0, fun _ _ => 0, fun _ => 0, sub⟩
def R0 : Q.Row := rowB lw T0 1 [] 11 b0
def f2 (a0 : (List Int)) (a1 : Int) : Out Unit Unit Int Unit :=
  (Res.ok (decide (a1 < (a0.length : Int)))).to () fun b3 => cond b3
  ((ixR a0 a1).to () fun r4 => .rt r4)
  ((Res.ok (0 : Int)).to () fun r5 => .rt r5)
theorem d2 {C : Kc} (X : Kf C) : FnT C R2 (fun k : (List Int) × Int × Unit => [(vL C vInt) k.1, vInt k.2.1]) (fun x : Int => oV (vInt x)) (fun k => outR (f2 k.1 k.2.1)) :=
  fn_read (T := T2) (cs := cs) (n := 2) (N := 2) (s := b2) (fun _ => rfl) (fun _ => rfl) fun ⟨a0, a1, _⟩ =>
  (b_ifL (m := (Res.ok (decide (a1 < (a0.length : Int))))) (wk_evT (Γ' := [some (oV ((vL C vInt) a0)), some (oV (vInt a1))]) (.k2 .nil) (ev_test (ev_cmpP (op := fun (x : Int) (y : Int) => (Res.ok (decide (x < y)))) (x := a1) (y := (a0.length : Int)) (eI (x := a1) rfl) (ev_blt1P (x := a0) (op := fun x : (List Int) => (Res.ok (x.length : Int))) (evB_vV (τ := (vL C vInt)) (x := a0) rfl) bl_lenL) op_lt))) (.d2 .nil) rfl
  (b_ret (g := fun r4 => r4) (evx (x0 := ()) (wk_ev (Γ' := [some (oV ((vL C vInt) a0)), some (oV (vInt a1))]) (.k2 .nil) (ev_flat (ev_ixP (op := ixR) (x := a0) (y := a1) (evB_vV (τ := (vL C vInt)) (x := a0) rfl) (eI (x := a1) rfl) op_ixL))) (.d2 .nil)) (fun _ => Le.refl _) (fun _ => (.d2 .nil)))
  (b_ret (g := fun r5 => r5) (evx (x0 := ()) (wk_ev (Γ' := [none, none]) (.d2 .nil) (ev_flat (ev_int 0))) (.d2 .nil)) (fun _ => Le.refl _) (fun _ => (.d2 .nil))))
def f3 (a0 : Int) (a1 : Int) : Out Unit Unit Int Unit :=
  (Res.ok (decide ((Int.fmod a0 (3 : Int)) = (0 : Int)))).to () fun b21 => cond b21
  ((Res.ok ((Int.fmod (Int.fdiv a0 (3 : Int)) (3 : Int)) - (1 : Int))).to () fun r22 => .rt r22)
  ((Res.ok (decide ((Int.fmod a0 (3 : Int)) = (1 : Int)))).to () fun b23 => cond b23
  ((Res.ok ((Int.fmod (Int.fdiv a0 (3 : Int)) (19 : Int)) - (9 : Int))).to () fun r24 => .rt r24)
  ((gd (powB (10 : Int) (6 : Int)) (Res.ok ((10 : Int) ^ Int.toNat (6 : Int)))).to () fun v25 =>
  ((Res.ok (decide (a1 < (3 : Int)))).to () fun b26 => cond b26
  ((gd (powB (10 : Int) (59 : Int)) (Res.ok ((10 : Int) ^ Int.toNat (59 : Int)))).to () fun v27 =>
  .nx v27)
  (.nx v25)).then fun s28 : Int =>
  ((((gd (powB (1000003 : Int) (10 : Int)) (Res.ok ((1000003 : Int) ^ Int.toNat (10 : Int))) >>= fun x29 => (gd (mulB (Int.fdiv a0 (3 : Int)) x29) (Res.ok ((Int.fdiv a0 (3 : Int)) * x29)))) >>= fun x31 => (((gd (mulB (2 : Int) s28) (Res.ok ((2 : Int) * s28)) >>= fun x30 => (Res.ok (x30 + (1 : Int)))) >>= fun x32 => (gd (!decide (x32 = 0)) (Res.ok (Int.fmod x31 x32)))))) >>= fun x33 => (Res.ok (x33 - s28)))).to () fun r34 => .rt r34))
theorem d3 {C : Kc} (X : Kf C) : FnT C R3 (fun k : Int × Int × Unit => [vInt k.1, vInt k.2.1]) (fun x : Int => oV (vInt x)) (fun k => outR (f3 k.1 k.2.1)) :=
  fn_read (T := T3) (cs := cs) (n := 2) (N := 3) (s := b3) (fun _ => rfl) (fun _ => rfl) fun ⟨a0, a1, _⟩ =>
  (b_ifL (m := (Res.ok (decide ((Int.fmod a0 (3 : Int)) = (0 : Int))))) (wk_evT (Γ' := [some (oV (vInt a0)), none, none]) (.keep (.d2 .nil)) (ev_test (ev_cmpP (op := fun (x : Int) (y : Int) => (Res.ok (decide (x = y)))) (x := (Int.fmod a0 (3 : Int))) (y := (0 : Int)) (ev_cg (m := (gd (!decide ((3 : Int) = 0)) (Res.ok (Int.fmod a0 (3 : Int))))) (gd_t (by decide)) (ev_binP (op := fun (x : Int) (y : Int) => (gd (!decide (y = 0)) (Res.ok (Int.fmod x y)))) (x := a0) (y := (3 : Int)) (eI (x := a0) rfl) (ev_int 3) op_modI)) (ev_int 0) op_eqI))) (.d2 (.drop .nil)) rfl
  (b_ret (g := fun r22 => r22) (evx (x0 := ()) (wk_ev (Γ' := [some (oV (vInt a0)), none, none]) (.keep (.d2 .nil)) (ev_flat (ev_binP (op := fun (x : Int) (y : Int) => (Res.ok (x - y))) (x := (Int.fmod (Int.fdiv a0 (3 : Int)) (3 : Int))) (y := (1 : Int)) (ev_cg (m := (gd (!decide ((3 : Int) = 0)) (Res.ok (Int.fmod (Int.fdiv a0 (3 : Int)) (3 : Int))))) (gd_t (by decide)) (ev_binP (op := fun (x : Int) (y : Int) => (gd (!decide (y = 0)) (Res.ok (Int.fmod x y)))) (x := (Int.fdiv a0 (3 : Int))) (y := (3 : Int)) (ev_cg (m := (gd (divOk (3 : Int)) (Res.ok (Int.fdiv a0 (3 : Int))))) (gd_t (by decide)) (ev_binP (op := fun (x : Int) (y : Int) => (gd (divOk y) (Res.ok (Int.fdiv x y)))) (x := a0) (y := (3 : Int)) (eI (x := a0) rfl) (ev_int 3) op_divI)) (ev_int 3) op_modI)) (ev_int 1) op_subI))) (.d2 (.drop .nil))) (fun _ => Le.refl _) (fun _ => (.d2 (.drop .nil))))
  (b_ifL (m := (Res.ok (decide ((Int.fmod a0 (3 : Int)) = (1 : Int))))) (wk_evT (Γ' := [some (oV (vInt a0)), none, none]) (.keep (.d2 .nil)) (ev_test (ev_cmpP (op := fun (x : Int) (y : Int) => (Res.ok (decide (x = y)))) (x := (Int.fmod a0 (3 : Int))) (y := (1 : Int)) (ev_cg (m := (gd (!decide ((3 : Int) = 0)) (Res.ok (Int.fmod a0 (3 : Int))))) (gd_t (by decide)) (ev_binP (op := fun (x : Int) (y : Int) => (gd (!decide (y = 0)) (Res.ok (Int.fmod x y)))) (x := a0) (y := (3 : Int)) (eI (x := a0) rfl) (ev_int 3) op_modI)) (ev_int 1) op_eqI))) (.d2 (.drop .nil)) rfl
  (b_ret (g := fun r24 => r24) (evx (x0 := ()) (wk_ev (Γ' := [some (oV (vInt a0)), none, none]) (.keep (.d2 .nil)) (ev_flat (ev_binP (op := fun (x : Int) (y : Int) => (Res.ok (x - y))) (x := (Int.fmod (Int.fdiv a0 (3 : Int)) (19 : Int))) (y := (9 : Int)) (ev_cg (m := (gd (!decide ((19 : Int) = 0)) (Res.ok (Int.fmod (Int.fdiv a0 (3 : Int)) (19 : Int))))) (gd_t (by decide)) (ev_binP (op := fun (x : Int) (y : Int) => (gd (!decide (y = 0)) (Res.ok (Int.fmod x y)))) (x := (Int.fdiv a0 (3 : Int))) (y := (19 : Int)) (ev_cg (m := (gd (divOk (3 : Int)) (Res.ok (Int.fdiv a0 (3 : Int))))) (gd_t (by decide)) (ev_binP (op := fun (x : Int) (y : Int) => (gd (divOk y) (Res.ok (Int.fdiv x y)))) (x := a0) (y := (3 : Int)) (eI (x := a0) rfl) (ev_int 3) op_divI)) (ev_int 19) op_modI)) (ev_int 9) op_subI))) (.d2 (.drop .nil))) (fun _ => Le.refl _) (fun _ => (.d2 (.drop .nil))))
  (b_asg (i := 2) (evx (τ := (fun x : Int => oV (vInt x))) (wk_ev (Γ' := [none, none, none]) (.d2 (.drop .nil)) (ev_flat (ev_binP (op := fun (x : Int) (y : Int) => (gd (powB x y) (Res.ok (x ^ Int.toNat y)))) (x := (10 : Int)) (y := (6 : Int)) (ev_int 10) (ev_int 6) op_powI))) (.d2 (.drop .nil))) (fun _ => nl rfl) fun v25 =>
  (b_seq (Γ1 := fun s28 : Int => [some (oV (vInt a0)), some (oV (vInt a1)), some (oV (vInt s28))]) (b_if (m := (Res.ok (decide (a1 < (3 : Int))))) (wk_evT (Γ' := [none, some (oV (vInt a1)), none]) (.drop (.keep (.drop .nil))) (ev_test (ev_cmpP (op := fun (x : Int) (y : Int) => (Res.ok (decide (x < y)))) (x := a1) (y := (3 : Int)) (eI (x := a1) rfl) (ev_int 3) op_lt))) (.d2 (.drop .nil))
  (by exact (b_asg (i := 2) (evx (τ := (fun x : Int => oV (vInt x))) (wk_ev (Γ' := [none, none, none]) (.d2 (.drop .nil)) (ev_flat (ev_binP (op := fun (x : Int) (y : Int) => (gd (powB x y) (Res.ok (x ^ Int.toNat y)))) (x := (10 : Int)) (y := (59 : Int)) (ev_int 10) (ev_int 59) op_powI))) (.d2 (.drop .nil))) (fun _ => nl rfl) fun v27 =>
  (b_nop (.k2 (.keep .nil)))))
  (by exact (b_nop (.k2 (.keep .nil))))) fun s28 =>
  (b_ret (g := fun r34 => r34) (evx (x0 := ()) (wk_ev (Γ' := [some (oV (vInt a0)), none, some (oV (vInt s28))]) (.keep (.drop (.keep .nil))) (ev_flat (ev_binR (op := fun (x : Int) (y : Int) => (Res.ok (x - y))) (ma := (((gd (powB (1000003 : Int) (10 : Int)) (Res.ok ((1000003 : Int) ^ Int.toNat (10 : Int))) >>= fun x29 => (gd (mulB (Int.fdiv a0 (3 : Int)) x29) (Res.ok ((Int.fdiv a0 (3 : Int)) * x29)))) >>= fun x31 => (((gd (mulB (2 : Int) s28) (Res.ok ((2 : Int) * s28)) >>= fun x30 => (Res.ok (x30 + (1 : Int)))) >>= fun x32 => (gd (!decide (x32 = 0)) (Res.ok (Int.fmod x31 x32)))))))) (y := s28) (ev_bin (op := fun (x : Int) (y : Int) => (gd (!decide (y = 0)) (Res.ok (Int.fmod x y)))) (ma := ((gd (powB (1000003 : Int) (10 : Int)) (Res.ok ((1000003 : Int) ^ Int.toNat (10 : Int))) >>= fun x29 => (gd (mulB (Int.fdiv a0 (3 : Int)) x29) (Res.ok ((Int.fdiv a0 (3 : Int)) * x29)))))) (mb := ((gd (mulB (2 : Int) s28) (Res.ok ((2 : Int) * s28)) >>= fun x30 => (Res.ok (x30 + (1 : Int)))))) (ev_binL (op := fun (x : Int) (y : Int) => (gd (mulB x y) (Res.ok (x * y)))) (x := (Int.fdiv a0 (3 : Int))) (mb := (gd (powB (1000003 : Int) (10 : Int)) (Res.ok ((1000003 : Int) ^ Int.toNat (10 : Int))))) (ev_cg (m := (gd (divOk (3 : Int)) (Res.ok (Int.fdiv a0 (3 : Int))))) (gd_t (by decide)) (ev_binP (op := fun (x : Int) (y : Int) => (gd (divOk y) (Res.ok (Int.fdiv x y)))) (x := a0) (y := (3 : Int)) (eI (x := a0) rfl) (ev_int 3) op_divI)) (ev_binP (op := fun (x : Int) (y : Int) => (gd (powB x y) (Res.ok (x ^ Int.toNat y)))) (x := (1000003 : Int)) (y := (10 : Int)) (ev_int 1000003) (ev_int 10) op_powI) op_mulI) (ev_binR (op := fun (x : Int) (y : Int) => (Res.ok (x + y))) (ma := (gd (mulB (2 : Int) s28) (Res.ok ((2 : Int) * s28)))) (y := (1 : Int)) (ev_binP (op := fun (x : Int) (y : Int) => (gd (mulB x y) (Res.ok (x * y)))) (x := (2 : Int)) (y := s28) (ev_int 2) (eI (x := s28) rfl) op_mulI) (ev_int 1) op_addI) op_modI) (eI (x := s28) rfl) op_subI))) (.d2 (.drop .nil))) (fun _ => Le.refl _) (fun _ => (.d2 (.drop .nil))))))))
def f4 (a0 : Int) (a1 : Int) : Out Unit Unit Int Unit :=
  (((gd (mulB ((Int.fmod a0 (2147483647 : Int)) + (17 : Int)) a1) (Res.ok (((Int.fmod a0 (2147483647 : Int)) + (17 : Int)) * a1)) >>= fun x40 => (Res.ok (Int.fmod x40 (2147483399 : Int)))) >>= fun x42 => (Res.ok (Int.fdiv x42 (97 : Int))))).to () fun r43 => .rt r43
theorem d4 {C : Kc} (X : Kf C) : FnT C R4 (fun k : Int × Int × Unit => [vInt k.1, vInt k.2.1]) (fun x : Int => oV (vInt x)) (fun k => outR (f4 k.1 k.2.1)) :=
  fn_read (T := T4) (cs := cs) (n := 2) (N := 2) (s := b4) (fun _ => rfl) (fun _ => rfl) fun ⟨a0, a1, _⟩ =>
  (b_ret (g := fun r43 => r43) (evx (x0 := ()) (wk_ev (Γ' := [some (oV (vInt a0)), some (oV (vInt a1))]) (.k2 .nil) (ev_flat (ev_cg (m := (((gd (mulB ((Int.fmod a0 (2147483647 : Int)) + (17 : Int)) a1) (Res.ok (((Int.fmod a0 (2147483647 : Int)) + (17 : Int)) * a1)) >>= fun x40 => (Res.ok (Int.fmod x40 (2147483399 : Int)))) >>= fun x41 => (gd (divOk (97 : Int)) (Res.ok (Int.fdiv x41 (97 : Int))))))) (gdB (by decide)) (ev_binR (op := fun (x : Int) (y : Int) => (gd (divOk y) (Res.ok (Int.fdiv x y)))) (ma := ((gd (mulB ((Int.fmod a0 (2147483647 : Int)) + (17 : Int)) a1) (Res.ok (((Int.fmod a0 (2147483647 : Int)) + (17 : Int)) * a1)) >>= fun x40 => (Res.ok (Int.fmod x40 (2147483399 : Int)))))) (y := (97 : Int)) (ev_cg (m := ((gd (mulB ((Int.fmod a0 (2147483647 : Int)) + (17 : Int)) a1) (Res.ok (((Int.fmod a0 (2147483647 : Int)) + (17 : Int)) * a1)) >>= fun x39 => (gd (!decide ((2147483399 : Int) = 0)) (Res.ok (Int.fmod x39 (2147483399 : Int))))))) (gdB (by decide)) (ev_binR (op := fun (x : Int) (y : Int) => (gd (!decide (y = 0)) (Res.ok (Int.fmod x y)))) (ma := (gd (mulB ((Int.fmod a0 (2147483647 : Int)) + (17 : Int)) a1) (Res.ok (((Int.fmod a0 (2147483647 : Int)) + (17 : Int)) * a1)))) (y := (2147483399 : Int)) (ev_binP (op := fun (x : Int) (y : Int) => (gd (mulB x y) (Res.ok (x * y)))) (x := ((Int.fmod a0 (2147483647 : Int)) + (17 : Int))) (y := a1) (ev_binP (op := fun (x : Int) (y : Int) => (Res.ok (x + y))) (x := (Int.fmod a0 (2147483647 : Int))) (y := (17 : Int)) (ev_cg (m := (gd (!decide ((2147483647 : Int) = 0)) (Res.ok (Int.fmod a0 (2147483647 : Int))))) (gd_t (by decide)) (ev_binP (op := fun (x : Int) (y : Int) => (gd (!decide (y = 0)) (Res.ok (Int.fmod x y)))) (x := a0) (y := (2147483647 : Int)) (eI (x := a0) rfl) (ev_int 2147483647) op_modI)) (ev_int 17) op_addI) (eI (x := a1) rfl) op_mulI) (ev_int 2147483399) op_modI)) (ev_int 97) op_divI)))) (.d2 .nil)) (fun _ => Le.refl _) (fun _ => (.d2 .nil)))
def f1 (a0 : (List Int)) : Out Unit Unit (List (List Int)) Unit :=
  ((outR (f2 a0 (0 : Int)) >>= fun x9 => (Res.ok (Int.fmod x9 (7 : Int))))).to () fun v2 =>
  (Res.ok ([] : (List (List Int)))).to () fun v10 =>
  (Res.ok v2).to () fun n93 => gdO (rngB 0 n93) ((loopO (fun (x12 : Int) (s11 : (List (List Int))) =>
  ((Res.ok ([] : (List Int))).to () fun v13 =>
  (Res.ok v2).to () fun n57 => gdO (rngB 0 n57) ((loopO (fun (x15 : Int) (s14 : (List Int)) =>
  ((((gd (mulB v2 x12) (Res.ok (v2 * x12)) >>= fun x17 => (Res.ok ((2 : Int) + x17))) >>= fun x18 => (Res.ok (x18 + x15)))).to () fun v16 =>
  (Res.ok (decide (v16 < (a0.length : Int)))).to () fun b19 => cond b19
  (((ixR a0 v16 >>= fun x35 => (outR (f3 x35 v2)))).to () fun v20 => gdO (decide (s14.length < sizeLine))
  (.nx (s14 ++ [v20])))
  (((((outR (f2 a0 (1 : Int)) >>= fun x48 => ((((gd (mulB (2 : Int) v16) (Res.ok ((2 : Int) * v16)) >>= fun x46 => (gd (mulB x46 v16) (Res.ok (x46 * v16)))) >>= fun x47 => (Res.ok ((40014 : Int) + x47))) >>= fun x49 => (outR (f4 x48 x49))))) >>= fun x53 => (Res.ok (Int.fmod x53 (7 : Int)))) >>= fun x54 => (Res.ok (x54 - (3 : Int))))).to () fun v38 => gdO (decide (s14.length < sizeLine))
  (.nx (s14 ++ [v38]))))) (rng 0 n57) v13).then fun s14 : (List Int) =>
  (Res.ok s14).to () fun v56 => gdO (decide (s11.length < sizeLine))
  (.nx (s11 ++ [v56]))))) (rng 0 n93) v10).then fun s11 : (List (List Int)) =>
  (outR (f2 a0 (1 : Int))).to () fun v58 =>
  ((Res.ok ((decide ((0 : Int) < v2)) && (decide ((Int.fmod v58 (3 : Int)) = (1 : Int))))).to () fun b61 => cond b61
  (((outR (f4 v58 (48271 : Int)) >>= fun x65 => (gd (!decide (v2 = 0)) (Res.ok (Int.fmod x65 v2))))).to () fun v62 =>
  (((outR (f4 v58 (69621 : Int)) >>= fun x69 => (gd (!decide (v2 = 0)) (Res.ok (Int.fmod x69 v2)))) >>= fun x70 => (ixR s11 x70))).to () fun v66 =>
  (((outR (f4 v58 (40692 : Int)) >>= fun x74 => (gd (!decide (v2 = 0)) (Res.ok (Int.fmod x74 v2)))) >>= fun x75 => (ixR s11 x75))).to () fun v71 =>
  (((outR (f4 v58 (39373 : Int)) >>= fun x80 => (Res.ok (Int.fmod x80 (7 : Int)))) >>= fun x81 => (Res.ok (x81 - (3 : Int))))).to () fun v76 =>
  (gd (mulB (v76 - (2 : Int)) (if (decide ((0 : Int) < v62)) then 1 else 0)) (Res.ok ((v76 - (2 : Int)) * (if (decide ((0 : Int) < v62)) then 1 else 0)))).to () fun v82 =>
  (gd (rngB 0 v2 && decide (Int.toNat v2 ≤ sizeLine)) (lcR (fun z86 : Int => (Res.ok true)) (fun z86 : Int => (((ixR v66 z86 >>= fun x87 => (gd (mulB x87 v76) (Res.ok (x87 * v76)))) >>= fun x89 => (((ixR v71 z86 >>= fun x88 => (gd (mulB x88 v82) (Res.ok (x88 * v82)))) >>= fun x90 => (Res.ok (x89 + x90))))))) (rng 0 v2))).to () fun v84 => (Res.ok v62).to () fun k83 => (getR (setI s11 k83 v84)).to () fun l85 =>
  .nx l85)
  (.nx s11)).then fun s91 : (List (List Int)) =>
  (Res.ok s91).to () fun r92 => .rt r92)
theorem d1 {C : Kc} (X : Kf C) : FnT C R1 (fun k : (List Int) × Unit => [(vL C vInt) k.1]) (fun x : (List (List Int)) => oV ((vL C (vL C vInt)) x)) (fun k => outR (f1 k.1)) :=
  fn_read (T := T1) (cs := cs) (n := 1) (N := 12) (s := b1) (fun _ => rfl) (fun _ => rfl) fun ⟨a0, _⟩ =>
  (b_asg (i := 1) (evx (τ := (fun x : Int => oV (vInt x))) (wk_ev (Γ' := (some (oV ((vL C vInt) a0)) :: none :: (n2 (n8 [])))) (.keep (.d8 (.d2 (.drop .nil)))) (ev_flat (ev_cg (m := ((outR (f2 a0 (0 : Int)) >>= fun x8 => (gd (!decide ((7 : Int) = 0)) (Res.ok (Int.fmod x8 (7 : Int))))))) (gdB (by decide)) (ev_binR (op := fun (x : Int) (y : Int) => (gd (!decide (y = 0)) (Res.ok (Int.fmod x y)))) (ma := (outR (f2 a0 (0 : Int)))) (y := (7 : Int)) (ev_see (o := (fun x : Int => oV (vInt x))) (ev_callT (i := 2) (T := T1) (τ := (fun x : Int => oV (vInt x))) (os := fun k : (List Int) × Int × Unit => [(vL C vInt) k.1, vInt k.2.1]) (g := (fun k : (List Int) × Int × Unit => (k.1, k.2.1, ()))) (dv := []) (wd := []) (d2 (X := X)) (by decide) rfl (fun _ => .nil) (fun _ => rfl) (elv_consP (x := (a0 : (List Int))) (evB_vV (τ := (vL C vInt)) (x := a0) rfl) (elv_consP (x := ((0 : Int) : Int)) (ev_int 0) (elv_nilE (by rfl)))))) (ev_int 7) op_modI)))) (.d8 (.d4 .nil))) (fun _ => nl rfl) fun v2 =>
  (b_asg (i := 2) (evx (τ := (oL C fun x => oV ((vL C vInt) x))) (wk_ev (Γ' := (n4 (n8 []))) (.d8 (.d4 .nil)) (ev_lst (τ := (oL C fun x => oV ((vL C vInt) x))) (os := (fun _ => [])) (g := (fun _ : Unit => ([] : (List (List Int))))) elo_nil (fun _ => nl rfl) (fun _ => rfl))) (.d8 (.d4 .nil))) (fun _ => nl rfl) fun v10 =>
  (by exact (b_forR1 (j := 3) (m := (Res.ok v2)) (Γ0 := fun s11 : (List (List Int)) => (some (oV ((vL C vInt) a0)) :: some (oV (vInt v2)) :: some ((oL C fun x => oV ((vL C vInt) x)) s11) :: none :: (n8 []))) (s0 := v10) (wk_ev (Γ' := (none :: some (oV (vInt v2)) :: (n2 (n8 [])))) (.drop (.keep (.d8 (.d2 .nil)))) (eI (x := v2) rfl)) (.d8 (.d4 .nil)) (.k2 (.keep (.d8 (.drop .nil)))) (fun _ => nl rfl) (fun x12 s11 =>
  (b_asg (i := 5) (evx (τ := (oL C fun x => oV (vInt x))) (wk_ev (Γ' := (n4 (n8 []))) (.d8 (.d4 .nil)) (ev_lst (τ := (oL C fun x => oV (vInt x))) (os := (fun _ => [])) (g := (fun _ : Unit => ([] : (List Int)))) elo_nil (fun _ => nl rfl) (fun _ => rfl))) (.d8 (.d4 .nil))) (fun _ => nl rfl) fun v13 =>
  (by exact (b_forR1 (j := 6) (m := (Res.ok v2)) (Γ0 := fun s14 : (List Int) => (some (oV ((vL C vInt) a0)) :: some (oV (vInt v2)) :: some ((oL C fun x => oV ((vL C vInt) x)) s11) :: some (oV (vInt x12)) :: none :: some ((oL C fun x => oV (vInt x)) s14) :: (n2 (n4 [])))) (s0 := v13) (wk_ev (Γ' := (none :: some (oV (vInt v2)) :: (n2 (n8 [])))) (.drop (.keep (.d8 (.d2 .nil)))) (eI (x := v2) rfl)) (.d8 (.d4 .nil)) (.k4 (.drop (.keep (.d4 (.d2 .nil))))) (fun _ => nl rfl) (fun x15 s14 =>
  (b_asg (i := 7) (evx (τ := (fun x : Int => oV (vInt x))) (wk_ev (Γ' := (none :: some (oV (vInt v2)) :: none :: some (oV (vInt x12)) :: (n2 (some (oV (vInt x15)) :: none :: (n4 []))))) (.drop (.keep (.drop (.keep (.d2 (.keep (.d4 (.drop .nil)))))))) (ev_flat (ev_binR (op := fun (x : Int) (y : Int) => (Res.ok (x + y))) (ma := ((gd (mulB v2 x12) (Res.ok (v2 * x12)) >>= fun x17 => (Res.ok ((2 : Int) + x17))))) (y := x15) (ev_binL (op := fun (x : Int) (y : Int) => (Res.ok (x + y))) (x := (2 : Int)) (mb := (gd (mulB v2 x12) (Res.ok (v2 * x12)))) (ev_int 2) (ev_binP (op := fun (x : Int) (y : Int) => (gd (mulB x y) (Res.ok (x * y)))) (x := v2) (y := x12) (eI (x := v2) rfl) (eI (x := x12) rfl) op_mulI) op_addI) (eI (x := x15) rfl) op_addI))) (.d8 (.d4 .nil))) (fun _ => nl rfl) fun v16 =>
  (b_end (b_if (m := (Res.ok (decide (v16 < (a0.length : Int))))) (wk_evT (Γ' := (some (oV ((vL C vInt) a0)) :: (n2 (n4 (some (oV (vInt v16)) :: (n4 [])))))) (.keep (.d4 (.d2 (.keep (.d4 .nil))))) (ev_test (ev_cmpP (op := fun (x : Int) (y : Int) => (Res.ok (decide (x < y)))) (x := v16) (y := (a0.length : Int)) (eI (x := v16) rfl) (ev_blt1P (x := a0) (op := fun x : (List Int) => (Res.ok (x.length : Int))) (evB_vV (τ := (vL C vInt)) (x := a0) rfl) bl_lenL) op_lt))) (.d8 (.d4 .nil))
  (p_app (m := ((ixR a0 v16 >>= fun x35 => (outR (f3 x35 v2))))) (τ := (fun x : Int => oV (vInt x))) (xs := s14) (pl_v (i := 5) (τ := (oL C fun x => oV (vInt x))) (x := s14) rfl) (wk_ev (Γ' := (some (oV ((vL C vInt) a0)) :: some (oV (vInt v2)) :: none :: (n4 (some (oV (vInt v16)) :: (n4 []))))) (.k2 (.d4 (.drop (.keep (.d4 .nil))))) (ev_flat (ev_see (o := (fun x : Int => oV (vInt x))) (ev_callT (i := 3) (T := T1) (τ := (fun x : Int => oV (vInt x))) (os := fun k : Int × Int × Unit => [vInt k.1, vInt k.2.1]) (g := (fun k : Int × Int × Unit => (k.1, k.2.1, ()))) (dv := []) (wd := []) (d3 (X := X)) (by decide) rfl (fun _ => .nil) (fun _ => rfl) (elv_cons (m := (ixR a0 v16)) (ev_ixP (op := ixR) (x := a0) (y := v16) (evB_vV (τ := (vL C vInt)) (x := a0) rfl) (eI (x := v16) rfl) op_ixL) fun y36 => (elv_consP (x := (v2 : Int)) (eI (x := v2) rfl) (elv_nilE (by rfl)))))))) (Cv.wk (.d8 (.d4 .nil))) fun v20 =>
  (b_nop (.k4 (.drop (.keep (.d4 (.d2 .nil)))))))
  (p_app (m := ((((outR (f2 a0 (1 : Int)) >>= fun x48 => ((((gd (mulB (2 : Int) v16) (Res.ok ((2 : Int) * v16)) >>= fun x46 => (gd (mulB x46 v16) (Res.ok (x46 * v16)))) >>= fun x47 => (Res.ok ((40014 : Int) + x47))) >>= fun x49 => (outR (f4 x48 x49))))) >>= fun x53 => (Res.ok (Int.fmod x53 (7 : Int)))) >>= fun x54 => (Res.ok (x54 - (3 : Int)))))) (τ := (fun x : Int => oV (vInt x))) (xs := s14) (pl_v (i := 5) (τ := (oL C fun x => oV (vInt x))) (x := s14) rfl) (wk_ev (Γ' := (some (oV ((vL C vInt) a0)) :: (n2 (n4 (some (oV (vInt v16)) :: (n4 [])))))) (.keep (.d4 (.d2 (.keep (.d4 .nil))))) (ev_flat (ev_binR (op := fun (x : Int) (y : Int) => (Res.ok (x - y))) (ma := (((outR (f2 a0 (1 : Int)) >>= fun x48 => ((((gd (mulB (2 : Int) v16) (Res.ok ((2 : Int) * v16)) >>= fun x46 => (gd (mulB x46 v16) (Res.ok (x46 * v16)))) >>= fun x47 => (Res.ok ((40014 : Int) + x47))) >>= fun x49 => (outR (f4 x48 x49))))) >>= fun x53 => (Res.ok (Int.fmod x53 (7 : Int)))))) (y := (3 : Int)) (ev_cg (m := (((outR (f2 a0 (1 : Int)) >>= fun x48 => ((((gd (mulB (2 : Int) v16) (Res.ok ((2 : Int) * v16)) >>= fun x46 => (gd (mulB x46 v16) (Res.ok (x46 * v16)))) >>= fun x47 => (Res.ok ((40014 : Int) + x47))) >>= fun x49 => (outR (f4 x48 x49))))) >>= fun x52 => (gd (!decide ((7 : Int) = 0)) (Res.ok (Int.fmod x52 (7 : Int))))))) (gdB (by decide)) (ev_binR (op := fun (x : Int) (y : Int) => (gd (!decide (y = 0)) (Res.ok (Int.fmod x y)))) (ma := ((outR (f2 a0 (1 : Int)) >>= fun x48 => ((((gd (mulB (2 : Int) v16) (Res.ok ((2 : Int) * v16)) >>= fun x46 => (gd (mulB x46 v16) (Res.ok (x46 * v16)))) >>= fun x47 => (Res.ok ((40014 : Int) + x47))) >>= fun x49 => (outR (f4 x48 x49))))))) (y := (7 : Int)) (ev_see (o := (fun x : Int => oV (vInt x))) (ev_callT (i := 4) (T := T1) (τ := (fun x : Int => oV (vInt x))) (os := fun k : Int × Int × Unit => [vInt k.1, vInt k.2.1]) (g := (fun k : Int × Int × Unit => (k.1, k.2.1, ()))) (dv := []) (wd := []) (d4 (X := X)) (by decide) rfl (fun _ => .nil) (fun _ => rfl) (elv_cons (m := (outR (f2 a0 (1 : Int)))) (ev_see (o := (fun x : Int => oV (vInt x))) (ev_callT (i := 2) (T := T1) (τ := (fun x : Int => oV (vInt x))) (os := fun k : (List Int) × Int × Unit => [(vL C vInt) k.1, vInt k.2.1]) (g := (fun k : (List Int) × Int × Unit => (k.1, k.2.1, ()))) (dv := []) (wd := []) (d2 (X := X)) (by decide) rfl (fun _ => .nil) (fun _ => rfl) (elv_consP (x := (a0 : (List Int))) (evB_vV (τ := (vL C vInt)) (x := a0) rfl) (elv_consP (x := ((1 : Int) : Int)) (ev_int 1) (elv_nilE (by rfl)))))) fun y50 => (elv_cons (m := (((gd (mulB (2 : Int) v16) (Res.ok ((2 : Int) * v16)) >>= fun x46 => (gd (mulB x46 v16) (Res.ok (x46 * v16)))) >>= fun x47 => (Res.ok ((40014 : Int) + x47))))) (ev_binL (op := fun (x : Int) (y : Int) => (Res.ok (x + y))) (x := (40014 : Int)) (mb := ((gd (mulB (2 : Int) v16) (Res.ok ((2 : Int) * v16)) >>= fun x46 => (gd (mulB x46 v16) (Res.ok (x46 * v16)))))) (ev_int 40014) (ev_binR (op := fun (x : Int) (y : Int) => (gd (mulB x y) (Res.ok (x * y)))) (ma := (gd (mulB (2 : Int) v16) (Res.ok ((2 : Int) * v16)))) (y := v16) (ev_binP (op := fun (x : Int) (y : Int) => (gd (mulB x y) (Res.ok (x * y)))) (x := (2 : Int)) (y := v16) (ev_int 2) (eI (x := v16) rfl) op_mulI) (eI (x := v16) rfl) op_mulI) op_addI) fun y51 => (elv_nilE (by rfl)))))) (ev_int 7) op_modI)) (ev_int 3) op_subI))) (Cv.wk (.d8 (.d4 .nil))) fun v38 =>
  (b_nop (.k4 (.drop (.keep (.d4 (.d2 .nil))))))))))) fun s14 =>
  (p_fz (i := 5) (o := (oL C fun x => oV (vInt x))) (v := (vL C vInt)) (x := s14) rfl (p_app (m := (Res.ok s14)) (τ := (fun x : (List Int) => oV ((vL C vInt) x))) (xs := s11) (pl_v (i := 2) (τ := (oL C fun x => oV ((vL C vInt) x))) (x := s11) rfl) (wk_ev (Γ' := (none :: (n4 (some (oV ((vL C vInt) s14)) :: (n2 (n4 [])))))) (.d4 (.drop (.keep (.d4 (.d2 .nil))))) (evO_v (τ := (vL C vInt)) (x := s14) rfl)) (Cv.wk (.d8 (.d4 .nil))) fun v56 =>
  (b_nop (.k2 (.keep (.d8 (.drop .nil))))))))))) fun s11 =>
  (b_asg (i := 4) (evx (τ := (fun x : Int => oV (vInt x))) (wk_ev (Γ' := (some (oV ((vL C vInt) a0)) :: none :: (n2 (n8 [])))) (.keep (.d8 (.d2 (.drop .nil)))) (ev_flat (ev_see (o := (fun x : Int => oV (vInt x))) (ev_callT (i := 2) (T := T1) (τ := (fun x : Int => oV (vInt x))) (os := fun k : (List Int) × Int × Unit => [(vL C vInt) k.1, vInt k.2.1]) (g := (fun k : (List Int) × Int × Unit => (k.1, k.2.1, ()))) (dv := []) (wd := []) (d2 (X := X)) (by decide) rfl (fun _ => .nil) (fun _ => rfl) (elv_consP (x := (a0 : (List Int))) (evB_vV (τ := (vL C vInt)) (x := a0) rfl) (elv_consP (x := ((1 : Int) : Int)) (ev_int 1) (elv_nilE (by rfl)))))))) (.d8 (.d4 .nil))) (fun _ => nl rfl) fun v58 =>
  (b_seq (Γ1 := fun s91 : (List (List Int)) => (some (oV ((vL C vInt) a0)) :: some (oV (vInt v2)) :: some ((oL C fun x => oV ((vL C vInt) x)) s91) :: none :: some (oV (vInt v58)) :: none :: (n2 (n4 [])))) (b_if (m := (Res.ok ((decide ((0 : Int) < v2)) && (decide ((Int.fmod v58 (3 : Int)) = (1 : Int)))))) (wk_evT (Γ' := (none :: some (oV (vInt v2)) :: (n2 (some (oV (vInt v58)) :: none :: (n2 (n4 [])))))) (.drop (.keep (.d2 (.keep (.d4 (.d2 (.drop .nil))))))) (ev_andT (ev_a2p (x := (decide ((0 : Int) < v2))) (y := (decide ((Int.fmod v58 (3 : Int)) = (1 : Int)))) (ev_test (ev_cmpP (op := fun (x : Int) (y : Int) => (Res.ok (decide (y < x)))) (x := v2) (y := (0 : Int)) (eI (x := v2) rfl) (ev_int 0) op_gt)) (ev_a1 (m := (Res.ok (decide ((Int.fmod v58 (3 : Int)) = (1 : Int))))) (ev_test (ev_cmpP (op := fun (x : Int) (y : Int) => (Res.ok (decide (x = y)))) (x := (Int.fmod v58 (3 : Int))) (y := (1 : Int)) (ev_cg (m := (gd (!decide ((3 : Int) = 0)) (Res.ok (Int.fmod v58 (3 : Int))))) (gd_t (by decide)) (ev_binP (op := fun (x : Int) (y : Int) => (gd (!decide (y = 0)) (Res.ok (Int.fmod x y)))) (x := v58) (y := (3 : Int)) (eI (x := v58) rfl) (ev_int 3) op_modI)) (ev_int 1) op_eqI)))))) (.d8 (.d4 .nil))
  (by exact (b_asg (i := 7) (evx (τ := (fun x : Int => oV (vInt x))) (wk_ev (Γ' := (none :: some (oV (vInt v2)) :: (n2 (some (oV (vInt v58)) :: none :: (n2 (n4 [])))))) (.drop (.keep (.d2 (.keep (.d4 (.d2 (.drop .nil))))))) (ev_flat (ev_binR (op := fun (x : Int) (y : Int) => (gd (!decide (y = 0)) (Res.ok (Int.fmod x y)))) (ma := (outR (f4 v58 (48271 : Int)))) (y := v2) (ev_see (o := (fun x : Int => oV (vInt x))) (ev_callT (i := 4) (T := T1) (τ := (fun x : Int => oV (vInt x))) (os := fun k : Int × Int × Unit => [vInt k.1, vInt k.2.1]) (g := (fun k : Int × Int × Unit => (k.1, k.2.1, ()))) (dv := []) (wd := []) (d4 (X := X)) (by decide) rfl (fun _ => .nil) (fun _ => rfl) (elv_consP (x := (v58 : Int)) (eI (x := v58) rfl) (elv_consP (x := ((48271 : Int) : Int)) (ev_int 48271) (elv_nilE (by rfl)))))) (eI (x := v2) rfl) op_modI))) (.d8 (.d4 .nil))) (fun _ => nl rfl) fun v62 =>
  (b_asg (i := 8) (evx (τ := (fun x : (List Int) => oV ((vL C vInt) x))) (ev_take (evP_ixL (x := s11) (mb := ((outR (f4 v58 (69621 : Int)) >>= fun x69 => (gd (!decide (v2 = 0)) (Res.ok (Int.fmod x69 v2)))))) (τ := (fun x : (List Int) => oV ((vL C vInt) x))) (evP_v (τ := (oL C fun x => oV ((vL C vInt) x))) (x := s11) rfl) (wk_ev (Γ' := (none :: some (oV (vInt v2)) :: (n2 (some (oV (vInt v58)) :: none :: (n2 (n4 [])))))) (.drop (.keep (.d2 (.keep (.d4 (.d2 (.drop .nil))))))) (ev_binR (op := fun (x : Int) (y : Int) => (gd (!decide (y = 0)) (Res.ok (Int.fmod x y)))) (ma := (outR (f4 v58 (69621 : Int)))) (y := v2) (ev_see (o := (fun x : Int => oV (vInt x))) (ev_callT (i := 4) (T := T1) (τ := (fun x : Int => oV (vInt x))) (os := fun k : Int × Int × Unit => [vInt k.1, vInt k.2.1]) (g := (fun k : Int × Int × Unit => (k.1, k.2.1, ()))) (dv := []) (wd := []) (d4 (X := X)) (by decide) rfl (fun _ => .nil) (fun _ => rfl) (elv_consP (x := (v58 : Int)) (eI (x := v58) rfl) (elv_consP (x := ((69621 : Int) : Int)) (ev_int 69621) (elv_nilE (by rfl)))))) (eI (x := v2) rfl) op_modI)))) (.d8 (.d4 .nil))) (fun _ => nl rfl) fun v66 =>
  (b_asg (i := 9) (evx (τ := (fun x : (List Int) => oV ((vL C vInt) x))) (ev_take (evP_ixL (x := s11) (mb := ((outR (f4 v58 (40692 : Int)) >>= fun x74 => (gd (!decide (v2 = 0)) (Res.ok (Int.fmod x74 v2)))))) (τ := (fun x : (List Int) => oV ((vL C vInt) x))) (evP_v (τ := (oL C fun x => oV ((vL C vInt) x))) (x := s11) rfl) (wk_ev (Γ' := (none :: some (oV (vInt v2)) :: (n2 (some (oV (vInt v58)) :: none :: (n2 (n4 [])))))) (.drop (.keep (.d2 (.keep (.d4 (.d2 (.drop .nil))))))) (ev_binR (op := fun (x : Int) (y : Int) => (gd (!decide (y = 0)) (Res.ok (Int.fmod x y)))) (ma := (outR (f4 v58 (40692 : Int)))) (y := v2) (ev_see (o := (fun x : Int => oV (vInt x))) (ev_callT (i := 4) (T := T1) (τ := (fun x : Int => oV (vInt x))) (os := fun k : Int × Int × Unit => [vInt k.1, vInt k.2.1]) (g := (fun k : Int × Int × Unit => (k.1, k.2.1, ()))) (dv := []) (wd := []) (d4 (X := X)) (by decide) rfl (fun _ => .nil) (fun _ => rfl) (elv_consP (x := (v58 : Int)) (eI (x := v58) rfl) (elv_consP (x := ((40692 : Int) : Int)) (ev_int 40692) (elv_nilE (by rfl)))))) (eI (x := v2) rfl) op_modI)))) (.d8 (.d4 .nil))) (fun _ => nl rfl) fun v71 =>
  (b_asg (i := 10) (evx (τ := (fun x : Int => oV (vInt x))) (wk_ev (Γ' := (n4 (some (oV (vInt v58)) :: none :: (n2 (n4 []))))) (.d4 (.keep (.d4 (.d2 (.drop .nil))))) (ev_flat (ev_binR (op := fun (x : Int) (y : Int) => (Res.ok (x - y))) (ma := ((outR (f4 v58 (39373 : Int)) >>= fun x80 => (Res.ok (Int.fmod x80 (7 : Int)))))) (y := (3 : Int)) (ev_cg (m := ((outR (f4 v58 (39373 : Int)) >>= fun x79 => (gd (!decide ((7 : Int) = 0)) (Res.ok (Int.fmod x79 (7 : Int))))))) (gdB (by decide)) (ev_binR (op := fun (x : Int) (y : Int) => (gd (!decide (y = 0)) (Res.ok (Int.fmod x y)))) (ma := (outR (f4 v58 (39373 : Int)))) (y := (7 : Int)) (ev_see (o := (fun x : Int => oV (vInt x))) (ev_callT (i := 4) (T := T1) (τ := (fun x : Int => oV (vInt x))) (os := fun k : Int × Int × Unit => [vInt k.1, vInt k.2.1]) (g := (fun k : Int × Int × Unit => (k.1, k.2.1, ()))) (dv := []) (wd := []) (d4 (X := X)) (by decide) rfl (fun _ => .nil) (fun _ => rfl) (elv_consP (x := (v58 : Int)) (eI (x := v58) rfl) (elv_consP (x := ((39373 : Int) : Int)) (ev_int 39373) (elv_nilE (by rfl)))))) (ev_int 7) op_modI)) (ev_int 3) op_subI))) (.d8 (.d4 .nil))) (fun _ => nl rfl) fun v76 =>
  (b_asg (i := 11) (evx (τ := (fun x : Int => oV (vInt x))) (wk_ev (Γ' := (none :: (n2 (n4 (some (oV (vInt v62)) :: (n2 [some (oV (vInt v76)), none])))))) (.d4 (.d2 (.drop (.keep (.d2 (.keep (.drop .nil))))))) (ev_flat (ev_binP (op := fun (x : Int) (y : Int) => (gd (mulB x y) (Res.ok (x * y)))) (x := (v76 - (2 : Int))) (y := (if (decide ((0 : Int) < v62)) then 1 else 0)) (ev_binP (op := fun (x : Int) (y : Int) => (Res.ok (x - y))) (x := v76) (y := (2 : Int)) (eI (x := v76) rfl) (ev_int 2) op_subI) (ev_blt1P (x := (decide ((0 : Int) < v62))) (op := fun x : Bool => (Res.ok (if x then 1 else 0))) (ev_cmpP (op := fun (x : Int) (y : Int) => (Res.ok (decide (y < x)))) (x := v62) (y := (0 : Int)) (eI (x := v62) rfl) (ev_int 0) op_gt) bl_intB) op_mulI))) (.d8 (.d4 .nil))) (fun _ => nl rfl) fun v82 =>
  (p_setl (mi := (Res.ok v62)) (m := (gd (rngB 0 v2 && decide (Int.toNat v2 ≤ sizeLine)) (lcR (fun z86 : Int => (Res.ok true)) (fun z86 : Int => (((ixR v66 z86 >>= fun x87 => (gd (mulB x87 v76) (Res.ok (x87 * v76)))) >>= fun x89 => (((ixR v71 z86 >>= fun x88 => (gd (mulB x88 v82) (Res.ok (x88 * v82)))) >>= fun x90 => (Res.ok (x89 + x90))))))) (rng 0 v2)))) (τ := (fun x : (List Int) => oV ((vL C vInt) x))) (xs := s11) (pl_v (i := 2) (τ := (oL C fun x => oV ((vL C vInt) x))) (x := s11) rfl) (wk_ev (Γ' := (none :: (n2 (n4 (some (oV (vInt v62)) :: (n4 [])))))) (.d4 (.d2 (.drop (.keep (.d4 .nil))))) (eI (x := v62) rfl)) (wk_ev (Γ' := (none :: some (oV (vInt v2)) :: (n2 (n4 [some (oV ((vL C vInt) v66)), some (oV ((vL C vInt) v71)), some (oV (vInt v76)), some (oV (vInt v82))])))) (.drop (.keep (.d4 (.d2 (.k4 .nil))))) (ev_fz (o := (oL C fun x => oV (vInt x))) (ev_lcR1P (n := v2) (ε := (fun x : Int => oV (vInt x))) (c := fun z86 : Int => (Res.ok true)) (f := fun z86 : Int => (((ixR v66 z86 >>= fun x87 => (gd (mulB x87 v76) (Res.ok (x87 * v76)))) >>= fun x89 => (((ixR v71 z86 >>= fun x88 => (gd (mulB x88 v82) (Res.ok (x88 * v82)))) >>= fun x90 => (Res.ok (x89 + x90))))))) (eI (x := v2) rfl) (fun z86 => eps_nil) (fun z86 => (ev_flat (ev_bin (op := fun (x : Int) (y : Int) => (Res.ok (x + y))) (ma := ((ixR v66 z86 >>= fun x87 => (gd (mulB x87 v76) (Res.ok (x87 * v76)))))) (mb := ((ixR v71 z86 >>= fun x88 => (gd (mulB x88 v82) (Res.ok (x88 * v82)))))) (ev_binR (op := fun (x : Int) (y : Int) => (gd (mulB x y) (Res.ok (x * y)))) (ma := (ixR v66 z86)) (y := v76) (ev_ixP (op := ixR) (x := v66) (y := z86) (evB_vV (τ := (vL C vInt)) (x := v66) rfl) (eI (x := z86) rfl) op_ixL) (eI (x := v76) rfl) op_mulI) (ev_binR (op := fun (x : Int) (y : Int) => (gd (mulB x y) (Res.ok (x * y)))) (ma := (ixR v71 z86)) (y := v82) (ev_ixP (op := ixR) (x := v71) (y := z86) (evB_vV (τ := (vL C vInt)) (x := v71) rfl) (eI (x := z86) rfl) op_ixL) (eI (x := v82) rfl) op_mulI) op_addI)))))) (Cv.wk (.d8 (.d4 .nil))) fun l85 =>
  (b_nop (.k2 (.keep (.drop (.keep (.d4 (.d2 (.drop .nil)))))))))))))))
  (by exact (b_nop (.k2 (.keep (.drop (.keep (.d4 (.d2 (.drop .nil)))))))))) fun s91 =>
  (p_fz (i := 2) (o := (oL C fun x => oV ((vL C vInt) x))) (v := (vL C (vL C vInt))) (x := s91) rfl (b_ret (g := fun r92 => r92) (evx (x0 := ()) (wk_ev (Γ' := (n2 (some (oV ((vL C (vL C vInt)) s91)) :: none :: (n8 [])))) (.d2 (.keep (.d8 (.drop .nil)))) (evO_v (τ := (vL C (vL C vInt))) (x := s91) rfl)) (.d8 (.d4 .nil))) (fun _ => Le.refl _) (fun _ => (.d8 (.d4 .nil)))))))))))
def f6 (a0 : (List (List Int))) : Out Unit Unit (List (List Int)) Unit :=
  (Res.ok (a0.length : Int)).to () fun v102 =>
  (Res.ok ([] : (List (List Int)))).to () fun v103 =>
  (Res.ok v102).to () fun n111 => gdO (rngB 0 n111) ((loopO (fun (x105 : Int) (s104 : (List (List Int))) =>
  ((((ixR a0 x105 >>= fun x107 => (Res.ok x107)) >>= fun x109 => ((gd (rngB 0 v102 && decide (Int.toNat v102 ≤ sizeLine)) (lcR (fun z108 : Int => (Res.ok true)) (fun z108 : Int => (Res.ok (if (decide (z108 = x105)) then 1 else 0))) (rng 0 v102)) >>= fun x110 => (gd (decide (x109.length + x110.length ≤ sizeLine)) (Res.ok (x109 ++ x110))))))).to () fun v106 => gdO (decide (s104.length < sizeLine))
  (.nx (s104 ++ [v106])))) (rng 0 n111) v103).then fun s104 : (List (List Int)) =>
  .rt s104)
theorem d6 {C : Kc} (X : Kf C) : FnT C R6 (fun k : (List (List Int)) × Unit => [(vL C (vL C vInt)) k.1]) (oL C fun x => oV ((vL C vInt) x)) (fun k => outR (f6 k.1)) :=
  fn_read (T := T6) (cs := cs) (n := 1) (N := 5) (s := b6) (fun _ => rfl) (fun _ => rfl) fun ⟨a0, _⟩ =>
  (b_asg (i := 1) (evx (τ := (fun x : Int => oV (vInt x))) (wk_ev (Γ' := (some (oV ((vL C (vL C vInt)) a0)) :: (n4 []))) (.keep (.d4 .nil)) (ev_flat (ev_blt1P (x := a0) (op := fun x : (List (List Int)) => (Res.ok (x.length : Int))) (evB_vV (τ := (vL C (vL C vInt))) (x := a0) rfl) bl_lenL))) (.d4 (.drop .nil))) (fun _ => nl rfl) fun v102 =>
  (b_asg (i := 2) (evx (τ := (oL C fun x => oV ((vL C vInt) x))) (wk_ev (Γ' := (none :: (n4 []))) (.d4 (.drop .nil)) (ev_lst (τ := (oL C fun x => oV ((vL C vInt) x))) (os := (fun _ => [])) (g := (fun _ : Unit => ([] : (List (List Int))))) elo_nil (fun _ => nl rfl) (fun _ => rfl))) (.d4 (.drop .nil))) (fun _ => nl rfl) fun v103 =>
  (by exact (b_forR1 (j := 3) (m := (Res.ok v102)) (Γ0 := fun s104 : (List (List Int)) => [some (oV ((vL C (vL C vInt)) a0)), some (oV (vInt v102)), some ((oL C fun x => oV ((vL C vInt) x)) s104), none, none]) (s0 := v103) (wk_ev (Γ' := [none, some (oV (vInt v102)), none, none, none]) (.drop (.keep (.d2 (.drop .nil)))) (eI (x := v102) rfl)) (.d4 (.drop .nil)) (.k2 (.keep (.d2 .nil))) (fun _ => nl rfl) (fun x105 s104 =>
  (p_app (m := (((ixR a0 x105 >>= fun x107 => (Res.ok x107)) >>= fun x109 => ((gd (rngB 0 v102 && decide (Int.toNat v102 ≤ sizeLine)) (lcR (fun z108 : Int => (Res.ok true)) (fun z108 : Int => (Res.ok (if (decide (z108 = x105)) then 1 else 0))) (rng 0 v102)) >>= fun x110 => (gd (decide (x109.length + x110.length ≤ sizeLine)) (Res.ok (x109 ++ x110)))))))) (τ := (fun x : (List Int) => oV ((vL C vInt) x))) (xs := s104) (pl_v (i := 2) (τ := (oL C fun x => oV ((vL C vInt) x))) (x := s104) rfl) (wk_ev (Γ' := [some (oV ((vL C (vL C vInt)) a0)), some (oV (vInt v102)), none, some (oV (vInt x105)), none]) (.k2 (.drop (.keep (.drop .nil)))) (ev_fz (o := (oL C fun x => oV (vInt x))) (ev_cat (ma := ((ixR a0 x105 >>= fun x107 => (Res.ok x107)))) (mb := (gd (rngB 0 v102 && decide (Int.toNat v102 ≤ sizeLine)) (lcR (fun z108 : Int => (Res.ok true)) (fun z108 : Int => (Res.ok (if (decide (z108 = x105)) then 1 else 0))) (rng 0 v102)))) (ev_fz (o := (oL C fun x => oV (vInt x))) (ev_blt1 (ma := (ixR a0 x105)) (op := fun x => Res.ok x) (ev_ixP (op := ixR) (x := a0) (y := x105) (evB_vV (τ := (vL C (vL C vInt))) (x := a0) rfl) (eI (x := x105) rfl) op_ixL) bl_list)) (ev_fz (o := (oL C fun x => oV (vInt x))) (ev_lcR1P (n := v102) (ε := (fun x : Int => oV (vInt x))) (c := fun z108 : Int => (Res.ok true)) (f := fun z108 : Int => (Res.ok (if (decide (z108 = x105)) then 1 else 0))) (eI (x := v102) rfl) (fun z108 => eps_nil) (fun z108 => (ev_flat (ev_blt1P (x := (decide (z108 = x105))) (op := fun x : Bool => (Res.ok (if x then 1 else 0))) (ev_cmpP (op := fun (x : Int) (y : Int) => (Res.ok (decide (x = y)))) (x := z108) (y := x105) (eI (x := z108) rfl) (eI (x := x105) rfl) op_eqI) bl_intB)))))))) (Cv.wk (.d4 (.drop .nil))) fun v106 =>
  (b_nop (.k2 (.keep (.d2 .nil)))))) fun s104 =>
  (b_ret (g := fun _ : Unit => s104) (evx_mv (i := 2) rfl) (fun _ => Le.refl _) (fun _ => (.d4 (.drop .nil))))))))
def f10 (a0 : Int) (a1 : Int) : Out Unit Unit Int Unit :=
  (Res.ok (if a0 < 0 then -a0 else a0)).to () fun v141 =>
  (Res.ok (if a1 < 0 then -a1 else a1)).to () fun v142 =>
  (whileO () (fun s143 : Int × Int => (Res.ok (!decide (s143.2 = (0 : Int))))) (fun s143 : Int × Int =>
  ((gd (!decide (s143.2 = 0)) (Res.ok (Int.fmod s143.1 s143.2))).to () fun v144 =>
  (Res.ok s143.2).to () fun v145 =>
  (Res.ok v144).to () fun v146 =>
  .nx (v145, v146))) 60000 (v141, v142)).then fun s143 : Int × Int =>
  (Res.ok s143.1).to () fun r147 => .rt r147
theorem d10 {C : Kc} (X : Kf C) : FnT C R10 (fun k : Int × Int × Unit => [vInt k.1, vInt k.2.1]) (fun x : Int => oV (vInt x)) (fun k => outR (f10 k.1 k.2.1)) :=
  fn_read (T := T10) (cs := cs) (n := 2) (N := 3) (s := b10) (fun _ => rfl) (fun _ => rfl) fun ⟨a0, a1, _⟩ =>
  (b_asg (i := 0) (evx (τ := (fun x : Int => oV (vInt x))) (wk_ev (Γ' := [some (oV (vInt a0)), none, none]) (.keep (.d2 .nil)) (ev_flat (ev_blt1P (x := a0) (op := fun x : Int => (Res.ok (if x < 0 then -x else x))) (eI (x := a0) rfl) bl_abs))) (.d2 (.drop .nil))) (fun _ => nl rfl) fun v141 =>
  (b_asg (i := 1) (evx (τ := (fun x : Int => oV (vInt x))) (wk_ev (Γ' := [none, some (oV (vInt a1)), none]) (.drop (.keep (.drop .nil))) (ev_flat (ev_blt1P (x := a1) (op := fun x : Int => (Res.ok (if x < 0 then -x else x))) (eI (x := a1) rfl) bl_abs))) (.d2 (.drop .nil))) (fun _ => nl rfl) fun v142 =>
  (b_whl (Γ0 := fun s143 : Int × Int => [some (oV (vInt s143.1)), some (oV (vInt s143.2)), none]) (s0 := (v141, v142)) 60000 (.k2 (.drop .nil)) (fun s143 => (wk_evT (Γ' := [none, some (oV (vInt s143.2)), none]) (.drop (.keep (.drop .nil))) (ev_test (ev_cmpP (op := fun (x : Int) (y : Int) => (Res.ok (!decide (x = y)))) (x := s143.2) (y := (0 : Int)) (eI (x := s143.2) rfl) (ev_int 0) op_neI)))) (fun s143 => (.d2 (.drop .nil))) (fun s143 =>
  (b_asg (i := 2) (evx (τ := (fun x : Int => oV (vInt x))) (wk_ev (Γ' := [some (oV (vInt s143.1)), some (oV (vInt s143.2)), none]) (.k2 (.drop .nil)) (ev_flat (ev_binP (op := fun (x : Int) (y : Int) => (gd (!decide (y = 0)) (Res.ok (Int.fmod x y)))) (x := s143.1) (y := s143.2) (eI (x := s143.1) rfl) (eI (x := s143.2) rfl) op_modI))) (.d2 (.drop .nil))) (fun _ => nl rfl) fun v144 =>
  (b_asg (i := 0) (evx (τ := (fun x : Int => oV (vInt x))) (wk_ev (Γ' := [none, some (oV (vInt s143.2)), none]) (.drop (.keep (.drop .nil))) (ev_flat (eI (x := s143.2) rfl))) (.d2 (.drop .nil))) (fun _ => nl rfl) fun v145 =>
  (b_asg (i := 1) (evx (τ := (fun x : Int => oV (vInt x))) (wk_ev (Γ' := [none, none, some (oV (vInt v144))]) (.d2 (.keep .nil)) (ev_flat (eI (x := v144) rfl))) (.d2 (.drop .nil))) (fun _ => nl rfl) fun v146 =>
  (b_nop (.k2 (.drop .nil))))))) fun s143 =>
  (b_ret (g := fun r147 => r147) (evx (x0 := ()) (wk_ev (Γ' := [some (oV (vInt s143.1)), none, none]) (.keep (.d2 .nil)) (ev_flat (eI (x := s143.1) rfl))) (.d2 (.drop .nil))) (fun _ => Le.refl _) (fun _ => (.d2 (.drop .nil)))))))
def f9 (a0 : (List Int)) : Out Unit Unit (List Int) Unit :=
  (Res.ok (0 : Int)).to () fun v136 =>
  (Res.ok a0).to () fun l139 => (loopO (fun (x138 : Int) (s137 : Int) =>
  ((outR (f10 s137 x138)).to () fun v140 =>
  .nx v140)) l139 v136).then fun s137 : Int =>
  (Res.ok (decide (s137 = (0 : Int)))).to () fun b150 => cond b150
  ((Res.ok a0).to () fun r151 => .rt r151)
  ((gd (decide (a0.length ≤ sizeLine)) (lcR (fun z152 : Int => (Res.ok true)) (fun z152 : Int => (gd (divOk s137) (Res.ok (Int.fdiv z152 s137)))) a0)).to () fun r153 => .rt r153)
theorem d9 {C : Kc} (X : Kf C) : FnT C R9 (fun k : (List Int) × Unit => [(vL C vInt) k.1]) (fun x : (List Int) => oV ((vL C vInt) x)) (fun k => outR (f9 k.1)) :=
  fn_read (T := T9) (cs := cs) (n := 1) (N := 3) (s := b9) (fun _ => rfl) (fun _ => rfl) fun ⟨a0, _⟩ =>
  (b_asg (i := 1) (evx (τ := (fun x : Int => oV (vInt x))) (wk_ev (Γ' := [none, none, none]) (.d2 (.drop .nil)) (ev_flat (ev_int 0))) (.d2 (.drop .nil))) (fun _ => nl rfl) fun v136 =>
  (b_forL (j := 2) (m := (Res.ok a0)) (τ := vInt) (Γ0 := fun s137 : Int => [some (oV ((vL C vInt) a0)), some (oV (vInt s137)), none]) (s0 := v136) (wk_ev (Γ' := [some (oV ((vL C vInt) a0)), none, none]) (.keep (.d2 .nil)) (evO_v (τ := (vL C vInt)) (x := a0) rfl)) (.d2 (.drop .nil)) (.k2 (.drop .nil)) (fun _ => nl rfl) (fun x138 s137 =>
  (b_asg (i := 1) (evx (τ := (fun x : Int => oV (vInt x))) (wk_ev (Γ' := [none, some (oV (vInt s137)), some (oV (vInt x138))]) (.drop (.k2 .nil)) (ev_flat (ev_see (o := (fun x : Int => oV (vInt x))) (ev_callT (i := 10) (T := T9) (τ := (fun x : Int => oV (vInt x))) (os := fun k : Int × Int × Unit => [vInt k.1, vInt k.2.1]) (g := (fun k : Int × Int × Unit => (k.1, k.2.1, ()))) (dv := []) (wd := []) (d10 (X := X)) (by decide) rfl (fun _ => .nil) (fun _ => rfl) (elv_consP (x := (s137 : Int)) (eI (x := s137) rfl) (elv_consP (x := (x138 : Int)) (eI (x := x138) rfl) (elv_nilE (by rfl)))))))) (.d2 (.drop .nil))) (fun _ => nl rfl) fun v140 =>
  (b_nop (.k2 (.drop .nil))))) fun s137 =>
  (b_ifL (m := (Res.ok (decide (s137 = (0 : Int))))) (wk_evT (Γ' := [none, some (oV (vInt s137)), none]) (.drop (.keep (.drop .nil))) (ev_test (ev_cmpP (op := fun (x : Int) (y : Int) => (Res.ok (decide (x = y)))) (x := s137) (y := (0 : Int)) (eI (x := s137) rfl) (ev_int 0) op_eqI))) (.d2 (.drop .nil)) rfl
  (b_ret (g := fun r151 => r151) (evx (x0 := ()) (wk_ev (Γ' := [some (oV ((vL C vInt) a0)), none, none]) (.keep (.d2 .nil)) (ev_fz (o := (oL C fun x => oV (vInt x))) (ev_blt1P (x := a0) (op := fun x => Res.ok x) (evB_vV (τ := (vL C vInt)) (x := a0) rfl) bl_list))) (.d2 (.drop .nil))) (fun _ => Le.refl _) (fun _ => (.d2 (.drop .nil))))
  (b_ret (g := fun r153 => r153) (evx (x0 := ()) (wk_ev (Γ' := [some (oV ((vL C vInt) a0)), some (oV (vInt s137)), none]) (.k2 (.drop .nil)) (ev_fz (o := (oL C fun x => oV (vInt x))) (ev_lcP (xs := a0) (τ := vInt) (ε := (fun x : Int => oV (vInt x))) (c := fun z152 : Int => (Res.ok true)) (f := fun z152 : Int => (gd (divOk s137) (Res.ok (Int.fdiv z152 s137)))) (evO_v (τ := (vL C vInt)) (x := a0) rfl) (fun z152 => eps_nil) (fun z152 => (ev_flat (ev_binP (op := fun (x : Int) (y : Int) => (gd (divOk y) (Res.ok (Int.fdiv x y)))) (x := z152) (y := s137) (eI (x := z152) rfl) (eI (x := s137) rfl) op_divI)))))) (.d2 (.drop .nil))) (fun _ => Le.refl _) (fun _ => (.d2 (.drop .nil)))))))
def f8 (a0 : (List Int)) (a1 : (List Int)) (a2 : Int) : Out Unit Unit (List Int) Unit :=
  ((gd (rngB 0 (a0.length : Int) && decide (Int.toNat (a0.length : Int) ≤ sizeLine)) (lcR (fun z154 : Int => (Res.ok true)) (fun z154 : Int => (((ixR a0 z154 >>= fun x155 => ((ixR a1 a2 >>= fun x156 => (gd (mulB x155 x156) (Res.ok (x155 * x156)))))) >>= fun x159 => (((ixR a1 z154 >>= fun x157 => ((ixR a0 a2 >>= fun x158 => (gd (mulB x157 x158) (Res.ok (x157 * x158)))))) >>= fun x160 => (Res.ok (x159 - x160))))))) (rng 0 (a0.length : Int))) >>= fun x161 => (outR (f9 x161)))).to () fun r163 => .rt r163
theorem d8 {C : Kc} (X : Kf C) : FnT C R8 (fun k : (List Int) × (List Int) × Int × Unit => [(vL C vInt) k.1, (vL C vInt) k.2.1, vInt k.2.2.1]) (fun x : (List Int) => oV ((vL C vInt) x)) (fun k => outR (f8 k.1 k.2.1 k.2.2.1)) :=
  fn_read (T := T8) (cs := cs) (n := 3) (N := 4) (s := b8) (fun _ => rfl) (fun _ => rfl) fun ⟨a0, a1, a2, _⟩ =>
  (b_ret (g := fun r163 => r163) (evx (x0 := ()) (wk_ev (Γ' := [some (oV ((vL C vInt) a0)), some (oV ((vL C vInt) a1)), some (oV (vInt a2)), none]) (.k2 (.keep (.drop .nil))) (ev_callF (i := 9) (T := T8) (τ := (fun x : (List Int) => oV ((vL C vInt) x))) (os := fun k : (List Int) × Unit => [(vL C vInt) k.1]) (g := (fun k : (List Int) × Unit => (k.1, ()))) (dv := []) (wd := []) (d9 (X := X)) (by decide) rfl (fun _ => .nil) (fun _ => rfl) (elo_cons (m := (gd (rngB 0 (a0.length : Int) && decide (Int.toNat (a0.length : Int) ≤ sizeLine)) (lcR (fun z154 : Int => (Res.ok true)) (fun z154 : Int => (((ixR a0 z154 >>= fun x155 => ((ixR a1 a2 >>= fun x156 => (gd (mulB x155 x156) (Res.ok (x155 * x156)))))) >>= fun x159 => (((ixR a1 z154 >>= fun x157 => ((ixR a0 a2 >>= fun x158 => (gd (mulB x157 x158) (Res.ok (x157 * x158)))))) >>= fun x160 => (Res.ok (x159 - x160))))))) (rng 0 (a0.length : Int))))) (ev_fz (o := (oL C fun x => oV (vInt x))) (ev_lcR1P (n := (a0.length : Int)) (ε := (fun x : Int => oV (vInt x))) (c := fun z154 : Int => (Res.ok true)) (f := fun z154 : Int => (((ixR a0 z154 >>= fun x155 => ((ixR a1 a2 >>= fun x156 => (gd (mulB x155 x156) (Res.ok (x155 * x156)))))) >>= fun x159 => (((ixR a1 z154 >>= fun x157 => ((ixR a0 a2 >>= fun x158 => (gd (mulB x157 x158) (Res.ok (x157 * x158)))))) >>= fun x160 => (Res.ok (x159 - x160))))))) (ev_blt1P (x := a0) (op := fun x : (List Int) => (Res.ok (x.length : Int))) (evB_vV (τ := (vL C vInt)) (x := a0) rfl) bl_lenL) (fun z154 => eps_nil) (fun z154 => (ev_flat (ev_bin (op := fun (x : Int) (y : Int) => (Res.ok (x - y))) (ma := ((ixR a0 z154 >>= fun x155 => ((ixR a1 a2 >>= fun x156 => (gd (mulB x155 x156) (Res.ok (x155 * x156)))))))) (mb := ((ixR a1 z154 >>= fun x157 => ((ixR a0 a2 >>= fun x158 => (gd (mulB x157 x158) (Res.ok (x157 * x158)))))))) (ev_bin (op := fun (x : Int) (y : Int) => (gd (mulB x y) (Res.ok (x * y)))) (ma := (ixR a0 z154)) (mb := (ixR a1 a2)) (ev_ixP (op := ixR) (x := a0) (y := z154) (evB_vV (τ := (vL C vInt)) (x := a0) rfl) (eI (x := z154) rfl) op_ixL) (ev_ixP (op := ixR) (x := a1) (y := a2) (evB_vV (τ := (vL C vInt)) (x := a1) rfl) (eI (x := a2) rfl) op_ixL) op_mulI) (ev_bin (op := fun (x : Int) (y : Int) => (gd (mulB x y) (Res.ok (x * y)))) (ma := (ixR a1 z154)) (mb := (ixR a0 a2)) (ev_ixP (op := ixR) (x := a1) (y := z154) (evB_vV (τ := (vL C vInt)) (x := a1) rfl) (eI (x := z154) rfl) op_ixL) (ev_ixP (op := ixR) (x := a0) (y := a2) (evB_vV (τ := (vL C vInt)) (x := a0) rfl) (eI (x := a2) rfl) op_ixL) op_mulI) op_subI))))) fun y162 => (elo_nilE (by rfl))))) (.d4 .nil)) (fun _ => Le.refl _) (fun _ => (.d4 .nil)))
def f7 (a0 : (List (List Int))) (a1 : Int) (a2 : Int) : Out Unit Unit (List (List Int)) Unit :=
  (Res.ok ([] : (List (List Int)))).to () fun v130 =>
  (Res.ok (a0.length : Int)).to () fun n169 => gdO (rngB 0 n169) ((loopO (fun (x132 : Int) (s131 : (List (List Int))) =>
  ((Res.ok (decide (x132 = a1))).to () fun b133 => cond b133
  ((ixR a0 x132).to () fun v134 => gdO (decide (s131.length < sizeLine))
  (.nx (s131 ++ [v134])))
  (((ixR a0 x132 >>= fun x164 => ((ixR a0 a1 >>= fun x165 => (outR (f8 x164 x165 a2)))))).to () fun v135 => gdO (decide (s131.length < sizeLine))
  (.nx (s131 ++ [v135]))))) (rng 0 n169) v130).then fun s131 : (List (List Int)) =>
  .rt s131)
theorem d7 {C : Kc} (X : Kf C) : FnT C R7 (fun k : (List (List Int)) × Int × Int × Unit => [(vL C (vL C vInt)) k.1, vInt k.2.1, vInt k.2.2.1]) (oL C fun x => oV ((vL C vInt) x)) (fun k => outR (f7 k.1 k.2.1 k.2.2.1)) :=
  fn_read (T := T7) (cs := cs) (n := 3) (N := 5) (s := b7) (fun _ => rfl) (fun _ => rfl) fun ⟨a0, a1, a2, _⟩ =>
  (b_asg (i := 3) (evx (τ := (oL C fun x => oV ((vL C vInt) x))) (wk_ev (Γ' := (none :: (n4 []))) (.d4 (.drop .nil)) (ev_lst (τ := (oL C fun x => oV ((vL C vInt) x))) (os := (fun _ => [])) (g := (fun _ : Unit => ([] : (List (List Int))))) elo_nil (fun _ => nl rfl) (fun _ => rfl))) (.d4 (.drop .nil))) (fun _ => nl rfl) fun v130 =>
  (by exact (b_forR1 (j := 4) (m := (Res.ok (a0.length : Int))) (Γ0 := fun s131 : (List (List Int)) => [some (oV ((vL C (vL C vInt)) a0)), some (oV (vInt a1)), some (oV (vInt a2)), some ((oL C fun x => oV ((vL C vInt) x)) s131), none]) (s0 := v130) (wk_ev (Γ' := (some (oV ((vL C (vL C vInt)) a0)) :: (n4 []))) (.keep (.d4 .nil)) (ev_blt1P (x := a0) (op := fun x : (List (List Int)) => (Res.ok (x.length : Int))) (evB_vV (τ := (vL C (vL C vInt))) (x := a0) rfl) bl_lenL)) (.d4 (.drop .nil)) (.k4 (.drop .nil)) (fun _ => nl rfl) (fun x132 s131 =>
  (b_end (b_if (m := (Res.ok (decide (x132 = a1)))) (wk_evT (Γ' := [none, some (oV (vInt a1)), none, none, some (oV (vInt x132))]) (.drop (.keep (.d2 (.keep .nil)))) (ev_test (ev_cmpP (op := fun (x : Int) (y : Int) => (Res.ok (decide (x = y)))) (x := x132) (y := a1) (eI (x := x132) rfl) (eI (x := a1) rfl) op_eqI))) (.d4 (.drop .nil))
  (p_app (m := (ixR a0 x132)) (τ := (fun x : (List Int) => oV ((vL C vInt) x))) (xs := s131) (pl_v (i := 3) (τ := (oL C fun x => oV ((vL C vInt) x))) (x := s131) rfl) (wk_ev (Γ' := [some (oV ((vL C (vL C vInt)) a0)), none, none, none, some (oV (vInt x132))]) (.keep (.d2 (.drop (.keep .nil)))) (ev_ixFP (xs := a0) (i := x132) (evO_v (τ := (vL C (vL C vInt))) (x := a0) rfl) (eI (x := x132) rfl))) (Cv.wk (.d4 (.drop .nil))) fun v134 =>
  (b_nop (.k4 (.drop .nil))))
  (p_app (m := ((ixR a0 x132 >>= fun x164 => ((ixR a0 a1 >>= fun x165 => (outR (f8 x164 x165 a2))))))) (τ := (fun x : (List Int) => oV ((vL C vInt) x))) (xs := s131) (pl_v (i := 3) (τ := (oL C fun x => oV ((vL C vInt) x))) (x := s131) rfl) (wk_ev (Γ' := [some (oV ((vL C (vL C vInt)) a0)), some (oV (vInt a1)), some (oV (vInt a2)), none, some (oV (vInt x132))]) (.k2 (.keep (.drop (.keep .nil)))) (ev_callF (i := 8) (T := T7) (τ := (fun x : (List Int) => oV ((vL C vInt) x))) (os := fun k : (List Int) × (List Int) × Int × Unit => [(vL C vInt) k.1, (vL C vInt) k.2.1, vInt k.2.2.1]) (g := (fun k : (List Int) × (List Int) × Int × Unit => (k.1, k.2.1, k.2.2.1, ()))) (dv := []) (wd := []) (d8 (X := X)) (by decide) rfl (fun _ => .nil) (fun _ => rfl) (elo_cons (m := (ixR a0 x132)) (ev_ixFP (xs := a0) (i := x132) (evO_v (τ := (vL C (vL C vInt))) (x := a0) rfl) (eI (x := x132) rfl)) fun y166 => (elo_cons (m := (ixR a0 a1)) (ev_ixFP (xs := a0) (i := a1) (evO_v (τ := (vL C (vL C vInt))) (x := a0) rfl) (eI (x := a1) rfl)) fun y167 => (elo_consP (x := (a2 : Int)) (ev_flat (eI (x := a2) rfl)) (elo_nilE (by rfl))))))) (Cv.wk (.d4 (.drop .nil))) fun v135 =>
  (b_nop (.k4 (.drop .nil))))))) fun s131 =>
  (b_ret (g := fun _ : Unit => s131) (evx_mv (i := 3) rfl) (fun _ => Le.refl _) (fun _ => (.d4 (.drop .nil)))))))
def f5 (a0 : (List (List Int))) : Out Unit Unit (List (Int × (List Int))) Unit :=
  (Res.ok (a0.length : Int)).to () fun v100 =>
  (outR (f6 a0)).to () fun v101 =>
  (Res.ok (0 : Int)).to () fun v113 =>
  (Res.ok v100).to () fun n196 => gdO (rngB 0 n196) ((loopO (fun (x115 : Int) (s114 : (List (List Int)) × Int) =>
  ((gd (rngB s114.2 v100 && decide (Int.toNat (v100 - s114.2) ≤ sizeLine)) (lcR (fun z117 : Int => (((ixR s114.1 z117 >>= fun x118 => (ixR x118 x115)) >>= fun x119 => (Res.ok (!decide (x119 = (0 : Int))))))) (fun z117 : Int => (Res.ok z117)) (rng s114.2 v100))).to () fun v116 =>
  (neR ((fun xs : (List Int) => PyData.list (xs.map PyData.int)) v116) ((fun xs : (List Int) => PyData.list (xs.map PyData.int)) ([] : (List Int)))).to () fun b120 => cond b120
  ((ixR s114.1 s114.2).to () fun v121 =>
  ((ixR v116 (0 : Int) >>= fun x125 => (ixR s114.1 x125))).to () fun v123 => (Res.ok s114.2).to () fun k122 => (getR (setI s114.1 k122 v123)).to () fun l124 =>
  (Res.ok v121).to () fun v127 => (ixR v116 (0 : Int)).to () fun k126 => (getR (setI l124 k126 v127)).to () fun l128 =>
  (outR (f7 l128 s114.2 x115)).to () fun v170 =>
  (Res.ok (s114.2 + (1 : Int))).to () fun v174 =>
  .nx (v170, v174))
  (.nx (s114.1, s114.2)))) (rng 0 n196) (v101, v113)).then fun s114 : (List (List Int)) × Int =>
  (Res.ok (decide (s114.2 < v100))).to () fun b175 => cond b175
  ((((ixR s114.1 s114.2) >>= fun x177 : (List Int) => (Res.ok (some v100)) >>= fun x178 : Option Int => (Res.ok none) >>= fun x179 : Option Int => Res.ok (cutL x177 x178 x179))).to () fun v176 => .exc ⟨0, encL ("mix" : Str) (v176.map V.int)⟩ ())
  ((Res.ok ([] : (List (Int × (List Int))))).to () fun v180 =>
  (Res.ok v100).to () fun n195 => gdO (rngB 0 n195) ((loopO (fun (x182 : Int) (s181 : (List (Int × (List Int)))) =>
  (((ixR s114.1 x182 >>= fun x184 => (outR (f9 x184)))).to () fun v183 =>
  (((ixR v183 x182 >>= fun x186 => (Res.ok (decide (x186 < (0 : Int)))))).to () fun b187 => cond b187
  ((gd (decide (v183.length ≤ sizeLine)) (lcR (fun z189 : Int => (Res.ok true)) (fun z189 : Int => (Res.ok (-z189))) v183)).to () fun v188 =>
  .nx v188)
  (.nx v183)).then fun s190 : (List Int) =>
  ((ixR s190 x182 >>= fun x192 => (Res.ok (x192, (cutL s190 (some v100) none))))).to () fun v191 => gdO (decide (s181.length < sizeLine))
  (.nx (s181 ++ [v191])))) (rng 0 n195) v180).then fun s181 : (List (Int × (List Int))) =>
  .rt s181)))
theorem d5 {C : Kc} (X : Kf C) : FnT C R5 (fun k : (List (List Int)) × Unit => [(vL C (vL C vInt)) k.1]) (oL C (ot0 C)) (fun k => outR (f5 k.1)) :=
  fn_read (T := T5) (cs := cs) (n := 1) (N := 11) (s := b5) (fun _ => rfl) (fun _ => rfl) fun ⟨a0, _⟩ =>
  (b_asg (i := 1) (evx (τ := (fun x : Int => oV (vInt x))) (wk_ev (Γ' := (some (oV ((vL C (vL C vInt)) a0)) :: (n2 (n8 [])))) (.keep (.d8 (.d2 .nil))) (ev_flat (ev_blt1P (x := a0) (op := fun x : (List (List Int)) => (Res.ok (x.length : Int))) (evB_vV (τ := (vL C (vL C vInt))) (x := a0) rfl) bl_lenL))) (.d8 (.d2 (.drop .nil)))) (fun _ => nl rfl) fun v100 =>
  (b_asg (i := 2) (evx (τ := (oL C fun x => oV ((vL C vInt) x))) (wk_ev (Γ' := (some (oV ((vL C (vL C vInt)) a0)) :: (n2 (n8 [])))) (.keep (.d8 (.d2 .nil))) (ev_callF (i := 6) (T := T5) (τ := (oL C fun x => oV ((vL C vInt) x))) (os := fun k : (List (List Int)) × Unit => [(vL C (vL C vInt)) k.1]) (g := (fun k : (List (List Int)) × Unit => (k.1, ()))) (dv := []) (wd := []) (d6 (X := X)) (by decide) rfl (fun _ => .nil) (fun _ => rfl) (elo_consP (x := (a0 : (List (List Int)))) (evO_v (τ := (vL C (vL C vInt))) (x := a0) rfl) (elo_nilE (by rfl))))) (.d8 (.d2 (.drop .nil)))) (fun _ => nl rfl) fun v101 =>
  (by exact (b_asg (i := 3) (evx (τ := (fun x : Int => oV (vInt x))) (wk_ev (Γ' := (none :: (n2 (n8 [])))) (.d8 (.d2 (.drop .nil))) (ev_flat (ev_int 0))) (.d8 (.d2 (.drop .nil)))) (fun _ => nl rfl) fun v113 =>
  (b_forR1 (j := 4) (m := (Res.ok v100)) (Γ0 := fun s114 : (List (List Int)) × Int => (some (oV ((vL C (vL C vInt)) a0)) :: some (oV (vInt v100)) :: some ((oL C fun x => oV ((vL C vInt) x)) s114.1) :: some (oV (vInt s114.2)) :: none :: (n2 (n4 [])))) (s0 := (v101, v113)) (wk_ev (Γ' := (none :: some (oV (vInt v100)) :: none :: (n8 []))) (.drop (.keep (.d8 (.drop .nil)))) (eI (x := v100) rfl)) (.d8 (.d2 (.drop .nil))) (.k4 (.d4 (.d2 (.drop .nil)))) (fun _ => nl rfl) (fun x115 s114 =>
  (b_asg (i := 6) (evx (τ := (fun x : (List Int) => oV ((vL C vInt) x))) (ev_fz (o := (oL C fun x => oV (vInt x))) (bor_evC (Γ' := (none :: some (oV (vInt v100)) :: some (oV ((vL C (vL C vInt)) s114.1)) :: some (oV (vInt s114.2)) :: some (oV (vInt x115)) :: (n2 (n4 [])))) (.drop (.put rfl (.put (OwV.eq (o := (oL C fun x => oV ((vL C vInt) x))) s114.1) (.put rfl (.put rfl (.d4 (.d2 .nil))))))) (ev_lcR2P (x := s114.2) (y := v100) (ε := (fun x : Int => oV (vInt x))) (c := fun z117 : Int => (((ixR s114.1 z117 >>= fun x118 => (ixR x118 x115)) >>= fun x119 => (Res.ok (!decide (x119 = (0 : Int))))))) (f := fun z117 : Int => (Res.ok z117)) (eI (x := s114.2) rfl) (eI (x := v100) rfl) (fun z117 => (eps_one (ev_test (ev_cmpR (op := fun (x : Int) (y : Int) => (Res.ok (!decide (x = y)))) (ma := ((ixR s114.1 z117 >>= fun x118 => (ixR x118 x115)))) (y := (0 : Int)) (ev_ixR (op := ixR) (ma := (ixR s114.1 z117)) (y := x115) (ev_ixP (op := ixR) (x := s114.1) (y := z117) (evB_vV (τ := (vL C (vL C vInt))) (x := s114.1) rfl) (eI (x := z117) rfl) op_ixL) (eI (x := x115) rfl) op_ixL) (ev_int 0) op_neI)))) (fun z117 => (ev_flat (eI (x := z117) rfl)))))) (.d8 (.d2 (.drop .nil)))) (fun _ => nl rfl) fun v116 =>
  (b_end (b_if (m := (neR ((fun xs : (List Int) => PyData.list (xs.map PyData.int)) v116) ((fun xs : (List Int) => PyData.list (xs.map PyData.int)) ([] : (List Int))))) (wk_evT (Γ' := (n2 (n4 (some (oV ((vL C vInt) v116)) :: (n4 []))))) (.d4 (.d2 (.keep (.d4 .nil)))) (ev_test (ev_cmpP (op := fun (x : (List Int)) (y : (List Int)) => neR ((fun xs : (List Int) => PyData.list (xs.map PyData.int)) x) ((fun xs : (List Int) => PyData.list (xs.map PyData.int)) y)) (x := v116) (y := ([] : (List Int))) (evB_vV (τ := (vL C vInt)) (x := v116) rfl) (ev_see (o := (oL C fun x => oV (vInt x))) (ev_lst (τ := (oL C fun x => oV (vInt x))) (os := (fun _ => [])) (g := (fun _ : Unit => ([] : (List Int)))) elo_nil (fun _ => nl rfl) (fun _ => rfl))) op_ne))) (.d8 (.d2 (.drop .nil)))
  (b_asg (i := 8) (evx (τ := (fun x : (List Int) => oV ((vL C vInt) x))) (ev_take (evP_ixP (x := s114.1) (y := s114.2) (τ := (fun x : (List Int) => oV ((vL C vInt) x))) (evP_v (τ := (oL C fun x => oV ((vL C vInt) x))) (x := s114.1) rfl) (wk_ev (Γ' := (none :: (n2 (some (oV (vInt s114.2)) :: none :: (n2 (n4 [])))))) (.d2 (.drop (.keep (.d4 (.d2 (.drop .nil)))))) (eI (x := s114.2) rfl)))) (.d8 (.d2 (.drop .nil)))) (fun _ => nl rfl) fun v121 =>
  (p_setl (mi := (Res.ok s114.2)) (m := ((ixR v116 (0 : Int) >>= fun x125 => (ixR s114.1 x125)))) (τ := (fun x : (List Int) => oV ((vL C vInt) x))) (xs := s114.1) (pl_v (i := 2) (τ := (oL C fun x => oV ((vL C vInt) x))) (x := s114.1) rfl) (wk_ev (Γ' := (none :: (n2 (some (oV (vInt s114.2)) :: none :: (n2 (n4 [])))))) (.d2 (.drop (.keep (.d4 (.d2 (.drop .nil)))))) (eI (x := s114.2) rfl)) (ev_take (evP_ixL (x := s114.1) (mb := (ixR v116 (0 : Int))) (τ := (fun x : (List Int) => oV ((vL C vInt) x))) (evP_v (τ := (oL C fun x => oV ((vL C vInt) x))) (x := s114.1) rfl) (wk_ev (Γ' := (n2 (n4 (some (oV ((vL C vInt) v116)) :: (n4 []))))) (.d4 (.d2 (.keep (.d4 .nil)))) (ev_ixP (op := ixR) (x := v116) (y := (0 : Int)) (evB_vV (τ := (vL C vInt)) (x := v116) rfl) (ev_int 0) op_ixL)))) (Cv.wk (.d8 (.d2 (.drop .nil)))) fun l124 =>
  (p_setl (mi := (ixR v116 (0 : Int))) (m := (Res.ok v121)) (τ := (fun x : (List Int) => oV ((vL C vInt) x))) (xs := l124) (pl_v (i := 2) (τ := (oL C fun x => oV ((vL C vInt) x))) (x := l124) rfl) (wk_ev (Γ' := (n2 (n4 (some (oV ((vL C vInt) v116)) :: (n4 []))))) (.d4 (.d2 (.keep (.d4 .nil)))) (ev_ixP (op := ixR) (x := v116) (y := (0 : Int)) (evB_vV (τ := (vL C vInt)) (x := v116) rfl) (ev_int 0) op_ixL)) (wk_ev (Γ' := (n8 (some (oV ((vL C vInt) v121)) :: (n2 [])))) (.d8 (.keep (.d2 .nil))) (evO_v (τ := (vL C vInt)) (x := v121) rfl)) (Cv.wk (.d8 (.d2 (.drop .nil)))) fun l128 =>
  (p_fz (i := 2) (o := (oL C fun x => oV ((vL C vInt) x))) (v := (vL C (vL C vInt))) (x := l128) rfl (b_asg (i := 2) (evx (τ := (oL C fun x => oV ((vL C vInt) x))) (wk_ev (Γ' := (n2 (some (oV ((vL C (vL C vInt)) l128)) :: some (oV (vInt s114.2)) :: some (oV (vInt x115)) :: (n2 (n4 []))))) (.d2 (.k2 (.keep (.d4 (.d2 .nil))))) (ev_callF (i := 7) (T := T5) (τ := (oL C fun x => oV ((vL C vInt) x))) (os := fun k : (List (List Int)) × Int × Int × Unit => [(vL C (vL C vInt)) k.1, vInt k.2.1, vInt k.2.2.1]) (g := (fun k : (List (List Int)) × Int × Int × Unit => (k.1, k.2.1, k.2.2.1, ()))) (dv := []) (wd := []) (d7 (X := X)) (by decide) rfl (fun _ => .nil) (fun _ => rfl) (elo_consP (x := (l128 : (List (List Int)))) (evO_v (τ := (vL C (vL C vInt))) (x := l128) rfl) (elo_consP (x := (s114.2 : Int)) (ev_flat (eI (x := s114.2) rfl)) (elo_consP (x := (x115 : Int)) (ev_flat (eI (x := x115) rfl)) (elo_nilE (by rfl))))))) (.d8 (.d2 (.drop .nil)))) (fun _ => nl rfl) fun v170 =>
  (by exact (b_asg (i := 3) (evx (τ := (fun x : Int => oV (vInt x))) (wk_ev (Γ' := (none :: (n2 (some (oV (vInt s114.2)) :: none :: (n2 (n4 [])))))) (.d2 (.drop (.keep (.d4 (.d2 (.drop .nil)))))) (ev_flat (ev_binP (op := fun (x : Int) (y : Int) => (Res.ok (x + y))) (x := s114.2) (y := (1 : Int)) (eI (x := s114.2) rfl) (ev_int 1) op_addI))) (.d8 (.d2 (.drop .nil)))) (fun _ => nl rfl) fun v174 =>
  (b_nop (.k4 (.d4 (.d2 (.drop .nil))))))))))))
  (b_nop (.k4 (.d4 (.d2 (.drop .nil))))))))) fun s114 =>
  (b_ifL (m := (Res.ok (decide (s114.2 < v100)))) (wk_evT (Γ' := (none :: some (oV (vInt v100)) :: none :: some (oV (vInt s114.2)) :: none :: (n2 (n4 [])))) (.drop (.keep (.drop (.keep (.d4 (.d2 (.drop .nil))))))) (ev_test (ev_cmpP (op := fun (x : Int) (y : Int) => (Res.ok (decide (x < y)))) (x := s114.2) (y := v100) (eI (x := s114.2) rfl) (eI (x := v100) rfl) op_lt))) (.d8 (.d2 (.drop .nil))) rfl
  (b_rseL (inj := V.int) (m := (((ixR s114.1 s114.2) >>= fun x177 : (List Int) => (Res.ok (some v100)) >>= fun x178 : Option Int => (Res.ok none) >>= fun x179 : Option Int => Res.ok (cutL x177 x178 x179)))) (f := ("mix" : Str)) (in0 X rfl) (bor_evC (Γ' := (none :: some (oV (vInt v100)) :: some (oV ((vL C (vL C vInt)) s114.1)) :: some (oV (vInt s114.2)) :: none :: (n2 (n4 [])))) (.drop (.put rfl (.put (OwV.eq (o := (oL C fun x => oV ((vL C vInt) x))) s114.1) (.put rfl (.d4 (.d2 (.drop .nil))))))) (ev_slL (ma := (ixR s114.1 s114.2)) (ml := (Res.ok (some v100))) (mh := (Res.ok none)) (ev_ixFP (xs := s114.1) (i := s114.2) (evO_v (τ := (vL C (vL C vInt))) (x := s114.1) rfl) (eI (x := s114.2) rfl)) (eo_someP (i := v100) (eI (x := v100) rfl)) eo_none)) (.d8 (.d2 (.drop .nil))))
  (b_asg (i := 5) (evx (τ := (oL C (ot0 C))) (wk_ev (Γ' := (none :: (n2 (n8 [])))) (.d8 (.d2 (.drop .nil))) (ev_lst (τ := (oL C (ot0 C))) (os := (fun _ => [])) (g := (fun _ : Unit => ([] : (List Y0)))) elo_nil (fun _ => nl rfl) (fun _ => rfl))) (.d8 (.d2 (.drop .nil)))) (fun _ => nl rfl) fun v180 =>
  (by exact (b_forR1 (j := 4) (m := (Res.ok v100)) (Γ0 := fun s181 : (List Y0) => [some (oV ((vL C (vL C vInt)) a0)), some (oV (vInt v100)), some ((oL C fun x => oV ((vL C vInt) x)) s114.1), some (oV (vInt s114.2)), none, some ((oL C (ot0 C)) s181), none, none, none, none, none]) (s0 := v180) (wk_ev (Γ' := (none :: some (oV (vInt v100)) :: none :: (n8 []))) (.drop (.keep (.d8 (.drop .nil)))) (eI (x := v100) rfl)) (.d8 (.d2 (.drop .nil))) (.k4 (.drop (.keep (.d4 (.drop .nil))))) (fun _ => nl rfl) (fun x182 s181 =>
  (b_asg (i := 7) (evx (τ := (fun x : (List Int) => oV ((vL C vInt) x))) (ev_callF (i := 9) (T := T5) (τ := (fun x : (List Int) => oV ((vL C vInt) x))) (os := fun k : (List Int) × Unit => [(vL C vInt) k.1]) (g := (fun k : (List Int) × Unit => (k.1, ()))) (dv := []) (wd := []) (d9 (X := X)) (by decide) rfl (fun _ => .nil) (fun _ => rfl) (elo_cons (m := (ixR s114.1 x182)) (ev_take (evP_ixP (x := s114.1) (y := x182) (τ := (fun x : (List Int) => oV ((vL C vInt) x))) (evP_v (τ := (oL C fun x => oV ((vL C vInt) x))) (x := s114.1) rfl) (wk_ev (Γ' := (n4 (some (oV (vInt x182)) :: (n2 (n4 []))))) (.d4 (.keep (.d4 (.d2 .nil)))) (eI (x := x182) rfl)))) fun y185 => (elo_nilE (by rfl)))) (.d8 (.d2 (.drop .nil)))) (fun _ => nl rfl) fun v183 =>
  (b_seq (Γ1 := fun s190 : (List Int) => [some (oV ((vL C (vL C vInt)) a0)), some (oV (vInt v100)), some ((oL C fun x => oV ((vL C vInt) x)) s114.1), some (oV (vInt s114.2)), some (oV (vInt x182)), some ((oL C (ot0 C)) s181), none, some (oV ((vL C vInt) s190)), none, none, none]) (b_if (m := ((ixR v183 x182 >>= fun x186 => (Res.ok (decide (x186 < (0 : Int))))))) (wk_evT (Γ' := (n4 (some (oV (vInt x182)) :: (n2 (some (oV ((vL C vInt) v183)) :: none :: (n2 [])))))) (.d4 (.keep (.d2 (.keep (.d2 (.drop .nil)))))) (ev_test (ev_cmpR (op := fun (x : Int) (y : Int) => (Res.ok (decide (x < y)))) (ma := (ixR v183 x182)) (y := (0 : Int)) (ev_ixP (op := ixR) (x := v183) (y := x182) (evB_vV (τ := (vL C vInt)) (x := v183) rfl) (eI (x := x182) rfl) op_ixL) (ev_int 0) op_lt))) (.d8 (.d2 (.drop .nil)))
  (by exact (b_asg (i := 7) (evx (τ := (fun x : (List Int) => oV ((vL C vInt) x))) (wk_ev (Γ' := (none :: (n2 (n4 (some (oV ((vL C vInt) v183)) :: none :: (n2 [])))))) (.d4 (.d2 (.drop (.keep (.d2 (.drop .nil)))))) (ev_fz (o := (oL C fun x => oV (vInt x))) (ev_lcP (xs := v183) (τ := vInt) (ε := (fun x : Int => oV (vInt x))) (c := fun z189 : Int => (Res.ok true)) (f := fun z189 : Int => (Res.ok (-z189))) (evO_v (τ := (vL C vInt)) (x := v183) rfl) (fun z189 => eps_nil) (fun z189 => (ev_flat (ev_negP (x := z189) (eI (x := z189) rfl))))))) (.d8 (.d2 (.drop .nil)))) (fun _ => nl rfl) fun v188 =>
  (b_nop (.k4 (.k2 (.drop (.keep (.d2 (.drop .nil)))))))))
  (by exact (b_nop (.k4 (.k2 (.drop (.keep (.d2 (.drop .nil))))))))) fun s190 =>
  (p_app (m := ((ixR s190 x182 >>= fun x192 => (Res.ok (x192, (cutL s190 (some v100) none)))))) (τ := (ot0 C)) (xs := s181) (pl_v (i := 5) (τ := (oL C (ot0 C))) (x := s181) rfl) (wk_ev (Γ' := (none :: some (oV (vInt v100)) :: (n2 (some (oV (vInt x182)) :: (n2 (some (oV ((vL C vInt) s190)) :: none :: (n2 []))))))) (.drop (.keep (.d2 (.keep (.d2 (.keep (.d2 (.drop .nil)))))))) (ev_tup (τ := (ot0 C)) (os := (fun k : Int × (List Int) × Unit => [oV (vInt k.1), (oL C fun x => oV (vInt x)) k.2.1])) (g := (fun k : Int × (List Int) × Unit => (k.1, k.2.1))) (elo_cons (m := (ixR s190 x182)) (ev_flat (ev_ixP (op := ixR) (x := s190) (y := x182) (evB_vV (τ := (vL C vInt)) (x := s190) rfl) (eI (x := x182) rfl) op_ixL)) fun y193 => (elo_consP (x := ((cutL s190 (some v100) none) : (List Int))) (ev_slLP (xs := s190) (i := (some v100)) (j := none) (evO_v (τ := (vL C vInt)) (x := s190) rfl) (eo_someP (i := v100) (eI (x := v100) rfl)) eo_none) (elo_nilE (by rfl)))) (fun _ => nl rfl) (fun _ => rfl))) (Cv.wk (.d8 (.d2 (.drop .nil)))) fun v191 =>
  (b_nop (.k4 (.drop (.keep (.d4 (.drop .nil)))))))))) fun s181 =>
  (b_ret (g := fun _ : Unit => s181) (evx_mv (i := 5) rfl) (fun _ => Le.refl _) (fun _ => (.d8 (.d2 (.drop .nil))))))))))))))
def f12 (a0 : Int) : Out Unit Unit Bool Unit :=
  (Res.ok (true && (!false))).to () fun r214 => .rt r214
theorem d12 {C : Kc} (X : Kf C) : FnT C R12 (fun k : Int × Unit => [vInt k.1]) (fun x : Bool => oV (vBl x)) (fun k => outR (f12 k.1)) :=
  fn_read (T := T12) (cs := cs) (n := 1) (N := 1) (s := b12) (fun _ => rfl) (fun _ => rfl) fun ⟨a0, _⟩ =>
  (b_ret (g := fun r214 => r214) (evx (x0 := ()) (wk_ev (Γ' := [some (oV (vInt a0))]) (.keep .nil) (ev_flat (ev_andV (ev_av2p (x := true) (y := (!false)) (ev_isiTP (x := a0) (b := true) (eI (x := a0) rfl) (by decide) (by decide) (by decide)) (ev_av1 (m := (Res.ok (!false))) (ev_notBP (b := false) (ev_isiTP (x := a0) (b := false) (eI (x := a0) rfl) (by decide) (by decide) (by decide)))))))) (.drop .nil)) (fun _ => Le.refl _) (fun _ => (.drop .nil)))
def f13 (a0 : (List (List Int))) (a1 : (List Int)) : Out Unit Unit (List Int) Unit :=
  (gd (rngB 0 (a0.length : Int) && decide (Int.toNat (a0.length : Int) ≤ sizeLine)) (lcR (fun z221 : Int => (Res.ok true)) (fun z221 : Int => ((gd (rngB 0 (a0.length : Int) && decide (Int.toNat (a0.length : Int) ≤ sizeLine)) (lcR (fun z222 : Int => (Res.ok true)) (fun z222 : Int => ((ixR a1 z222 >>= fun x224 => (((ixR a0 z222 >>= fun x223 => (ixR x223 z221)) >>= fun x225 => (gd (mulB x224 x225) (Res.ok (x224 * x225)))))))) (rng 0 (a0.length : Int))) >>= fun x226 => (Res.ok x226.sum)))) (rng 0 (a0.length : Int)))).to () fun r227 => .rt r227
theorem d13 {C : Kc} (X : Kf C) : FnT C R13 (fun k : (List (List Int)) × (List Int) × Unit => [(vL C (vL C vInt)) k.1, (vL C vInt) k.2.1]) (fun x : (List Int) => oV ((vL C vInt) x)) (fun k => outR (f13 k.1 k.2.1)) :=
  fn_read (T := T13) (cs := cs) (n := 2) (N := 4) (s := b13) (fun _ => rfl) (fun _ => rfl) fun ⟨a0, a1, _⟩ =>
  (b_ret (g := fun r227 => r227) (evx (x0 := ()) (wk_ev (Γ' := [some (oV ((vL C (vL C vInt)) a0)), some (oV ((vL C vInt) a1)), none, none]) (.k2 (.d2 .nil)) (ev_fz (o := (oL C fun x => oV (vInt x))) (ev_lcR1P (n := (a0.length : Int)) (ε := (fun x : Int => oV (vInt x))) (c := fun z221 : Int => (Res.ok true)) (f := fun z221 : Int => ((gd (rngB 0 (a0.length : Int) && decide (Int.toNat (a0.length : Int) ≤ sizeLine)) (lcR (fun z222 : Int => (Res.ok true)) (fun z222 : Int => ((ixR a1 z222 >>= fun x224 => (((ixR a0 z222 >>= fun x223 => (ixR x223 z221)) >>= fun x225 => (gd (mulB x224 x225) (Res.ok (x224 * x225)))))))) (rng 0 (a0.length : Int))) >>= fun x226 => (Res.ok x226.sum)))) (ev_blt1P (x := a0) (op := fun x : (List (List Int)) => (Res.ok (x.length : Int))) (evB_vV (τ := (vL C (vL C vInt))) (x := a0) rfl) bl_lenL) (fun z221 => eps_nil) (fun z221 => (ev_flat (ev_blt1 (ma := (gd (rngB 0 (a0.length : Int) && decide (Int.toNat (a0.length : Int) ≤ sizeLine)) (lcR (fun z222 : Int => (Res.ok true)) (fun z222 : Int => ((ixR a1 z222 >>= fun x224 => (((ixR a0 z222 >>= fun x223 => (ixR x223 z221)) >>= fun x225 => (gd (mulB x224 x225) (Res.ok (x224 * x225)))))))) (rng 0 (a0.length : Int))))) (op := fun x : (List Int) => (Res.ok x.sum)) (ev_see (o := (oL C fun x => oV (vInt x))) (ev_lcR1P (n := (a0.length : Int)) (ε := (fun x : Int => oV (vInt x))) (c := fun z222 : Int => (Res.ok true)) (f := fun z222 : Int => ((ixR a1 z222 >>= fun x224 => (((ixR a0 z222 >>= fun x223 => (ixR x223 z221)) >>= fun x225 => (gd (mulB x224 x225) (Res.ok (x224 * x225)))))))) (ev_blt1P (x := a0) (op := fun x : (List (List Int)) => (Res.ok (x.length : Int))) (evB_vV (τ := (vL C (vL C vInt))) (x := a0) rfl) bl_lenL) (fun z222 => eps_nil) (fun z222 => (ev_flat (ev_bin (op := fun (x : Int) (y : Int) => (gd (mulB x y) (Res.ok (x * y)))) (ma := (ixR a1 z222)) (mb := ((ixR a0 z222 >>= fun x223 => (ixR x223 z221)))) (ev_ixP (op := ixR) (x := a1) (y := z222) (evB_vV (τ := (vL C vInt)) (x := a1) rfl) (eI (x := z222) rfl) op_ixL) (ev_ixR (op := ixR) (ma := (ixR a0 z222)) (y := z221) (ev_ixP (op := ixR) (x := a0) (y := z222) (evB_vV (τ := (vL C (vL C vInt))) (x := a0) rfl) (eI (x := z222) rfl) op_ixL) (eI (x := z221) rfl) op_ixL) op_mulI))))) bl_sum)))))) (.d4 .nil)) (fun _ => Le.refl _) (fun _ => (.d4 .nil)))
def f11 (a0 : (List (List Int))) (a1 : (List Int)) : Out Unit Unit Bool Unit :=
  (Res.ok ((!true) || (!decide ((a1.length : Int) = (a0.length : Int))))).to () fun b209 => cond b209
  ((Res.ok false).to () fun r210 => .rt r210)
  ((Res.ok a1).to () fun l213 => (loopO (fun (x212 : Int) (s211 : Unit) =>
  (((outR (f12 x212) >>= fun x216 => (Res.ok (!x216)))).to () fun b217 => cond b217
  ((Res.ok false).to () fun r218 => .rt r218)
  (.nx ()))) l213 ()).then fun s211 : Unit =>
  (andR ((gd (decide (a1.length ≤ sizeLine)) (lcR (fun z219 : Int => (Res.ok true)) (fun z219 : Int => (Res.ok (!decide (z219 = (0 : Int))))) a1) >>= fun x220 => (Res.ok (x220.any id)))) ((outR (f13 a0 a1) >>= fun x232 => ((gd (repB [(0 : Int)].length (a0.length : Int)) (Res.ok (List.replicate (Int.toNat (a0.length : Int)) [(0 : Int)]).flatten) >>= fun x233 => (eqR ((fun xs : (List Int) => PyData.list (xs.map PyData.int)) x232) ((fun xs : (List Int) => PyData.list (xs.map PyData.int)) x233))))))).to () fun r234 => .rt r234)
theorem d11 {C : Kc} (X : Kf C) : FnT C R11 (fun k : (List (List Int)) × (List Int) × Unit => [(vL C (vL C vInt)) k.1, (vL C vInt) k.2.1]) (fun x : Bool => oV (vBl x)) (fun k => outR (f11 k.1 k.2.1)) :=
  fn_read (T := T11) (cs := cs) (n := 2) (N := 3) (s := b11) (fun _ => rfl) (fun _ => rfl) fun ⟨a0, a1, _⟩ =>
  (b_ifL (m := (Res.ok ((!true) || (!decide ((a1.length : Int) = (a0.length : Int)))))) (wk_evT (Γ' := [some (oV ((vL C (vL C vInt)) a0)), some (oV ((vL C vInt) a1)), none]) (.k2 (.drop .nil)) (ev_orT (ev_r2p (x := (!true)) (y := (!decide ((a1.length : Int) = (a0.length : Int)))) (ev_notTP (b := true) (ev_test (ev_isiTP (x := a1) (b := true) (evB_vV (τ := (vL C vInt)) (x := a1) rfl) (by decide) (by decide) (by decide)))) (ev_r1 (m := (Res.ok (!decide ((a1.length : Int) = (a0.length : Int))))) (ev_test (ev_cmpP (op := fun (x : Int) (y : Int) => (Res.ok (!decide (x = y)))) (x := (a1.length : Int)) (y := (a0.length : Int)) (ev_blt1P (x := a1) (op := fun x : (List Int) => (Res.ok (x.length : Int))) (evB_vV (τ := (vL C vInt)) (x := a1) rfl) bl_lenL) (ev_blt1P (x := a0) (op := fun x : (List (List Int)) => (Res.ok (x.length : Int))) (evB_vV (τ := (vL C (vL C vInt))) (x := a0) rfl) bl_lenL) op_neI)))))) (.d2 (.drop .nil)) rfl
  (b_ret (g := fun r210 => r210) (evx (x0 := ()) (wk_ev (Γ' := [none, none, none]) (.d2 (.drop .nil)) (ev_flat (ev_bl false))) (.d2 (.drop .nil))) (fun _ => Le.refl _) (fun _ => (.d2 (.drop .nil))))
  (b_forL (j := 2) (m := (Res.ok a1)) (τ := vInt) (Γ0 := fun s211 : Unit => [some (oV ((vL C (vL C vInt)) a0)), some (oV ((vL C vInt) a1)), none]) (s0 := ()) (wk_ev (Γ' := [none, some (oV ((vL C vInt) a1)), none]) (.drop (.keep (.drop .nil))) (evO_v (τ := (vL C vInt)) (x := a1) rfl)) (.d2 (.drop .nil)) (.k2 (.drop .nil)) (fun _ => nl rfl) (fun x212 s211 =>
  (b_end (b_if (m := ((outR (f12 x212) >>= fun x216 => (Res.ok (!x216))))) (wk_evT (Γ' := [none, none, some (oV (vInt x212))]) (.d2 (.keep .nil)) (ev_notT (m := (outR (f12 x212))) (ev_test (ev_see (o := (fun x : Bool => oV (vBl x))) (ev_callT (i := 12) (T := T11) (τ := (fun x : Bool => oV (vBl x))) (os := fun k : Int × Unit => [vInt k.1]) (g := (fun k : Int × Unit => (k.1, ()))) (dv := []) (wd := []) (d12 (X := X)) (by decide) rfl (fun _ => .nil) (fun _ => rfl) (elv_consP (x := (x212 : Int)) (eI (x := x212) rfl) (elv_nilE (by rfl)))))))) (.d2 (.drop .nil))
  (b_ret (g := fun r218 => r218) (evx (x0 := ()) (wk_ev (Γ' := [none, none, none]) (.d2 (.drop .nil)) (ev_flat (ev_bl false))) (.d2 (.drop .nil))) (fun _ => Le.refl _) (fun _ => (.d2 (.drop .nil))))
  (b_nop (.k2 (.drop .nil)))))) fun s211 =>
  (b_ret (g := fun r234 => r234) (evx (x0 := ()) (wk_ev (Γ' := [some (oV ((vL C (vL C vInt)) a0)), some (oV ((vL C vInt) a1)), none]) (.k2 (.drop .nil)) (ev_flat (ev_andV (ev_av2 (m := ((gd (decide (a1.length ≤ sizeLine)) (lcR (fun z219 : Int => (Res.ok true)) (fun z219 : Int => (Res.ok (!decide (z219 = (0 : Int))))) a1) >>= fun x220 => (Res.ok (x220.any id))))) (n := ((outR (f13 a0 a1) >>= fun x232 => ((gd (repB [(0 : Int)].length (a0.length : Int)) (Res.ok (List.replicate (Int.toNat (a0.length : Int)) [(0 : Int)]).flatten) >>= fun x233 => (eqR ((fun xs : (List Int) => PyData.list (xs.map PyData.int)) x232) ((fun xs : (List Int) => PyData.list (xs.map PyData.int)) x233))))))) (ev_blt1 (ma := (gd (decide (a1.length ≤ sizeLine)) (lcR (fun z219 : Int => (Res.ok true)) (fun z219 : Int => (Res.ok (!decide (z219 = (0 : Int))))) a1))) (op := fun x : (List Bool) => (Res.ok (x.any id))) (ev_see (o := (oL C fun x => oV (vBl x))) (ev_lcP (xs := a1) (τ := vInt) (ε := (fun x : Bool => oV (vBl x))) (c := fun z219 : Int => (Res.ok true)) (f := fun z219 : Int => (Res.ok (!decide (z219 = (0 : Int))))) (evO_v (τ := (vL C vInt)) (x := a1) rfl) (fun z219 => eps_nil) (fun z219 => (ev_flat (ev_cmpP (op := fun (x : Int) (y : Int) => (Res.ok (!decide (x = y)))) (x := z219) (y := (0 : Int)) (eI (x := z219) rfl) (ev_int 0) op_neI))))) bl_any) (ev_av1 (m := ((outR (f13 a0 a1) >>= fun x232 => ((gd (repB [(0 : Int)].length (a0.length : Int)) (Res.ok (List.replicate (Int.toNat (a0.length : Int)) [(0 : Int)]).flatten) >>= fun x233 => (eqR ((fun xs : (List Int) => PyData.list (xs.map PyData.int)) x232) ((fun xs : (List Int) => PyData.list (xs.map PyData.int)) x233))))))) (ev_cmp (op := fun (x : (List Int)) (y : (List Int)) => eqR ((fun xs : (List Int) => PyData.list (xs.map PyData.int)) x) ((fun xs : (List Int) => PyData.list (xs.map PyData.int)) y)) (ma := (outR (f13 a0 a1))) (mb := (gd (repB [(0 : Int)].length (a0.length : Int)) (Res.ok (List.replicate (Int.toNat (a0.length : Int)) [(0 : Int)]).flatten))) (ev_see (o := (fun x : (List Int) => oV ((vL C vInt) x))) (ev_callF (i := 13) (T := T11) (τ := (fun x : (List Int) => oV ((vL C vInt) x))) (os := fun k : (List (List Int)) × (List Int) × Unit => [(vL C (vL C vInt)) k.1, (vL C vInt) k.2.1]) (g := (fun k : (List (List Int)) × (List Int) × Unit => (k.1, k.2.1, ()))) (dv := []) (wd := []) (d13 (X := X)) (by decide) rfl (fun _ => .nil) (fun _ => rfl) (elo_consP (x := (a0 : (List (List Int)))) (evO_v (τ := (vL C (vL C vInt))) (x := a0) rfl) (elo_consP (x := (a1 : (List Int))) (evO_v (τ := (vL C vInt)) (x := a1) rfl) (elo_nilE (by rfl)))))) (ev_see (o := (oL C fun x => oV (vInt x))) (ev_repP (x := [(0 : Int)]) (y := (a0.length : Int)) (ev_lst (τ := (oL C fun x => oV (vInt x))) (os := (fun k : Int × Unit => [oV (vInt k.1)])) (g := (fun k : Int × Unit => [k.1])) (elo_consP (x := ((0 : Int) : Int)) (ev_flat (ev_int 0)) (elo_nilE (by rfl))) (fun _ => nl rfl) (fun _ => rfl)) (ev_blt1P (x := a0) (op := fun x : (List (List Int)) => (Res.ok (x.length : Int))) (evB_vV (τ := (vL C (vL C vInt))) (x := a0) rfl) bl_lenL))) op_eq)))))) (.d2 (.drop .nil))) (fun _ => Le.refl _) (fun _ => (.d2 (.drop .nil))))))
def f16 (a0 : Int) : Out Unit Unit Bool Unit :=
  (Res.ok (true && (!false))).to () fun r262 => .rt r262
theorem d16 {C : Kc} (X : Kf C) : FnT C R16 (fun k : Int × Unit => [vInt k.1]) (fun x : Bool => oV (vBl x)) (fun k => outR (f16 k.1)) :=
  fn_read (T := T16) (cs := cs) (n := 1) (N := 1) (s := b16) (fun _ => rfl) (fun _ => rfl) fun ⟨a0, _⟩ =>
  (b_ret (g := fun r262 => r262) (evx (x0 := ()) (wk_ev (Γ' := [some (oV (vInt a0))]) (.keep .nil) (ev_flat (ev_andV (ev_av2p (x := true) (y := (!false)) (ev_isiTP (x := a0) (b := true) (eI (x := a0) rfl) (by decide) (by decide) (by decide)) (ev_av1 (m := (Res.ok (!false))) (ev_notBP (b := false) (ev_isiTP (x := a0) (b := false) (eI (x := a0) rfl) (by decide) (by decide) (by decide)))))))) (.drop .nil)) (fun _ => Le.refl _) (fun _ => (.drop .nil)))
def f17 (a0 : (List (List Int))) (a1 : (List Int)) : Out Unit Unit (List Int) Unit :=
  (gd (rngB 0 (a0.length : Int) && decide (Int.toNat (a0.length : Int) ≤ sizeLine)) (lcR (fun z269 : Int => (Res.ok true)) (fun z269 : Int => ((gd (rngB 0 (a0.length : Int) && decide (Int.toNat (a0.length : Int) ≤ sizeLine)) (lcR (fun z270 : Int => (Res.ok true)) (fun z270 : Int => ((ixR a1 z270 >>= fun x272 => (((ixR a0 z270 >>= fun x271 => (ixR x271 z269)) >>= fun x273 => (gd (mulB x272 x273) (Res.ok (x272 * x273)))))))) (rng 0 (a0.length : Int))) >>= fun x274 => (Res.ok x274.sum)))) (rng 0 (a0.length : Int)))).to () fun r275 => .rt r275
theorem d17 {C : Kc} (X : Kf C) : FnT C R17 (fun k : (List (List Int)) × (List Int) × Unit => [(vL C (vL C vInt)) k.1, (vL C vInt) k.2.1]) (fun x : (List Int) => oV ((vL C vInt) x)) (fun k => outR (f17 k.1 k.2.1)) :=
  fn_read (T := T17) (cs := cs) (n := 2) (N := 4) (s := b17) (fun _ => rfl) (fun _ => rfl) fun ⟨a0, a1, _⟩ =>
  (b_ret (g := fun r275 => r275) (evx (x0 := ()) (wk_ev (Γ' := [some (oV ((vL C (vL C vInt)) a0)), some (oV ((vL C vInt) a1)), none, none]) (.k2 (.d2 .nil)) (ev_fz (o := (oL C fun x => oV (vInt x))) (ev_lcR1P (n := (a0.length : Int)) (ε := (fun x : Int => oV (vInt x))) (c := fun z269 : Int => (Res.ok true)) (f := fun z269 : Int => ((gd (rngB 0 (a0.length : Int) && decide (Int.toNat (a0.length : Int) ≤ sizeLine)) (lcR (fun z270 : Int => (Res.ok true)) (fun z270 : Int => ((ixR a1 z270 >>= fun x272 => (((ixR a0 z270 >>= fun x271 => (ixR x271 z269)) >>= fun x273 => (gd (mulB x272 x273) (Res.ok (x272 * x273)))))))) (rng 0 (a0.length : Int))) >>= fun x274 => (Res.ok x274.sum)))) (ev_blt1P (x := a0) (op := fun x : (List (List Int)) => (Res.ok (x.length : Int))) (evB_vV (τ := (vL C (vL C vInt))) (x := a0) rfl) bl_lenL) (fun z269 => eps_nil) (fun z269 => (ev_flat (ev_blt1 (ma := (gd (rngB 0 (a0.length : Int) && decide (Int.toNat (a0.length : Int) ≤ sizeLine)) (lcR (fun z270 : Int => (Res.ok true)) (fun z270 : Int => ((ixR a1 z270 >>= fun x272 => (((ixR a0 z270 >>= fun x271 => (ixR x271 z269)) >>= fun x273 => (gd (mulB x272 x273) (Res.ok (x272 * x273)))))))) (rng 0 (a0.length : Int))))) (op := fun x : (List Int) => (Res.ok x.sum)) (ev_see (o := (oL C fun x => oV (vInt x))) (ev_lcR1P (n := (a0.length : Int)) (ε := (fun x : Int => oV (vInt x))) (c := fun z270 : Int => (Res.ok true)) (f := fun z270 : Int => ((ixR a1 z270 >>= fun x272 => (((ixR a0 z270 >>= fun x271 => (ixR x271 z269)) >>= fun x273 => (gd (mulB x272 x273) (Res.ok (x272 * x273)))))))) (ev_blt1P (x := a0) (op := fun x : (List (List Int)) => (Res.ok (x.length : Int))) (evB_vV (τ := (vL C (vL C vInt))) (x := a0) rfl) bl_lenL) (fun z270 => eps_nil) (fun z270 => (ev_flat (ev_bin (op := fun (x : Int) (y : Int) => (gd (mulB x y) (Res.ok (x * y)))) (ma := (ixR a1 z270)) (mb := ((ixR a0 z270 >>= fun x271 => (ixR x271 z269)))) (ev_ixP (op := ixR) (x := a1) (y := z270) (evB_vV (τ := (vL C vInt)) (x := a1) rfl) (eI (x := z270) rfl) op_ixL) (ev_ixR (op := ixR) (ma := (ixR a0 z270)) (y := z269) (ev_ixP (op := ixR) (x := a0) (y := z270) (evB_vV (τ := (vL C (vL C vInt))) (x := a0) rfl) (eI (x := z270) rfl) op_ixL) (eI (x := z269) rfl) op_ixL) op_mulI))))) bl_sum)))))) (.d4 .nil)) (fun _ => Le.refl _) (fun _ => (.d4 .nil)))
def f15 (a0 : (List (List Int))) (a1 : (List Int)) : Out Unit Unit Bool Unit :=
  (Res.ok ((!true) || (!decide ((a1.length : Int) = (a0.length : Int))))).to () fun b257 => cond b257
  ((Res.ok false).to () fun r258 => .rt r258)
  ((Res.ok a1).to () fun l261 => (loopO (fun (x260 : Int) (s259 : Unit) =>
  (((outR (f16 x260) >>= fun x264 => (Res.ok (!x264)))).to () fun b265 => cond b265
  ((Res.ok false).to () fun r266 => .rt r266)
  (.nx ()))) l261 ()).then fun s259 : Unit =>
  (andR ((gd (decide (a1.length ≤ sizeLine)) (lcR (fun z267 : Int => (Res.ok true)) (fun z267 : Int => (Res.ok (!decide (z267 = (0 : Int))))) a1) >>= fun x268 => (Res.ok (x268.any id)))) ((outR (f17 a0 a1) >>= fun x280 => ((gd (repB [(0 : Int)].length (a0.length : Int)) (Res.ok (List.replicate (Int.toNat (a0.length : Int)) [(0 : Int)]).flatten) >>= fun x281 => (eqR ((fun xs : (List Int) => PyData.list (xs.map PyData.int)) x280) ((fun xs : (List Int) => PyData.list (xs.map PyData.int)) x281))))))).to () fun r282 => .rt r282)
theorem d15 {C : Kc} (X : Kf C) : FnT C R15 (fun k : (List (List Int)) × (List Int) × Unit => [(vL C (vL C vInt)) k.1, (vL C vInt) k.2.1]) (fun x : Bool => oV (vBl x)) (fun k => outR (f15 k.1 k.2.1)) :=
  fn_read (T := T15) (cs := cs) (n := 2) (N := 3) (s := b15) (fun _ => rfl) (fun _ => rfl) fun ⟨a0, a1, _⟩ =>
  (b_ifL (m := (Res.ok ((!true) || (!decide ((a1.length : Int) = (a0.length : Int)))))) (wk_evT (Γ' := [some (oV ((vL C (vL C vInt)) a0)), some (oV ((vL C vInt) a1)), none]) (.k2 (.drop .nil)) (ev_orT (ev_r2p (x := (!true)) (y := (!decide ((a1.length : Int) = (a0.length : Int)))) (ev_notTP (b := true) (ev_test (ev_isiTP (x := a1) (b := true) (evB_vV (τ := (vL C vInt)) (x := a1) rfl) (by decide) (by decide) (by decide)))) (ev_r1 (m := (Res.ok (!decide ((a1.length : Int) = (a0.length : Int))))) (ev_test (ev_cmpP (op := fun (x : Int) (y : Int) => (Res.ok (!decide (x = y)))) (x := (a1.length : Int)) (y := (a0.length : Int)) (ev_blt1P (x := a1) (op := fun x : (List Int) => (Res.ok (x.length : Int))) (evB_vV (τ := (vL C vInt)) (x := a1) rfl) bl_lenL) (ev_blt1P (x := a0) (op := fun x : (List (List Int)) => (Res.ok (x.length : Int))) (evB_vV (τ := (vL C (vL C vInt))) (x := a0) rfl) bl_lenL) op_neI)))))) (.d2 (.drop .nil)) rfl
  (b_ret (g := fun r258 => r258) (evx (x0 := ()) (wk_ev (Γ' := [none, none, none]) (.d2 (.drop .nil)) (ev_flat (ev_bl false))) (.d2 (.drop .nil))) (fun _ => Le.refl _) (fun _ => (.d2 (.drop .nil))))
  (b_forL (j := 2) (m := (Res.ok a1)) (τ := vInt) (Γ0 := fun s259 : Unit => [some (oV ((vL C (vL C vInt)) a0)), some (oV ((vL C vInt) a1)), none]) (s0 := ()) (wk_ev (Γ' := [none, some (oV ((vL C vInt) a1)), none]) (.drop (.keep (.drop .nil))) (evO_v (τ := (vL C vInt)) (x := a1) rfl)) (.d2 (.drop .nil)) (.k2 (.drop .nil)) (fun _ => nl rfl) (fun x260 s259 =>
  (b_end (b_if (m := ((outR (f16 x260) >>= fun x264 => (Res.ok (!x264))))) (wk_evT (Γ' := [none, none, some (oV (vInt x260))]) (.d2 (.keep .nil)) (ev_notT (m := (outR (f16 x260))) (ev_test (ev_see (o := (fun x : Bool => oV (vBl x))) (ev_hot (ev_callT (i := 16) (T := T15) (τ := (fun x : Bool => oV (vBl x))) (os := fun k : Int × Unit => [vInt k.1]) (g := (fun k : Int × Unit => (k.1, ()))) (dv := []) (wd := []) (d16 (X := X)) (by decide) rfl (fun _ => .nil) (fun _ => rfl) (elv_consP (x := (x260 : Int)) (eI (x := x260) rfl) (elv_nilE (by rfl))))))))) (.d2 (.drop .nil))
  (b_ret (g := fun r266 => r266) (evx (x0 := ()) (wk_ev (Γ' := [none, none, none]) (.d2 (.drop .nil)) (ev_flat (ev_bl false))) (.d2 (.drop .nil))) (fun _ => Le.refl _) (fun _ => (.d2 (.drop .nil))))
  (b_nop (.k2 (.drop .nil)))))) fun s259 =>
  (b_ret (g := fun r282 => r282) (evx (x0 := ()) (wk_ev (Γ' := [some (oV ((vL C (vL C vInt)) a0)), some (oV ((vL C vInt) a1)), none]) (.k2 (.drop .nil)) (ev_flat (ev_andV (ev_av2 (m := ((gd (decide (a1.length ≤ sizeLine)) (lcR (fun z267 : Int => (Res.ok true)) (fun z267 : Int => (Res.ok (!decide (z267 = (0 : Int))))) a1) >>= fun x268 => (Res.ok (x268.any id))))) (n := ((outR (f17 a0 a1) >>= fun x280 => ((gd (repB [(0 : Int)].length (a0.length : Int)) (Res.ok (List.replicate (Int.toNat (a0.length : Int)) [(0 : Int)]).flatten) >>= fun x281 => (eqR ((fun xs : (List Int) => PyData.list (xs.map PyData.int)) x280) ((fun xs : (List Int) => PyData.list (xs.map PyData.int)) x281))))))) (ev_blt1 (ma := (gd (decide (a1.length ≤ sizeLine)) (lcR (fun z267 : Int => (Res.ok true)) (fun z267 : Int => (Res.ok (!decide (z267 = (0 : Int))))) a1))) (op := fun x : (List Bool) => (Res.ok (x.any id))) (ev_see (o := (oL C fun x => oV (vBl x))) (ev_lcP (xs := a1) (τ := vInt) (ε := (fun x : Bool => oV (vBl x))) (c := fun z267 : Int => (Res.ok true)) (f := fun z267 : Int => (Res.ok (!decide (z267 = (0 : Int))))) (evO_v (τ := (vL C vInt)) (x := a1) rfl) (fun z267 => eps_nil) (fun z267 => (ev_flat (ev_cmpP (op := fun (x : Int) (y : Int) => (Res.ok (!decide (x = y)))) (x := z267) (y := (0 : Int)) (eI (x := z267) rfl) (ev_int 0) op_neI))))) bl_any) (ev_av1 (m := ((outR (f17 a0 a1) >>= fun x280 => ((gd (repB [(0 : Int)].length (a0.length : Int)) (Res.ok (List.replicate (Int.toNat (a0.length : Int)) [(0 : Int)]).flatten) >>= fun x281 => (eqR ((fun xs : (List Int) => PyData.list (xs.map PyData.int)) x280) ((fun xs : (List Int) => PyData.list (xs.map PyData.int)) x281))))))) (ev_cmp (op := fun (x : (List Int)) (y : (List Int)) => eqR ((fun xs : (List Int) => PyData.list (xs.map PyData.int)) x) ((fun xs : (List Int) => PyData.list (xs.map PyData.int)) y)) (ma := (outR (f17 a0 a1))) (mb := (gd (repB [(0 : Int)].length (a0.length : Int)) (Res.ok (List.replicate (Int.toNat (a0.length : Int)) [(0 : Int)]).flatten))) (ev_see (o := (fun x : (List Int) => oV ((vL C vInt) x))) (ev_hot (ev_callF (i := 17) (T := T15) (τ := (fun x : (List Int) => oV ((vL C vInt) x))) (os := fun k : (List (List Int)) × (List Int) × Unit => [(vL C (vL C vInt)) k.1, (vL C vInt) k.2.1]) (g := (fun k : (List (List Int)) × (List Int) × Unit => (k.1, k.2.1, ()))) (dv := []) (wd := []) (d17 (X := X)) (by decide) rfl (fun _ => .nil) (fun _ => rfl) (elo_consP (x := (a0 : (List (List Int)))) (evO_v (τ := (vL C (vL C vInt))) (x := a0) rfl) (elo_consP (x := (a1 : (List Int))) (evO_v (τ := (vL C vInt)) (x := a1) rfl) (elo_nilE (by rfl))))))) (ev_see (o := (oL C fun x => oV (vInt x))) (ev_repP (x := [(0 : Int)]) (y := (a0.length : Int)) (ev_lst (τ := (oL C fun x => oV (vInt x))) (os := (fun k : Int × Unit => [oV (vInt k.1)])) (g := (fun k : Int × Unit => [k.1])) (elo_consP (x := ((0 : Int) : Int)) (ev_flat (ev_int 0)) (elo_nilE (by rfl))) (fun _ => nl rfl) (fun _ => rfl)) (ev_blt1P (x := a0) (op := fun x : (List (List Int)) => (Res.ok (x.length : Int))) (evB_vV (τ := (vL C (vL C vInt))) (x := a0) rfl) bl_lenL))) op_eq)))))) (.d2 (.drop .nil))) (fun _ => Le.refl _) (fun _ => (.d2 (.drop .nil))))))
def f14 (a0 : (List (List Int))) (a1 : (List (List Int))) : Out Unit Unit Bool Unit :=
  (Res.ok false).to () fun v247 =>
  (catO cs (fun m => sub m 0) ((outR (f5 a1)).to () fun v249 =>
  .nx v247)
  (fun e251 (y250 : Unit) => optO (lstA prI ("mix" : Str) e251.fs) fun x255 : (List Int) => noEO ((outR (f15 a0 x255)).to () fun v256 =>
  .nx v256)) (fun y250 => ())).then fun s285 : Bool =>
  (Res.ok s285).to () fun r286 => .rt r286
theorem d14 {C : Kc} (X : Kf C) : FnT C R14 (fun k : (List (List Int)) × (List (List Int)) × Unit => [(vL C (vL C vInt)) k.1, (vL C (vL C vInt)) k.2.1]) (fun x : Bool => oV (vBl x)) (fun k => outR (f14 k.1 k.2.1)) :=
  fn_read (T := T14) (cs := cs) (n := 2) (N := 4) (s := b14) (fun _ => rfl) (fun _ => rfl) fun ⟨a0, a1, _⟩ =>
  (b_asg (i := 2) (evx (τ := (fun x : Bool => oV (vBl x))) (wk_ev (Γ' := (n4 [])) (.d4 .nil) (ev_flat (ev_bl false))) (.d4 .nil)) (fun _ => nl rfl) fun v247 =>
  (b_seq (Γ1 := fun s285 : Bool => [some (oV ((vL C (vL C vInt)) a0)), some (oV ((vL C (vL C vInt)) a1)), some (oV (vBl s285)), none]) (b_tryAL (i := 3) (pr := prI) (inj := V.int) (f := ("mix" : Str)) (Γx := fun y250 : Unit => [some (oV ((vL C (vL C vInt)) a0)), some (oV ((vL C (vL C vInt)) a1)), some (oV (vBl v247)), none]) (o := fun y250 => ()) (fun _ _ => prI_inv) (b_exp (evx (τ := fun x => oV ((vL C (tv0 C)) x)) (m := (outR (f5 a1))) (wk_ev (Γ' := [none, some (oV ((vL C (vL C vInt)) a1)), none, none]) (.drop (.keep (.d2 .nil))) (ev_fz (o := (oL C (ot0 C))) (ev_callT (i := 5) (T := T14) (τ := (oL C (ot0 C))) (os := fun k : (List (List Int)) × Unit => [(vL C (vL C vInt)) k.1]) (g := (fun k : (List (List Int)) × Unit => (k.1, ()))) (dv := []) (wd := []) (d5 (X := X)) (by decide) rfl (fun _ => .nil) (fun _ => rfl) (elv_consP (x := (a1 : (List (List Int)))) (evB_vV (τ := (vL C (vL C vInt))) (x := a1) rfl) (elv_nilE (by rfl)))))) (.k2 (.keep (.drop .nil)))) fun v249 =>
  (b_nop (.k2 (.keep (.drop .nil))))) (fun _ => nl rfl) (fun p252 d253 e251 x255 y250 c254 _ =>
  (b_asg (i := 2) (evx (τ := (fun x : Bool => oV (vBl x))) (bor_evC (Γ' := [some (oV ((vL C (vL C vInt)) a0)), none, none, some (oV (vXv p252 d253 ("mix" : Str) ((vL C vInt) x255)))]) (.put rfl (.d2 (.put (OwV.eq (o := (fun x : (List Int) => oXo p252 d253 ("mix" : Str) ((oL C fun x => oV (vInt x)) x))) x255) .nil))) (ev_flat (ev_see (o := (fun x : Bool => oV (vBl x))) (ev_hot (ev_callT (i := 15) (T := T14) (τ := (fun x : Bool => oV (vBl x))) (os := fun k : (List (List Int)) × (List Int) × Unit => [(vL C (vL C vInt)) k.1, (vL C vInt) k.2.1]) (g := (fun k : (List (List Int)) × (List Int) × Unit => (k.1, k.2.1, ()))) (dv := []) (wd := []) (d15 (X := (X.hx _))) (by decide) rfl (fun _ => .nil) (fun _ => rfl) (elv_consP (x := (a0 : (List (List Int)))) (evB_vV (τ := (vL C (vL C vInt))) (x := a0) rfl) (elv_consP (x := (x255 : (List Int))) (ev_exfV (i := 3) (τ := (vL C vInt)) (x := x255) rfl (X.fnf _ c254 "mix" (by decide))) (elv_nilE (by rfl))))))))) (.d4 .nil)) (fun _ => nl rfl) fun v256 =>
  (b_nop (.k2 (.keep (.drop .nil)))))) (fun m hm => X.exm m hm 0 (by decide)) (fun _ => rfl) (fun _ => rfl) (fun y250 => (.d4 .nil))) fun s285 =>
  (b_ret (g := fun r286 => r286) (evx (x0 := ()) (wk_ev (Γ' := [none, none, some (oV (vBl s285)), none]) (.d2 (.keep (.drop .nil))) (ev_flat (evB_vV (τ := vBl) (x := s285) rfl))) (.d4 .nil)) (fun _ => Le.refl _) (fun _ => (.d4 .nil)))))
def f18 (a0 : (List (List Int))) : Out Unit Unit Bool Unit :=
  (Res.ok false).to () fun v289 =>
  (catO cs (fun m => sub m 3) ((outR (f5 a0)).to () fun v291 =>
  .nx v289)
  (fun e293 (y292 : Unit) => noEO ((Res.ok (true && (sub e293.c 0))).to () fun v297 =>
  (Res.ok (v297 && ((!(sub e293.c 1)) && (!(sub e293.c 2))))).to () fun v298 =>
  .nx v298)) (fun y292 => ())).then fun s299 : Bool =>
  (Res.ok s299).to () fun r300 => .rt r300
theorem d18 {C : Kc} (X : Kf C) : FnT C R18 (fun k : (List (List Int)) × Unit => [(vL C (vL C vInt)) k.1]) (fun x : Bool => oV (vBl x)) (fun k => outR (f18 k.1)) :=
  fn_read (T := T18) (cs := cs) (n := 1) (N := 3) (s := b18) (fun _ => rfl) (fun _ => rfl) fun ⟨a0, _⟩ =>
  (b_asg (i := 1) (evx (τ := (fun x : Bool => oV (vBl x))) (wk_ev (Γ' := [none, none, none]) (.d2 (.drop .nil)) (ev_flat (ev_bl false))) (.d2 (.drop .nil))) (fun _ => nl rfl) fun v289 =>
  (b_seq (Γ1 := fun s299 : Bool => [some (oV ((vL C (vL C vInt)) a0)), some (oV (vBl s299)), none]) (b_tryA (Γx := fun y292 : Unit => [some (oV ((vL C (vL C vInt)) a0)), some (oV (vBl v289)), none]) (o := fun y292 => ()) (b_exp (evx (τ := fun x => oV ((vL C (tv0 C)) x)) (m := (outR (f5 a0))) (wk_ev (Γ' := [some (oV ((vL C (vL C vInt)) a0)), none, none]) (.keep (.d2 .nil)) (ev_fz (o := (oL C (ot0 C))) (ev_callT (i := 5) (T := T18) (τ := (oL C (ot0 C))) (os := fun k : (List (List Int)) × Unit => [(vL C (vL C vInt)) k.1]) (g := (fun k : (List (List Int)) × Unit => (k.1, ()))) (dv := []) (wd := []) (d5 (X := X)) (by decide) rfl (fun _ => .nil) (fun _ => rfl) (elv_consP (x := (a0 : (List (List Int)))) (evB_vV (τ := (vL C (vL C vInt))) (x := a0) rfl) (elv_nilE (by rfl)))))) (.k2 (.drop .nil))) fun v291 =>
  (b_nop (.k2 (.drop .nil)))) (fun _ => nl rfl) (fun p294 d295 e293 y292 c296 _ =>
  (b_asg (i := 1) (evx (τ := (fun x : Bool => oV (vBl x))) (wk_ev (Γ' := [none, none, some (oV (vX p294 d295 e293.fs))]) (.d2 (.keep .nil)) (ev_flat (ev_andV (ev_av2p (x := true) (y := (sub e293.c 0)) (ev_isv rfl) (ev_av1 (m := (Res.ok (sub e293.c 0))) (ev_isx rfl)))))) (.d2 (.drop .nil))) (fun _ => nl rfl) fun v297 =>
  (b_asg (i := 1) (evx (τ := (fun x : Bool => oV (vBl x))) (wk_ev (Γ' := [none, some (oV (vBl v297)), some (oV (vX p294 d295 e293.fs))]) (.drop (.k2 .nil)) (ev_flat (ev_andV (ev_av2p (x := v297) (y := ((!(sub e293.c 1)) && (!(sub e293.c 2)))) (evB_vV (τ := vBl) (x := v297) rfl) (ev_av2p (x := (!(sub e293.c 1))) (y := (!(sub e293.c 2))) (ev_notBP (b := (sub e293.c 1)) (ev_isx rfl)) (ev_av1 (m := (Res.ok (!(sub e293.c 2)))) (ev_notBP (b := (sub e293.c 2)) (ev_isx rfl)))))))) (.d2 (.drop .nil))) (fun _ => nl rfl) fun v298 =>
  (b_nop (.k2 (.drop .nil)))))) (fun m hm => X.exm m hm 3 (by decide)) (fun _ => rfl) (fun _ => rfl) (fun y292 => (.d2 (.drop .nil)))) fun s299 =>
  (b_ret (g := fun r300 => r300) (evx (x0 := ()) (wk_ev (Γ' := [none, some (oV (vBl s299)), none]) (.drop (.keep (.drop .nil))) (ev_flat (evB_vV (τ := vBl) (x := s299) rfl))) (.d2 (.drop .nil))) (fun _ => Le.refl _) (fun _ => (.d2 (.drop .nil))))))
def f20 (a0 : Int) (a1 : Int) : Out Unit Unit Int Unit :=
  (whileO () (fun s331 : Int × Int => (Res.ok (!decide (s331.2 = (0 : Int))))) (fun s331 : Int × Int =>
  ((gd (!decide (s331.2 = 0)) (Res.ok (Int.fmod s331.1 s331.2))).to () fun v332 =>
  (Res.ok s331.2).to () fun v333 =>
  (Res.ok v332).to () fun v334 =>
  .nx (v333, v334))) 60000 (a0, a1)).then fun s331 : Int × Int =>
  (Res.ok (if s331.1 < 0 then -s331.1 else s331.1)).to () fun r335 => .rt r335
theorem d20 {C : Kc} (X : Kf C) : FnT C R20 (fun k : Int × Int × Unit => [vInt k.1, vInt k.2.1]) (fun x : Int => oV (vInt x)) (fun k => outR (f20 k.1 k.2.1)) :=
  fn_read (T := T20) (cs := cs) (n := 2) (N := 3) (s := b20) (fun _ => rfl) (fun _ => rfl) fun ⟨a0, a1, _⟩ =>
  (b_whl (Γ0 := fun s331 : Int × Int => [some (oV (vInt s331.1)), some (oV (vInt s331.2)), none]) (s0 := (a0, a1)) 60000 (.k2 (.drop .nil)) (fun s331 => (wk_evT (Γ' := [none, some (oV (vInt s331.2)), none]) (.drop (.keep (.drop .nil))) (ev_test (ev_cmpP (op := fun (x : Int) (y : Int) => (Res.ok (!decide (x = y)))) (x := s331.2) (y := (0 : Int)) (eI (x := s331.2) rfl) (ev_int 0) op_neI)))) (fun s331 => (.d2 (.drop .nil))) (fun s331 =>
  (b_asg (i := 2) (evx (τ := (fun x : Int => oV (vInt x))) (wk_ev (Γ' := [some (oV (vInt s331.1)), some (oV (vInt s331.2)), none]) (.k2 (.drop .nil)) (ev_flat (ev_binP (op := fun (x : Int) (y : Int) => (gd (!decide (y = 0)) (Res.ok (Int.fmod x y)))) (x := s331.1) (y := s331.2) (eI (x := s331.1) rfl) (eI (x := s331.2) rfl) op_modI))) (.d2 (.drop .nil))) (fun _ => nl rfl) fun v332 =>
  (b_asg (i := 0) (evx (τ := (fun x : Int => oV (vInt x))) (wk_ev (Γ' := [none, some (oV (vInt s331.2)), none]) (.drop (.keep (.drop .nil))) (ev_flat (eI (x := s331.2) rfl))) (.d2 (.drop .nil))) (fun _ => nl rfl) fun v333 =>
  (b_asg (i := 1) (evx (τ := (fun x : Int => oV (vInt x))) (wk_ev (Γ' := [none, none, some (oV (vInt v332))]) (.d2 (.keep .nil)) (ev_flat (eI (x := v332) rfl))) (.d2 (.drop .nil))) (fun _ => nl rfl) fun v334 =>
  (b_nop (.k2 (.drop .nil))))))) fun s331 =>
  (b_ret (g := fun r335 => r335) (evx (x0 := ()) (wk_ev (Γ' := [some (oV (vInt s331.1)), none, none]) (.keep (.d2 .nil)) (ev_flat (ev_blt1P (x := s331.1) (op := fun x : Int => (Res.ok (if x < 0 then -x else x))) (eI (x := s331.1) rfl) bl_abs))) (.d2 (.drop .nil))) (fun _ => Le.refl _) (fun _ => (.d2 (.drop .nil)))))
def f19 (a0 : (List (List Int))) (a1 : (List (Int × (List Int)))) : Out Unit Unit Bool Unit :=
  (Res.ok (a0.length : Int)).to () fun v303 =>
  (Res.ok ((!true) || (!decide ((a1.length : Int) = v303)))).to () fun b304 => cond b304
  ((Res.ok false).to () fun r305 => .rt r305)
  ((Res.ok v303).to () fun n346 => gdO (rngB 0 n346) ((loopO (fun (x307 : Int) (s306 : Unit) =>
  ((orR (((ixR a1 x307 >>= fun x308 => (Res.ok true)) >>= fun x309 => (Res.ok (!x309)))) (((ixR a1 x307 >>= fun x310 => (Res.ok ((2 : Nat) : Int))) >>= fun x311 => (Res.ok (!decide (x311 = (2 : Int))))))).to () fun b312 => cond b312
  ((Res.ok false).to () fun r313 => .rt r313)
  (((ixR a1 x307 >>= fun x315 => (Res.ok x315.1))).to () fun v314 =>
  ((ixR a1 x307 >>= fun x317 => (Res.ok x317.2))).to () fun v316 =>
  (orR ((outR (f12 v314) >>= fun x319 => (Res.ok (!x319)))) (Res.ok ((decide (v314 < (1 : Int))) || ((!true) || (!decide ((v316.length : Int) = v303)))))).to () fun b320 => cond b320
  ((Res.ok false).to () fun r321 => .rt r321)
  ((Res.ok v314).to () fun v322 =>
  (Res.ok v316).to () fun l325 => (loopO (fun (x324 : Int) (s323 : Int) =>
  (((outR (f12 x324) >>= fun x327 => (Res.ok (!x327)))).to () fun b328 => cond b328
  ((Res.ok false).to () fun r329 => .rt r329)
  ((outR (f20 s323 x324)).to () fun v330 =>
  .nx v330))) l325 v322).then fun s323 : Int =>
  (gd (rngB 0 v303 && decide (Int.toNat v303 ≤ sizeLine)) (lcR (fun z339 : Int => (Res.ok true)) (fun z339 : Int => (gd (mulB v314 (if (decide (z339 = x307)) then 1 else 0)) (Res.ok (v314 * (if (decide (z339 = x307)) then 1 else 0))))) (rng 0 v303))).to () fun v338 =>
  (orR (Res.ok (!decide (s323 = (1 : Int)))) ((outR (f13 a0 v316) >>= fun x342 => (neR ((fun xs : (List Int) => PyData.list (xs.map PyData.int)) x342) ((fun xs : (List Int) => PyData.list (xs.map PyData.int)) v338))))).to () fun b343 => cond b343
  ((Res.ok false).to () fun r344 => .rt r344)
  (.nx ()))))) (rng 0 n346) ()).then fun s306 : Unit =>
  (Res.ok true).to () fun r345 => .rt r345))
theorem d19 {C : Kc} (X : Kf C) : FnT C R19 (fun k : (List (List Int)) × (List Y0) × Unit => [(vL C (vL C vInt)) k.1, (vL C (tv0 C)) k.2.1]) (fun x : Bool => oV (vBl x)) (fun k => outR (f19 k.1 k.2.1)) :=
  fn_read (T := T19) (cs := cs) (n := 2) (N := 10) (s := b19) (fun _ => rfl) (fun _ => rfl) fun ⟨a0, a1, _⟩ =>
  (b_asg (i := 2) (evx (τ := (fun x : Int => oV (vInt x))) (wk_ev (Γ' := (some (oV ((vL C (vL C vInt)) a0)) :: none :: (n8 []))) (.keep (.d8 (.drop .nil))) (ev_flat (ev_blt1P (x := a0) (op := fun x : (List (List Int)) => (Res.ok (x.length : Int))) (evB_vV (τ := (vL C (vL C vInt))) (x := a0) rfl) bl_lenL))) (.d8 (.d2 .nil))) (fun _ => nl rfl) fun v303 =>
  (b_ifL (m := (Res.ok ((!true) || (!decide ((a1.length : Int) = v303))))) (wk_evT (Γ' := (none :: some (oV ((vL C (tv0 C)) a1)) :: some (oV (vInt v303)) :: none :: (n2 (n4 [])))) (.drop (.k2 (.d4 (.d2 (.drop .nil))))) (ev_orT (ev_r2p (x := (!true)) (y := (!decide ((a1.length : Int) = v303))) (ev_notTP (b := true) (ev_test (ev_isiTP (x := a1) (b := true) (evB_vV (τ := (vL C (tv0 C))) (x := a1) rfl) (by decide) (by decide) (by decide)))) (ev_r1 (m := (Res.ok (!decide ((a1.length : Int) = v303)))) (ev_test (ev_cmpP (op := fun (x : Int) (y : Int) => (Res.ok (!decide (x = y)))) (x := (a1.length : Int)) (y := v303) (ev_blt1P (x := a1) (op := fun x : (List Y0) => (Res.ok (x.length : Int))) (evB_vV (τ := (vL C (tv0 C))) (x := a1) rfl) bl_lenL) (eI (x := v303) rfl) op_neI)))))) (.d8 (.d2 .nil)) rfl
  (b_ret (g := fun r305 => r305) (evx (x0 := ()) (wk_ev (Γ' := (n2 (n8 []))) (.d8 (.d2 .nil)) (ev_flat (ev_bl false))) (.d8 (.d2 .nil))) (fun _ => Le.refl _) (fun _ => (.d8 (.d2 .nil))))
  (b_forR1 (j := 3) (m := (Res.ok v303)) (Γ0 := fun s306 : Unit => (some (oV ((vL C (vL C vInt)) a0)) :: some (oV ((vL C (tv0 C)) a1)) :: some (oV (vInt v303)) :: none :: (n2 (n4 [])))) (s0 := ()) (wk_ev (Γ' := (n2 (some (oV (vInt v303)) :: none :: (n2 (n4 []))))) (.d2 (.keep (.d4 (.d2 (.drop .nil))))) (eI (x := v303) rfl)) (.d8 (.d2 .nil)) (.k2 (.keep (.d4 (.d2 (.drop .nil))))) (fun _ => nl rfl) (fun x307 s306 =>
  (b_ifL (m := (orR (((ixR a1 x307 >>= fun x308 => (Res.ok true)) >>= fun x309 => (Res.ok (!x309)))) (((ixR a1 x307 >>= fun x310 => (Res.ok ((2 : Nat) : Int))) >>= fun x311 => (Res.ok (!decide (x311 = (2 : Int)))))))) (wk_evT (Γ' := (none :: some (oV ((vL C (tv0 C)) a1)) :: none :: some (oV (vInt x307)) :: (n2 (n4 [])))) (.drop (.keep (.drop (.keep (.d4 (.d2 .nil)))))) (ev_orT (ev_r2 (m := (((ixR a1 x307 >>= fun x308 => (Res.ok true)) >>= fun x309 => (Res.ok (!x309))))) (n := (((ixR a1 x307 >>= fun x310 => (Res.ok ((2 : Nat) : Int))) >>= fun x311 => (Res.ok (!decide (x311 = (2 : Int))))))) (ev_notT (m := ((ixR a1 x307 >>= fun x308 => (Res.ok true)))) (ev_test (ev_isiT (m := (ixR a1 x307)) (b := true) (ev_ixP (op := ixR) (x := a1) (y := x307) (evB_vV (τ := (vL C (tv0 C))) (x := a1) rfl) (eI (x := x307) rfl) op_ixL) (by decide) (by decide) (by decide)))) (ev_r1 (m := (((ixR a1 x307 >>= fun x310 => (Res.ok ((2 : Nat) : Int))) >>= fun x311 => (Res.ok (!decide (x311 = (2 : Int))))))) (ev_test (ev_cmpR (op := fun (x : Int) (y : Int) => (Res.ok (!decide (x = y)))) (ma := ((ixR a1 x307 >>= fun x310 => (Res.ok ((2 : Nat) : Int))))) (y := (2 : Int)) (ev_blt1 (ma := (ixR a1 x307)) (op := fun x : Y0 => (Res.ok ((2 : Nat) : Int))) (ev_ixP (op := ixR) (x := a1) (y := x307) (evB_vV (τ := (vL C (tv0 C))) (x := a1) rfl) (eI (x := x307) rfl) op_ixL) (bl_lenT (ws := fun x : Y0 => [vInt x.1, (vL C vInt) x.2]) (n := 2) fun _ => rfl)) (ev_int 2) op_neI)))))) (.d8 (.d2 .nil)) rfl
  (b_ret (g := fun r313 => r313) (evx (x0 := ()) (wk_ev (Γ' := (n2 (n8 []))) (.d8 (.d2 .nil)) (ev_flat (ev_bl false))) (.d8 (.d2 .nil))) (fun _ => Le.refl _) (fun _ => (.d8 (.d2 .nil))))
  (b_asg (i := 4) (evx (τ := (fun x : Int => oV (vInt x))) (wk_ev (Γ' := (none :: some (oV ((vL C (tv0 C)) a1)) :: none :: some (oV (vInt x307)) :: (n2 (n4 [])))) (.drop (.keep (.drop (.keep (.d4 (.d2 .nil)))))) (ev_flat (ev_pick (m := (ixR a1 x307)) (ws := fun x : Y0 => [vInt x.1, (vL C vInt) x.2]) (τ := vInt) (f := fun x : Y0 => x.1) (ev_ixP (op := ixR) (x := a1) (y := x307) (evB_vV (τ := (vL C (tv0 C))) (x := a1) rfl) (eI (x := x307) rfl) op_ixL) fun _ => rfl))) (.d8 (.d2 .nil))) (fun _ => nl rfl) fun v314 =>
  (b_asg (i := 5) (evx (τ := (fun x : (List Int) => oV ((vL C vInt) x))) (wk_ev (Γ' := (none :: some (oV ((vL C (tv0 C)) a1)) :: none :: some (oV (vInt x307)) :: (n2 (n4 [])))) (.drop (.keep (.drop (.keep (.d4 (.d2 .nil)))))) (ev_pickF (m := (ixR a1 x307)) (ws := fun x : Y0 => [vInt x.1, (vL C vInt) x.2]) (τ := (vL C vInt)) (f := fun x : Y0 => x.2) (ev_ixFP (xs := a1) (i := x307) (evO_v (τ := (vL C (tv0 C))) (x := a1) rfl) (eI (x := x307) rfl)) fun _ => rfl)) (.d8 (.d2 .nil))) (fun _ => nl rfl) fun v316 =>
  (b_ifL (m := (orR ((outR (f12 v314) >>= fun x319 => (Res.ok (!x319)))) (Res.ok ((decide (v314 < (1 : Int))) || ((!true) || (!decide ((v316.length : Int) = v303))))))) (wk_evT (Γ' := (n2 (some (oV (vInt v303)) :: none :: some (oV (vInt v314)) :: some (oV ((vL C vInt) v316)) :: (n4 [])))) (.d2 (.keep (.drop (.k2 (.d4 .nil))))) (ev_orT (ev_r2 (m := ((outR (f12 v314) >>= fun x319 => (Res.ok (!x319))))) (n := (Res.ok ((decide (v314 < (1 : Int))) || ((!true) || (!decide ((v316.length : Int) = v303)))))) (ev_notT (m := (outR (f12 v314))) (ev_test (ev_see (o := (fun x : Bool => oV (vBl x))) (ev_callT (i := 12) (T := T19) (τ := (fun x : Bool => oV (vBl x))) (os := fun k : Int × Unit => [vInt k.1]) (g := (fun k : Int × Unit => (k.1, ()))) (dv := []) (wd := []) (d12 (X := X)) (by decide) rfl (fun _ => .nil) (fun _ => rfl) (elv_consP (x := (v314 : Int)) (eI (x := v314) rfl) (elv_nilE (by rfl))))))) (ev_r2p (x := (decide (v314 < (1 : Int)))) (y := ((!true) || (!decide ((v316.length : Int) = v303)))) (ev_test (ev_cmpP (op := fun (x : Int) (y : Int) => (Res.ok (decide (x < y)))) (x := v314) (y := (1 : Int)) (eI (x := v314) rfl) (ev_int 1) op_lt)) (ev_r2p (x := (!true)) (y := (!decide ((v316.length : Int) = v303))) (ev_notTP (b := true) (ev_test (ev_isiTP (x := v316) (b := true) (evB_vV (τ := (vL C vInt)) (x := v316) rfl) (by decide) (by decide) (by decide)))) (ev_r1 (m := (Res.ok (!decide ((v316.length : Int) = v303)))) (ev_test (ev_cmpP (op := fun (x : Int) (y : Int) => (Res.ok (!decide (x = y)))) (x := (v316.length : Int)) (y := v303) (ev_blt1P (x := v316) (op := fun x : (List Int) => (Res.ok (x.length : Int))) (evB_vV (τ := (vL C vInt)) (x := v316) rfl) bl_lenL) (eI (x := v303) rfl) op_neI)))))))) (.d8 (.d2 .nil)) rfl
  (b_ret (g := fun r321 => r321) (evx (x0 := ()) (wk_ev (Γ' := (n2 (n8 []))) (.d8 (.d2 .nil)) (ev_flat (ev_bl false))) (.d8 (.d2 .nil))) (fun _ => Le.refl _) (fun _ => (.d8 (.d2 .nil))))
  (b_asg (i := 6) (evx (τ := (fun x : Int => oV (vInt x))) (wk_ev (Γ' := (n4 (some (oV (vInt v314)) :: none :: (n4 [])))) (.d4 (.keep (.d4 (.drop .nil)))) (ev_flat (eI (x := v314) rfl))) (.d8 (.d2 .nil))) (fun _ => nl rfl) fun v322 =>
  (b_forL (j := 7) (m := (Res.ok v316)) (τ := vInt) (Γ0 := fun s323 : Int => [some (oV ((vL C (vL C vInt)) a0)), some (oV ((vL C (tv0 C)) a1)), some (oV (vInt v303)), some (oV (vInt x307)), some (oV (vInt v314)), some (oV ((vL C vInt) v316)), some (oV (vInt s323)), none, none, none]) (s0 := v322) (wk_ev (Γ' := (none :: (n4 (some (oV ((vL C vInt) v316)) :: (n4 []))))) (.d4 (.drop (.keep (.d4 .nil)))) (evO_v (τ := (vL C vInt)) (x := v316) rfl)) (.d8 (.d2 .nil)) (.k4 (.k2 (.keep (.d2 (.drop .nil))))) (fun _ => nl rfl) (fun x324 s323 =>
  (b_ifL (m := ((outR (f12 x324) >>= fun x327 => (Res.ok (!x327))))) (wk_evT (Γ' := (none :: (n2 (n4 (some (oV (vInt x324)) :: (n2 [])))))) (.d4 (.d2 (.drop (.keep (.d2 .nil))))) (ev_notT (m := (outR (f12 x324))) (ev_test (ev_see (o := (fun x : Bool => oV (vBl x))) (ev_callT (i := 12) (T := T19) (τ := (fun x : Bool => oV (vBl x))) (os := fun k : Int × Unit => [vInt k.1]) (g := (fun k : Int × Unit => (k.1, ()))) (dv := []) (wd := []) (d12 (X := X)) (by decide) rfl (fun _ => .nil) (fun _ => rfl) (elv_consP (x := (x324 : Int)) (eI (x := x324) rfl) (elv_nilE (by rfl)))))))) (.d8 (.d2 .nil)) rfl
  (b_ret (g := fun r329 => r329) (evx (x0 := ()) (wk_ev (Γ' := (n2 (n8 []))) (.d8 (.d2 .nil)) (ev_flat (ev_bl false))) (.d8 (.d2 .nil))) (fun _ => Le.refl _) (fun _ => (.d8 (.d2 .nil))))
  (b_asg (i := 6) (evx (τ := (fun x : Int => oV (vInt x))) (wk_ev (Γ' := (n2 (n4 (some (oV (vInt s323)) :: some (oV (vInt x324)) :: (n2 []))))) (.d4 (.d2 (.k2 (.d2 .nil)))) (ev_flat (ev_see (o := (fun x : Int => oV (vInt x))) (ev_callT (i := 20) (T := T19) (τ := (fun x : Int => oV (vInt x))) (os := fun k : Int × Int × Unit => [vInt k.1, vInt k.2.1]) (g := (fun k : Int × Int × Unit => (k.1, k.2.1, ()))) (dv := []) (wd := []) (d20 (X := X)) (by decide) rfl (fun _ => .nil) (fun _ => rfl) (elv_consP (x := (s323 : Int)) (eI (x := s323) rfl) (elv_consP (x := (x324 : Int)) (eI (x := x324) rfl) (elv_nilE (by rfl)))))))) (.d8 (.d2 .nil))) (fun _ => nl rfl) fun v330 =>
  (b_nop (.k4 (.k2 (.keep (.d2 (.drop .nil))))))))) fun s323 =>
  (b_asg (i := 8) (evx (τ := (fun x : (List Int) => oV ((vL C vInt) x))) (wk_ev (Γ' := (n2 (some (oV (vInt v303)) :: some (oV (vInt x307)) :: some (oV (vInt v314)) :: none :: (n4 [])))) (.d2 (.k2 (.keep (.d4 (.drop .nil))))) (ev_fz (o := (oL C fun x => oV (vInt x))) (ev_lcR1P (n := v303) (ε := (fun x : Int => oV (vInt x))) (c := fun z339 : Int => (Res.ok true)) (f := fun z339 : Int => (gd (mulB v314 (if (decide (z339 = x307)) then 1 else 0)) (Res.ok (v314 * (if (decide (z339 = x307)) then 1 else 0))))) (eI (x := v303) rfl) (fun z339 => eps_nil) (fun z339 => (ev_flat (ev_binP (op := fun (x : Int) (y : Int) => (gd (mulB x y) (Res.ok (x * y)))) (x := v314) (y := (if (decide (z339 = x307)) then 1 else 0)) (eI (x := v314) rfl) (ev_blt1P (x := (decide (z339 = x307))) (op := fun x : Bool => (Res.ok (if x then 1 else 0))) (ev_cmpP (op := fun (x : Int) (y : Int) => (Res.ok (decide (x = y)))) (x := z339) (y := x307) (eI (x := z339) rfl) (eI (x := x307) rfl) op_eqI) bl_intB) op_mulI)))))) (.d8 (.d2 .nil))) (fun _ => nl rfl) fun v338 =>
  (b_end (b_if (m := (orR (Res.ok (!decide (s323 = (1 : Int)))) ((outR (f13 a0 v316) >>= fun x342 => (neR ((fun xs : (List Int) => PyData.list (xs.map PyData.int)) x342) ((fun xs : (List Int) => PyData.list (xs.map PyData.int)) v338)))))) (wk_evT (Γ' := (some (oV ((vL C (vL C vInt)) a0)) :: (n4 [some (oV ((vL C vInt) v316)), some (oV (vInt s323)), none, some (oV ((vL C vInt) v338)), none]))) (.keep (.d4 (.k2 (.drop (.keep (.drop .nil)))))) (ev_orT (ev_r2 (m := (Res.ok (!decide (s323 = (1 : Int))))) (n := ((outR (f13 a0 v316) >>= fun x342 => (neR ((fun xs : (List Int) => PyData.list (xs.map PyData.int)) x342) ((fun xs : (List Int) => PyData.list (xs.map PyData.int)) v338))))) (ev_test (ev_cmpP (op := fun (x : Int) (y : Int) => (Res.ok (!decide (x = y)))) (x := s323) (y := (1 : Int)) (eI (x := s323) rfl) (ev_int 1) op_neI)) (ev_r1 (m := ((outR (f13 a0 v316) >>= fun x342 => (neR ((fun xs : (List Int) => PyData.list (xs.map PyData.int)) x342) ((fun xs : (List Int) => PyData.list (xs.map PyData.int)) v338))))) (ev_test (ev_cmpR (op := fun (x : (List Int)) (y : (List Int)) => neR ((fun xs : (List Int) => PyData.list (xs.map PyData.int)) x) ((fun xs : (List Int) => PyData.list (xs.map PyData.int)) y)) (ma := (outR (f13 a0 v316))) (y := v338) (ev_see (o := (fun x : (List Int) => oV ((vL C vInt) x))) (ev_callF (i := 13) (T := T19) (τ := (fun x : (List Int) => oV ((vL C vInt) x))) (os := fun k : (List (List Int)) × (List Int) × Unit => [(vL C (vL C vInt)) k.1, (vL C vInt) k.2.1]) (g := (fun k : (List (List Int)) × (List Int) × Unit => (k.1, k.2.1, ()))) (dv := []) (wd := []) (d13 (X := X)) (by decide) rfl (fun _ => .nil) (fun _ => rfl) (elo_consP (x := (a0 : (List (List Int)))) (evO_v (τ := (vL C (vL C vInt))) (x := a0) rfl) (elo_consP (x := (v316 : (List Int))) (evO_v (τ := (vL C vInt)) (x := v316) rfl) (elo_nilE (by rfl)))))) (evB_vV (τ := (vL C vInt)) (x := v338) rfl) op_ne)))))) (.d8 (.d2 .nil))
  (b_ret (g := fun r344 => r344) (evx (x0 := ()) (wk_ev (Γ' := (n2 (n8 []))) (.d8 (.d2 .nil)) (ev_flat (ev_bl false))) (.d8 (.d2 .nil))) (fun _ => Le.refl _) (fun _ => (.d8 (.d2 .nil))))
  (b_nop (.k2 (.keep (.d4 (.d2 (.drop .nil)))))))))))))))) fun s306 =>
  (b_ret (g := fun r345 => r345) (evx (x0 := ()) (wk_ev (Γ' := (n2 (n8 []))) (.d8 (.d2 .nil)) (ev_flat (ev_bl true))) (.d8 (.d2 .nil))) (fun _ => Le.refl _) (fun _ => (.d8 (.d2 .nil)))))))
def f0 (a0 : (List Int)) : Out Unit Unit Bool Unit :=
  (outR (f1 a0)).to () fun v1 =>
  (gd (decide (v1.length ≤ sizeLine)) (lcR (fun z96 : (List Int) => (Res.ok true)) (fun z96 : (List Int) => (Res.ok z96)) v1)).to () fun v95 =>
  (Res.ok none).to () fun v97 =>
  (Res.ok none).to () fun v98 =>
  (catO cs (fun m => sub m 0) (((outR (f5 v95) >>= fun x198 => (Res.ok (some x198)))).to v98 fun v99 =>
  .nx (v99, v97))
  (fun e200 (y199 : (Option (List (Int × (List Int))))) => optO (lstA prI ("mix" : Str) e200.fs) fun x204 : (List Int) => noEO (.nx (y199, (some [x204])))) (fun y199 => ())).then fun s205 : (Option (List (Int × (List Int)))) × (Option (List (List Int))) =>
  (neR ((fun xs : (List (List Int)) => PyData.list (xs.map (fun xs : (List Int) => PyData.list (xs.map PyData.int)))) v95) ((fun xs : (List (List Int)) => PyData.list (xs.map (fun xs : (List Int) => PyData.list (xs.map PyData.int)))) v1)).to () fun b206 => cond b206
  ((Res.ok false).to () fun r207 => .rt r207)
  ((Res.ok (s205.2.isSome)).to () fun b208 => cond b208
  (((((getR s205.2 >>= fun x235 => (ixR x235 (0 : Int))) >>= fun x236 => (outR (f11 v1 x236))) >>= fun x239 => (Res.ok (!x239)))).to () fun b240 => cond b240
  ((Res.ok false).to () fun r241 => .rt r241)
  (optO s205.2 fun x243 : (List (List Int)) =>
  (ixR x243 (0 : Int)).to () fun x245 => (andR (outR (f14 v1 v95)) (outR (f18 v95))).to () fun r302 => .rt r302))
  ((((getR s205.1 >>= fun x347 => (outR (f19 v1 x347))) >>= fun x350 => (Res.ok (!x350)))).to () fun b351 => cond b351
  ((Res.ok false).to () fun r352 => .rt r352)
  (((getR s205.1 >>= fun x357 => (gd (decide (x357.length ≤ sizeLine)) (lcR (fun z354 : (Int × (List Int)) => (Res.ok true)) (fun z354 : (Int × (List Int)) => (Res.ok (z354.1, z354.2))) x357)))).to () fun v353 =>
  (loopO (fun (x359 : (List Int)) (s358 : Unit) =>
  (.nx ())) v95 ()).then fun s358 : Unit =>
  (neR ((pdOpt (fun xs : (List (Int × (List Int))) => PyData.list (xs.map tp0))) s205.1) ((fun xs : (List (Int × (List Int))) => PyData.list (xs.map tp0)) v353)).to () fun b363 => cond b363
  ((Res.ok false).to () fun r364 => .rt r364)
  (optO s205.1 fun x368 : (List (Int × (List Int))) =>
  (loopO (fun (x370 : (Int × (List Int))) (s369 : Unit) =>
  (.nx ())) x368 ()).then fun s369 : Unit =>
  ((gd (decide (v1.length ≤ sizeLine)) (lcR (fun z375 : (List Int) => (Res.ok true)) (fun z375 : (List Int) => (Res.ok z375)) v1) >>= fun x376 => (outR (f5 x376)))).to () fun v374 =>
  (andR (outR (f19 v1 v374)) (eqR ((fun xs : (List (Int × (List Int))) => PyData.list (xs.map tp0)) v374) ((fun xs : (List (Int × (List Int))) => PyData.list (xs.map tp0)) v353))).to () fun r380 => .rt r380))))
theorem d0 {C : Kc} (X : Kf C) : FnT C R0 (fun k : (List Int) × Unit => [(vL C vInt) k.1]) (fun x : Bool => oV (vBl x)) (fun k => outR (f0 k.1)) :=
  fn_read (T := T0) (cs := cs) (n := 1) (N := 11) (s := b0) (fun _ => rfl) (fun _ => rfl) fun ⟨a0, _⟩ =>
  (b_asg (i := 1) (evx (τ := (fun x : (List (List Int)) => oV ((vL C (vL C vInt)) x))) (wk_ev (Γ' := (some (oV ((vL C vInt) a0)) :: (n2 (n8 [])))) (.keep (.d8 (.d2 .nil))) (ev_callF (i := 1) (T := T0) (τ := (fun x : (List (List Int)) => oV ((vL C (vL C vInt)) x))) (os := fun k : (List Int) × Unit => [(vL C vInt) k.1]) (g := (fun k : (List Int) × Unit => (k.1, ()))) (dv := []) (wd := []) (d1 (X := X)) (by decide) rfl (fun _ => .nil) (fun _ => rfl) (elo_consP (x := (a0 : (List Int))) (evO_v (τ := (vL C vInt)) (x := a0) rfl) (elo_nilE (by rfl))))) (.d8 (.d2 (.drop .nil)))) (fun _ => nl rfl) fun v1 =>
  (b_asg (i := 2) (evx (τ := (oL C (oL C fun x => oV (vInt x)))) (wk_ev (Γ' := (none :: some (oV ((vL C (vL C vInt)) v1)) :: none :: (n8 []))) (.drop (.keep (.d8 (.drop .nil)))) (ev_lcP (xs := v1) (τ := (vL C vInt)) (ε := (oL C fun x => oV (vInt x))) (c := fun z96 : (List Int) => (Res.ok true)) (f := fun z96 : (List Int) => (Res.ok z96)) (evO_v (τ := (vL C (vL C vInt))) (x := v1) rfl) (fun z96 => eps_nil) (fun z96 => (ev_blt1P (x := z96) (op := fun x => Res.ok x) (evB_vV (τ := (vL C vInt)) (x := z96) rfl) bl_list)))) (.d8 (.d2 (.drop .nil)))) (fun _ => nl rfl) fun v95 =>
  (by exact (b_asg (i := 3) (evx (τ := (oOpt (oL C (oL C fun x => oV (vInt x))))) (ev_oNone (o := (oL C (oL C fun x => oV (vInt x))))) (.d8 (.d2 (.drop .nil)))) (fun _ => nl rfl) fun v97 =>
  (by exact (b_asg (i := 4) (evx (τ := (oOpt (oL C (ot0 C)))) (ev_oNone (o := (oL C (ot0 C)))) (.d8 (.d2 (.drop .nil)))) (fun _ => nl rfl) fun v98 =>
  (by exact (b_seq (Γ1 := fun s205 : (Option (List Y0)) × (Option (List (List Int))) => (some (oV ((vL C vInt) a0)) :: some (oV ((vL C (vL C vInt)) v1)) :: some ((oL C (oL C fun x => oV (vInt x))) v95) :: some ((oOpt (oL C (oL C fun x => oV (vInt x)))) s205.2) :: some ((oOpt (oL C (ot0 C))) s205.1) :: (n2 (n4 [])))) (b_tryAL (i := 5) (pr := prI) (inj := V.int) (f := ("mix" : Str)) (Γx := fun y199 : (Option (List Y0)) => (some (oV ((vL C vInt) a0)) :: some (oV ((vL C (vL C vInt)) v1)) :: some ((oL C (oL C fun x => oV (vInt x))) v95) :: some ((oOpt (oL C (oL C fun x => oV (vInt x)))) v97) :: some ((oOpt (oL C (ot0 C))) y199) :: (n2 (n4 [])))) (o := fun y199 => ()) (fun _ _ => prI_inv) (b_asg (i := 4) (evx (τ := (oOpt (oL C (ot0 C)))) (ev_oSome (o := (oL C (ot0 C))) (m := (outR (f5 v95))) (bor_evC (Γ' := (n2 (some (oV ((vL C (vL C vInt)) v95)) :: (n8 [])))) (.d2 (.put (OwV.eq (o := (oL C (oL C fun x => oV (vInt x)))) v95) (.d8 .nil))) (ev_callT (i := 5) (T := T0) (τ := (oL C (ot0 C))) (os := fun k : (List (List Int)) × Unit => [(vL C (vL C vInt)) k.1]) (g := (fun k : (List (List Int)) × Unit => (k.1, ()))) (dv := []) (wd := []) (d5 (X := X)) (by decide) rfl (fun _ => .nil) (fun _ => rfl) (elv_consP (x := (v95 : (List (List Int)))) (evB_vV (τ := (vL C (vL C vInt))) (x := v95) rfl) (elv_nilE (by rfl)))))) (.k4 (.keep (.d4 (.d2 .nil))))) (fun _ => nl rfl) fun v99 =>
  (by exact (b_nop (.k4 (.keep (.d4 (.d2 .nil))))))) (fun _ => nl rfl) (fun p201 d202 e200 x204 y199 c203 _ =>
  (b_asg (i := 3) (evx_mvX (i := 5) (τ := (oL C fun x => oV (vInt x))) (x := x204) rfl (X.fnf _ c203 "mix" (by decide))) (fun _ => nl rfl) fun _ =>
  (b_lit (Γ' := (some (oV ((vL C vInt) a0)) :: some (oV ((vL C (vL C vInt)) v1)) :: some ((oL C (oL C fun x => oV (vInt x))) v95) :: some ((oOpt (oL C (oL C fun x => oV (vInt x)))) (some [x204])) :: some ((oOpt (oL C (ot0 C))) y199) :: (n2 (n4 [])))) rfl (b_nop (.k4 (.keep (.d4 (.d2 .nil)))))))) (fun m hm => X.exm m hm 0 (by decide)) (fun _ => rfl) (fun _ => rfl) (fun y199 => (.d8 (.d2 (.drop .nil))))) fun s205 =>
  (b_ifL (m := (neR ((fun xs : (List (List Int)) => PyData.list (xs.map (fun xs : (List Int) => PyData.list (xs.map PyData.int)))) v95) ((fun xs : (List (List Int)) => PyData.list (xs.map (fun xs : (List Int) => PyData.list (xs.map PyData.int)))) v1))) (bor_evT (Γ' := (none :: some (oV ((vL C (vL C vInt)) v1)) :: some (oV ((vL C (vL C vInt)) v95)) :: (n8 []))) (.drop (.put rfl (.put (OwV.eq (o := (oL C (oL C fun x => oV (vInt x)))) v95) (.d8 .nil)))) (ev_test (ev_cmpP (op := fun (x : (List (List Int))) (y : (List (List Int))) => neR ((fun xs : (List (List Int)) => PyData.list (xs.map (fun xs : (List Int) => PyData.list (xs.map PyData.int)))) x) ((fun xs : (List (List Int)) => PyData.list (xs.map (fun xs : (List Int) => PyData.list (xs.map PyData.int)))) y)) (x := v95) (y := v1) (evB_vV (τ := (vL C (vL C vInt))) (x := v95) rfl) (evB_vV (τ := (vL C (vL C vInt))) (x := v1) rfl) op_ne))) (.d8 (.d2 (.drop .nil))) rfl
  (b_ret (g := fun r207 => r207) (evx (x0 := ()) (wk_ev (Γ' := (none :: (n2 (n8 [])))) (.d8 (.d2 (.drop .nil))) (ev_flat (ev_bl false))) (.d8 (.d2 (.drop .nil)))) (fun _ => Le.refl _) (fun _ => (.d8 (.d2 (.drop .nil)))))
  (b_ifL (m := (Res.ok (s205.2.isSome))) (bor_evT (Γ' := (none :: (n2 (some (oV ((vOpt (vL C (vL C vInt))) s205.2)) :: none :: (n2 (n4 [])))))) (.d2 (.drop (.put (OwV.eq (o := (oOpt (oL C (oL C fun x => oV (vInt x))))) s205.2) (.d4 (.d2 (.drop .nil)))))) (ev_test (ev_cmpP (op := fun (x : (Option (List (List Int)))) _ => Res.ok x.isSome) (x := s205.2) (y := ()) (evB_vV (τ := (vOpt (vL C (vL C vInt)))) (x := s205.2) rfl) ev_non op_isN))) (.d8 (.d2 (.drop .nil))) rfl
  (b_ifL (m := ((((getR s205.2 >>= fun x235 => (ixR x235 (0 : Int))) >>= fun x236 => (outR (f11 v1 x236))) >>= fun x239 => (Res.ok (!x239))))) (bor_evT (Γ' := (none :: some (oV ((vL C (vL C vInt)) v1)) :: none :: some (oV ((vOpt (vL C (vL C vInt))) s205.2)) :: none :: (n2 (n4 [])))) (.drop (.put rfl (.drop (.put (OwV.eq (o := (oOpt (oL C (oL C fun x => oV (vInt x))))) s205.2) (.d4 (.d2 (.drop .nil))))))) (ev_notT (m := (((getR s205.2 >>= fun x235 => (ixR x235 (0 : Int))) >>= fun x236 => (outR (f11 v1 x236))))) (ev_test (ev_see (o := (fun x : Bool => oV (vBl x))) (ev_callT (i := 11) (T := T0) (τ := (fun x : Bool => oV (vBl x))) (os := fun k : (List (List Int)) × (List Int) × Unit => [(vL C (vL C vInt)) k.1, (vL C vInt) k.2.1]) (g := (fun k : (List (List Int)) × (List Int) × Unit => (k.1, k.2.1, ()))) (dv := []) (wd := []) (d11 (X := X)) (by decide) rfl (fun _ => .nil) (fun _ => rfl) (elv_consP (x := (v1 : (List (List Int)))) (evB_vV (τ := (vL C (vL C vInt))) (x := v1) rfl) (elv_cons (m := ((getR s205.2 >>= fun x235 => (ixR x235 (0 : Int))))) (ev_ixR (op := ixR) (ma := (getR s205.2)) (y := (0 : Int)) (ev_getP (x := s205.2) (evB_vV (τ := (vOpt (vL C (vL C vInt)))) (x := s205.2) rfl)) (ev_int 0) op_ixL) fun y238 => (elv_nilE (by rfl))))))))) (.d8 (.d2 (.drop .nil))) rfl
  (b_ret (g := fun r241 => r241) (evx (x0 := ()) (wk_ev (Γ' := (none :: (n2 (n8 [])))) (.d8 (.d2 (.drop .nil))) (ev_flat (ev_bl false))) (.d8 (.d2 (.drop .nil)))) (fun _ => Le.refl _) (fun _ => (.d8 (.d2 (.drop .nil)))))
  (p_uw (i := 3) (o := (oL C (oL C fun x => oV (vInt x)))) (v := s205.2) rfl fun x243 =>
  (b_okR nox_get fun x245 h246 => (p_clr (τ := (fun x : Int => oV (vInt x))) (xs := x245) (pl_ix (i := (.int 0)) (τ := (oL C fun x => oV (vInt x))) (xs := x243) (x := x245) (pl_v (i := 3) (τ := (oL C (oL C fun x => oV (vInt x)))) (x := x243) rfl) (fun _ _ => (wk_ev (Γ' := (none :: (n2 (n8 [])))) (.d8 (.d2 (.drop .nil))) (ev_int 0))) h246) (b_ret (g := fun r302 => r302) (evx (x0 := ()) (bor_evC (Γ' := (none :: some (oV ((vL C (vL C vInt)) v1)) :: some (oV ((vL C (vL C vInt)) v95)) :: (n8 []))) (.drop (.put rfl (.put (OwV.eq (o := (oL C (oL C fun x => oV (vInt x)))) v95) (.d8 .nil)))) (ev_flat (ev_andV (ev_av2 (m := (outR (f14 v1 v95))) (n := (outR (f18 v95))) (ev_see (o := (fun x : Bool => oV (vBl x))) (ev_callT (i := 14) (T := T0) (τ := (fun x : Bool => oV (vBl x))) (os := fun k : (List (List Int)) × (List (List Int)) × Unit => [(vL C (vL C vInt)) k.1, (vL C (vL C vInt)) k.2.1]) (g := (fun k : (List (List Int)) × (List (List Int)) × Unit => (k.1, k.2.1, ()))) (dv := []) (wd := []) (d14 (X := X)) (by decide) rfl (fun _ => .nil) (fun _ => rfl) (elv_consP (x := (v1 : (List (List Int)))) (evB_vV (τ := (vL C (vL C vInt))) (x := v1) rfl) (elv_consP (x := (v95 : (List (List Int)))) (evB_vV (τ := (vL C (vL C vInt))) (x := v95) rfl) (elv_nilE (by rfl)))))) (ev_av1 (m := (outR (f18 v95))) (ev_see (o := (fun x : Bool => oV (vBl x))) (ev_callT (i := 18) (T := T0) (τ := (fun x : Bool => oV (vBl x))) (os := fun k : (List (List Int)) × Unit => [(vL C (vL C vInt)) k.1]) (g := (fun k : (List (List Int)) × Unit => (k.1, ()))) (dv := []) (wd := []) (d18 (X := X)) (by decide) rfl (fun _ => .nil) (fun _ => rfl) (elv_consP (x := (v95 : (List (List Int)))) (evB_vV (τ := (vL C (vL C vInt))) (x := v95) rfl) (elv_nilE (by rfl)))))))))) (.d8 (.d2 (.drop .nil)))) (fun _ => Le.refl _) (fun _ => (.d8 (.d2 (.drop .nil)))))))))
  (b_ifL (m := (((getR s205.1 >>= fun x347 => (outR (f19 v1 x347))) >>= fun x350 => (Res.ok (!x350))))) (bor_evT (Γ' := (none :: some (oV ((vL C (vL C vInt)) v1)) :: (n2 (some (oV ((vOpt (vL C (tv0 C))) s205.1)) :: (n2 (n4 [])))))) (.drop (.put rfl (.d2 (.put (OwV.eq (o := (oOpt (oL C (ot0 C)))) s205.1) (.d4 (.d2 .nil)))))) (ev_notT (m := ((getR s205.1 >>= fun x347 => (outR (f19 v1 x347))))) (ev_test (ev_see (o := (fun x : Bool => oV (vBl x))) (ev_callT (i := 19) (T := T0) (τ := (fun x : Bool => oV (vBl x))) (os := fun k : (List (List Int)) × (List Y0) × Unit => [(vL C (vL C vInt)) k.1, (vL C (tv0 C)) k.2.1]) (g := (fun k : (List (List Int)) × (List Y0) × Unit => (k.1, k.2.1, ()))) (dv := []) (wd := []) (d19 (X := X)) (by decide) rfl (fun _ => .nil) (fun _ => rfl) (elv_consP (x := (v1 : (List (List Int)))) (evB_vV (τ := (vL C (vL C vInt))) (x := v1) rfl) (elv_cons (m := (getR s205.1)) (ev_getP (x := s205.1) (evB_vV (τ := (vOpt (vL C (tv0 C)))) (x := s205.1) rfl)) fun y349 => (elv_nilE (by rfl))))))))) (.d8 (.d2 (.drop .nil))) rfl
  (b_ret (g := fun r352 => r352) (evx (x0 := ()) (wk_ev (Γ' := (none :: (n2 (n8 [])))) (.d8 (.d2 (.drop .nil))) (ev_flat (ev_bl false))) (.d8 (.d2 (.drop .nil)))) (fun _ => Le.refl _) (fun _ => (.d8 (.d2 (.drop .nil)))))
  (b_asg (i := 6) (evx (τ := (fun x : (List Y0) => oV ((vL C (tv0 C)) x))) (ev_fz (o := (oL C (ot0 C))) (bor_evC (Γ' := (n4 (some (oV ((vOpt (vL C (tv0 C))) s205.1)) :: (n2 (n4 []))))) (.d4 (.put (OwV.eq (o := (oOpt (oL C (ot0 C)))) s205.1) (.d4 (.d2 .nil)))) (ev_lcT (js := [10, 7]) (ws := fun x : Y0 => [vInt x.1, (vL C vInt) x.2]) (ε := (ot0 C)) (c := fun z354 : Y0 => (Res.ok true)) (f := fun z354 : Y0 => (Res.ok (z354.1, z354.2))) (m := (getR s205.1)) (ev_getF (τ := (vL C (tv0 C))) (m := Res.ok s205.1) (evO_v (τ := (vOpt (vL C (tv0 C)))) (x := s205.1) rfl)) (by decide) (fun _ => rfl) (fun _ => allLt rfl) (fun z354 => eps_nil) (fun z354 => (ev_tup (τ := (ot0 C)) (os := (fun k : Int × (List Int) × Unit => [oV (vInt k.1), (oL C fun x => oV (vInt x)) k.2.1])) (g := (fun k : Int × (List Int) × Unit => (k.1, k.2.1))) (elo_consP (x := (z354.1 : Int)) (ev_flat (eI (x := z354.1) rfl)) (elo_consP (x := (z354.2 : (List Int))) (ev_blt1P (x := z354.2) (op := fun x => Res.ok x) (evB_vV (τ := (vL C vInt)) (x := z354.2) rfl) bl_list) (elo_nilE (by rfl)))) (fun _ => nl rfl) (fun _ => rfl)))))) (.d8 (.d2 (.drop .nil)))) (fun _ => nl rfl) fun v353 =>
  (b_exact (pl_v (i := 2) (τ := (oL C (oL C fun x => oV (vInt x)))) (x := v95) rfl) fun u361 => (b_forON (i := 2) (j := 7) (u := u361) (τ := (oL C fun x => oV (vInt x))) (xs := v95) (Γ0 := fun s358 : Unit => [some (oV ((vL C vInt) a0)), some (oV ((vL C (vL C vInt)) v1)), some (oV (vC u361)), some ((oOpt (oL C (oL C fun x => oV (vInt x)))) s205.2), some ((oOpt (oL C (ot0 C))) s205.1), none, some (oV ((vL C (tv0 C)) v353)), none, none, none, none]) (s0 := ()) (pl_v (i := 2) (τ := (fun x : (List (List Int)) => oQ (fun v => v = u361) ((oL C (oL C fun x => oV (vInt x))) x))) (x := v95) rfl) (.k4 (.keep (.drop (.keep (.d4 .nil))))) (fun _ => rfl) (fun _ => nl rfl) (fun x359 s358 =>
  (p_clr (τ := (fun x : Int => oV (vInt x))) (xs := x359) (pl_v (i := 7) (τ := (oL C fun x => oV (vInt x))) (x := x359) rfl) (b_nop (.k4 (.keep (.drop (.keep (.d4 .nil)))))))) fun s358 =>
  (b_ifL (m := (neR ((pdOpt (fun xs : (List Y0) => PyData.list (xs.map tp0))) s205.1) ((fun xs : (List Y0) => PyData.list (xs.map tp0)) v353))) (bor_evT (Γ' := (n4 (some (oV ((vOpt (vL C (tv0 C))) s205.1)) :: none :: some (oV ((vL C (tv0 C)) v353)) :: (n4 [])))) (.d4 (.put (OwV.eq (o := (oOpt (oL C (ot0 C)))) s205.1) (.drop (.put rfl (.d4 .nil))))) (ev_test (ev_cmpP (op := fun (x : (Option (List Y0))) (y : (List Y0)) => neR ((pdOpt (fun xs : (List Y0) => PyData.list (xs.map tp0))) x) ((fun xs : (List Y0) => PyData.list (xs.map tp0)) y)) (x := s205.1) (y := v353) (evB_vV (τ := (vOpt (vL C (tv0 C)))) (x := s205.1) rfl) (evB_vV (τ := (vL C (tv0 C))) (x := v353) rfl) op_ne))) (.d8 (.d2 (.drop .nil))) rfl
  (b_ret (g := fun r364 => r364) (evx (x0 := ()) (wk_ev (Γ' := (none :: (n2 (n8 [])))) (.d8 (.d2 (.drop .nil))) (ev_flat (ev_bl false))) (.d8 (.d2 (.drop .nil)))) (fun _ => Le.refl _) (fun _ => (.d8 (.d2 (.drop .nil)))))
  (p_uw (i := 4) (o := (oL C (ot0 C))) (v := s205.1) rfl fun x368 =>
  (b_exact (pl_v (i := 4) (τ := (oL C (ot0 C))) (x := x368) rfl) fun u372 => (b_forON (i := 4) (j := 8) (u := u372) (τ := (ot0 C)) (xs := x368) (Γ0 := fun s369 : Unit => [some (oV ((vL C vInt) a0)), some (oV ((vL C (vL C vInt)) v1)), some ((oL C fun x => oV (vAny x)) (List.replicate v95.length ())), some ((oOpt (oL C (oL C fun x => oV (vInt x)))) s205.2), some (oV (vC u372)), none, some (oV ((vL C (tv0 C)) v353)), none, none, none, none]) (s0 := ()) (pl_v (i := 4) (τ := (fun x : (List Y0) => oQ (fun v => v = u372) ((oL C (ot0 C)) x))) (x := x368) rfl) (.k4 (.keep (.drop (.keep (.d4 .nil))))) (fun _ => rfl) (fun _ => nl rfl) (fun x370 s369 =>
  (p_clr (τ := (fun x : Int => oV (vInt x))) (xs := x370.2) (pl_tup (n := 1) (os := fun x : Y0 => [oV (vInt x.1), (oL C fun x => oV (vInt x)) x.2]) (x := x370) (τ := (oL C fun x => oV (vInt x))) (y := x370.2) (up := fun z => (x370.1, z)) (pl_v (i := 8) (τ := (ot0 C)) (x := x370) rfl) rfl (fun _ => rfl)) (b_nop (.k4 (.keep (.drop (.keep (.d4 .nil)))))))) fun s369 =>
  (b_asg (i := 9) (evx (τ := (fun x : (List Y0) => oV ((vL C (tv0 C)) x))) (wk_ev (Γ' := (none :: some (oV ((vL C (vL C vInt)) v1)) :: none :: (n8 []))) (.drop (.keep (.d8 (.drop .nil)))) (ev_fz (o := (oL C (ot0 C))) (ev_callT (i := 5) (T := T0) (τ := (oL C (ot0 C))) (os := fun k : (List (List Int)) × Unit => [(vL C (vL C vInt)) k.1]) (g := (fun k : (List (List Int)) × Unit => (k.1, ()))) (dv := []) (wd := []) (d5 (X := X)) (by decide) rfl (fun _ => .nil) (fun _ => rfl) (elv_cons (m := (gd (decide (v1.length ≤ sizeLine)) (lcR (fun z375 : (List Int) => (Res.ok true)) (fun z375 : (List Int) => (Res.ok z375)) v1))) (ev_see (o := (oL C fun x => oV ((vL C vInt) x))) (ev_lcP (xs := v1) (τ := (vL C vInt)) (ε := (fun x : (List Int) => oV ((vL C vInt) x))) (c := fun z375 : (List Int) => (Res.ok true)) (f := fun z375 : (List Int) => (Res.ok z375)) (evO_v (τ := (vL C (vL C vInt))) (x := v1) rfl) (fun z375 => eps_nil) (fun z375 => (ev_fz (o := (oL C fun x => oV (vInt x))) (ev_blt1P (x := z375) (op := fun x => Res.ok x) (evB_vV (τ := (vL C vInt)) (x := z375) rfl) bl_list))))) fun y377 => (elv_nilE (by rfl)))))) (.d8 (.d2 (.drop .nil)))) (fun _ => nl rfl) fun v374 =>
  (b_ret (g := fun r380 => r380) (evx (x0 := ()) (wk_ev (Γ' := (none :: some (oV ((vL C (vL C vInt)) v1)) :: (n4 (some (oV ((vL C (tv0 C)) v353)) :: (n2 [some (oV ((vL C (tv0 C)) v374)), none]))))) (.drop (.keep (.d4 (.keep (.d2 (.keep (.drop .nil))))))) (ev_flat (ev_andV (ev_av2 (m := (outR (f19 v1 v374))) (n := (eqR ((fun xs : (List Y0) => PyData.list (xs.map tp0)) v374) ((fun xs : (List Y0) => PyData.list (xs.map tp0)) v353))) (ev_see (o := (fun x : Bool => oV (vBl x))) (ev_callT (i := 19) (T := T0) (τ := (fun x : Bool => oV (vBl x))) (os := fun k : (List (List Int)) × (List Y0) × Unit => [(vL C (vL C vInt)) k.1, (vL C (tv0 C)) k.2.1]) (g := (fun k : (List (List Int)) × (List Y0) × Unit => (k.1, k.2.1, ()))) (dv := []) (wd := []) (d19 (X := X)) (by decide) rfl (fun _ => .nil) (fun _ => rfl) (elv_consP (x := (v1 : (List (List Int)))) (evB_vV (τ := (vL C (vL C vInt))) (x := v1) rfl) (elv_consP (x := (v374 : (List Y0))) (evB_vV (τ := (vL C (tv0 C))) (x := v374) rfl) (elv_nilE (by rfl)))))) (ev_av1 (m := (eqR ((fun xs : (List Y0) => PyData.list (xs.map tp0)) v374) ((fun xs : (List Y0) => PyData.list (xs.map tp0)) v353))) (ev_cmpP (op := fun (x : (List Y0)) (y : (List Y0)) => eqR ((fun xs : (List Y0) => PyData.list (xs.map tp0)) x) ((fun xs : (List Y0) => PyData.list (xs.map tp0)) y)) (x := v374) (y := v353) (evB_vV (τ := (vL C (tv0 C))) (x := v374) rfl) (evB_vV (τ := (vL C (tv0 C))) (x := v353) rfl) op_eq)))))) (.d8 (.d2 (.drop .nil)))) (fun _ => Le.refl _) (fun _ => (.d8 (.d2 (.drop .nil))))))))))))))))))))))))
def top (i : Nat) : Stmt := PySem.Challenge.pw_groupbooks_k45_whole_paper_or_mix.main.body.getD i (.Pass ⟨0, 0, 0, 0⟩)
section
variable {P : Program} {w : World} {K : PySem.W.Frag} {mg : Str → Option Value} {base : Heap} {cl : Nat → Addr} {gl : Nat → V} {iad : Nat → Addr}
abbrev cq (T : Tb) (c : Cn) (d : Stmt) (b : S) : Prop := ckS ⟨T, fnm, cnm, lw.gs, gnm, cs⟩ c (defScope d) b (defBody d) = true
theorem k21 (W : Wd lw K mg cl gl) (W1 : Wd1 K cl (fun _ => 0) iad [0] [3]) {f : Addr} {fd : FuncData} (F : FunD K "__init__" "Singular.__init__" (defArgs (clsSt (top 4) 0)) (defBody (clsSt (top 4) 0)) (defScope (clsSt (top 4) 0)) [] [] f fd) (hb : ∀ n, n ≤ ([] : List V).length → ∃ us, Binds K fd ["self", "mix"] us ∧ Vals (([] : List V).drop n) us) : FnC (gx lw T21 P w K mg base cl gl) 1 R21 f :=
  fn_is (T := T21) (c := c21) (k := 0) (s := b21) (ps := ["self", "mix"]) F ⟨⟨rfl, rfl, rfl, by decide +kernel, rfl, by decide +kernel, by decide +kernel⟩, (show cq T21 c21 (clsSt (top 4) 0) b21 by decide +kernel), rfl⟩ (W.world1 W1 (by decide) (fun _ _ _ hz => absurd rfl hz) rfl) {} hb
theorem k2 (W : Wd lw K mg cl gl) (W1 : Wd1 K cl (fun _ => 0) iad [0] [3]) {f : Addr} {fd : FuncData} (F : FunD K "_law_cell_at" "_law_cell_at" (defArgs (top 14)) (defBody (top 14)) (defScope (top 14)) [] [] f fd) (hb : ∀ n, n ≤ ([] : List V).length → ∃ us, Binds K fd ["_law_script", "_law_k"] us ∧ Vals (([] : List V).drop n) us)   : FnC (gx lw T2 P w K mg base cl gl) 1 R2 f :=
  fn_is (T := T2) (c := c2) (k := 0) (s := b2) (ps := ["_law_script", "_law_k"]) F ⟨⟨rfl, rfl, rfl, by decide +kernel, rfl, by decide +kernel, by decide +kernel⟩, (show cq T2 c2 (top 14) b2 by decide +kernel), rfl⟩ (W.world1 W1 (by decide) fn0 rfl) { fns := (fun _ z => nomatch z), fnh := (fun _ z => nomatch z) } hb
theorem k3 (W : Wd lw K mg cl gl) (W1 : Wd1 K cl (fun _ => 0) iad [0] [3]) {f : Addr} {fd : FuncData} (F : FunD K "_law_entry" "_law_entry" (defArgs (top 20)) (defBody (top 20)) (defScope (top 20)) [] [] f fd) (hb : ∀ n, n ≤ ([] : List V).length → ∃ us, Binds K fd ["_law_cell", "_law_many"] us ∧ Vals (([] : List V).drop n) us)   : FnC (gx lw T3 P w K mg base cl gl) 1 R3 f :=
  fn_is (T := T3) (c := c3) (k := 0) (s := b3) (ps := ["_law_cell", "_law_many"]) F ⟨⟨rfl, rfl, rfl, by decide +kernel, rfl, by decide +kernel, by decide +kernel⟩, (show cq T3 c3 (top 20) b3 by decide +kernel), rfl⟩ (W.world1 W1 (by decide) fn0 rfl) { fns := (fun _ z => nomatch z), fnh := (fun _ z => nomatch z) } hb
theorem k4 (W : Wd lw K mg cl gl) (W1 : Wd1 K cl (fun _ => 0) iad [0] [3]) {f : Addr} {fd : FuncData} (F : FunD K "_law_mix" "_law_mix" (defArgs (top 16)) (defBody (top 16)) (defScope (top 16)) [] [] f fd) (hb : ∀ n, n ≤ ([] : List V).length → ∃ us, Binds K fd ["_law_cell", "_law_by"] us ∧ Vals (([] : List V).drop n) us)   : FnC (gx lw T4 P w K mg base cl gl) 1 R4 f :=
  fn_is (T := T4) (c := c4) (k := 0) (s := b4) (ps := ["_law_cell", "_law_by"]) F ⟨⟨rfl, rfl, rfl, by decide +kernel, rfl, by decide +kernel, by decide +kernel⟩, (show cq T4 c4 (top 16) b4 by decide +kernel), rfl⟩ (W.world1 W1 (by decide) fn0 rfl) { fns := (fun _ z => nomatch z), fnh := (fun _ z => nomatch z) } hb
theorem k1 (W : Wd lw K mg cl gl) (W1 : Wd1 K cl (fun _ => 0) iad [0] [3]) {f : Addr} {fd : FuncData} (F : FunD K "_law_square" "_law_square" (defArgs (top 21)) (defBody (top 21)) (defScope (top 21)) [] [] f fd) (hb : ∀ n, n ≤ ([] : List V).length → ∃ us, Binds K fd ["_law_script"] us ∧ Vals (([] : List V).drop n) us) {ad2 ad3 ad4 : Addr} (h2 : FnC (gx lw T2 P w K mg base cl gl) 1 R2 ad2) (hm2 : mg "_law_cell_at" = some (.ref ad2)) (h3 : FnC (gx lw T3 P w K mg base cl gl) 1 R3 ad3) (hm3 : mg "_law_entry" = some (.ref ad3)) (h4 : FnC (gx lw T4 P w K mg base cl gl) 1 R4 ad4) (hm4 : mg "_law_mix" = some (.ref ad4)) : FnC (gx lw T1 P w K mg base cl gl) 2 R1 f :=
  fn_is (T := T1) (c := c1) (k := 1) (s := b1) (ps := ["_law_script"]) F ⟨⟨rfl, rfl, rfl, by decide +kernel, rfl, by decide +kernel, by decide +kernel⟩, (show cq T1 c1 (top 21) b1 by decide +kernel), rfl⟩ (W.world1 W1 (by decide) fn0 rfl) { fns := (fc ⟨ad2, (h2.up (by decide)).tb, hm2⟩ (fc ⟨ad3, (h3.up (by decide)).tb, hm3⟩ (fc ⟨ad4, (h4.up (by decide)).tb, hm4⟩ (fun _ z => nomatch z)))), fnh := (fun _ z => nomatch z) } hb
theorem k6 (W : Wd lw K mg cl gl) (W1 : Wd1 K cl (fun _ => 0) iad [0] [3]) {f : Addr} {fd : FuncData} (F : FunD K "with_units" "with_units" (defArgs (top 10)) (defBody (top 10)) (defScope (top 10)) [] [] f fd) (hb : ∀ n, n ≤ ([] : List V).length → ∃ us, Binds K fd ["square"] us ∧ Vals (([] : List V).drop n) us)   : FnC (gx lw T6 P w K mg base cl gl) 1 R6 f :=
  fn_is (T := T6) (c := c6) (k := 0) (s := b6) (ps := ["square"]) F ⟨⟨rfl, rfl, rfl, by decide +kernel, rfl, by decide +kernel, by decide +kernel⟩, (show cq T6 c6 (top 10) b6 by decide +kernel), rfl⟩ (W.world1 W1 (by decide) fn0 rfl) { fns := (fun _ z => nomatch z), fnh := (fun _ z => nomatch z) } hb
theorem k10 (W : Wd lw K mg cl gl) (W1 : Wd1 K cl (fun _ => 0) iad [0] [3]) {f : Addr} {fd : FuncData} (F : FunD K "divisor" "divisor" (defArgs (top 6)) (defBody (top 6)) (defScope (top 6)) [] [] f fd) (hb : ∀ n, n ≤ ([] : List V).length → ∃ us, Binds K fd ["one", "other"] us ∧ Vals (([] : List V).drop n) us)   : FnC (gx lw T10 P w K mg base cl gl) 1 R10 f :=
  fn_is (T := T10) (c := c10) (k := 0) (s := b10) (ps := ["one", "other"]) F ⟨⟨rfl, rfl, rfl, by decide +kernel, rfl, by decide +kernel, by decide +kernel⟩, (show cq T10 c10 (top 6) b10 by decide +kernel), rfl⟩ (W.world1 W1 (by decide) fn0 rfl) { fns := (fun _ z => nomatch z), fnh := (fun _ z => nomatch z) } hb
theorem k9 (W : Wd lw K mg cl gl) (W1 : Wd1 K cl (fun _ => 0) iad [0] [3]) {f : Addr} {fd : FuncData} (F : FunD K "lowered" "lowered" (defArgs (top 8)) (defBody (top 8)) (defScope (top 8)) [] [] f fd) (hb : ∀ n, n ≤ ([] : List V).length → ∃ us, Binds K fd ["row"] us ∧ Vals (([] : List V).drop n) us) {ad10 : Addr} (h10 : FnC (gx lw T10 P w K mg base cl gl) 1 R10 ad10) (hm10 : mg "divisor" = some (.ref ad10)) : FnC (gx lw T9 P w K mg base cl gl) 2 R9 f :=
  fn_is (T := T9) (c := c9) (k := 1) (s := b9) (ps := ["row"]) F ⟨⟨rfl, rfl, rfl, by decide +kernel, rfl, by decide +kernel, by decide +kernel⟩, (show cq T9 c9 (top 8) b9 by decide +kernel), rfl⟩ (W.world1 W1 (by decide) fn0 rfl) { fns := (fc ⟨ad10, (h10.up (by decide)).tb, hm10⟩ (fun _ z => nomatch z)), fnh := (fun _ z => nomatch z) } hb
theorem k8 (W : Wd lw K mg cl gl) (W1 : Wd1 K cl (fun _ => 0) iad [0] [3]) {f : Addr} {fd : FuncData} (F : FunD K "crossed" "crossed" (defArgs (top 9)) (defBody (top 9)) (defScope (top 9)) [] [] f fd) (hb : ∀ n, n ≤ ([] : List V).length → ∃ us, Binds K fd ["row", "by", "at"] us ∧ Vals (([] : List V).drop n) us) {ad9 : Addr} (h9 : FnC (gx lw T9 P w K mg base cl gl) 2 R9 ad9) (hm9 : mg "lowered" = some (.ref ad9)) : FnC (gx lw T8 P w K mg base cl gl) 3 R8 f :=
  fn_is (T := T8) (c := c8) (k := 2) (s := b8) (ps := ["row", "by", "at"]) F ⟨⟨rfl, rfl, rfl, by decide +kernel, rfl, by decide +kernel, by decide +kernel⟩, (show cq T8 c8 (top 9) b8 by decide +kernel), rfl⟩ (W.world1 W1 (by decide) fn0 rfl) { fns := (fc ⟨ad9, (h9.up (by decide)).tb, hm9⟩ (fun _ z => nomatch z)), fnh := (fun _ z => nomatch z) } hb
theorem k7 (W : Wd lw K mg cl gl) (W1 : Wd1 K cl (fun _ => 0) iad [0] [3]) {f : Addr} {fd : FuncData} (F : FunD K "cleared" "cleared" (defArgs (top 11)) (defBody (top 11)) (defScope (top 11)) [] [] f fd) (hb : ∀ n, n ≤ ([] : List V).length → ∃ us, Binds K fd ["rows", "place", "at"] us ∧ Vals (([] : List V).drop n) us) {ad8 : Addr} (h8 : FnC (gx lw T8 P w K mg base cl gl) 3 R8 ad8) (hm8 : mg "crossed" = some (.ref ad8)) : FnC (gx lw T7 P w K mg base cl gl) 4 R7 f :=
  fn_is (T := T7) (c := c7) (k := 3) (s := b7) (ps := ["rows", "place", "at"]) F ⟨⟨rfl, rfl, rfl, by decide +kernel, rfl, by decide +kernel, by decide +kernel⟩, (show cq T7 c7 (top 11) b7 by decide +kernel), rfl⟩ (W.world1 W1 (by decide) fn0 rfl) { fns := (fc ⟨ad8, (h8.up (by decide)).tb, hm8⟩ (fun _ z => nomatch z)), fnh := (fun _ z => nomatch z) } hb
theorem k5 (W : Wd lw K mg cl gl) (W1 : Wd1 K cl (fun _ => 0) iad [0] [3]) {f : Addr} {fd : FuncData} (F : FunD K "paper_of" "paper_of" (defArgs (top 12)) (defBody (top 12)) (defScope (top 12)) [] [] f fd) (hb : ∀ n, n ≤ ([] : List V).length → ∃ us, Binds K fd ["square"] us ∧ Vals (([] : List V).drop n) us) {ad6 ad7 ad9 : Addr} (h6 : FnC (gx lw T6 P w K mg base cl gl) 1 R6 ad6) (hm6 : mg "with_units" = some (.ref ad6)) (h7 : FnC (gx lw T7 P w K mg base cl gl) 4 R7 ad7) (hm7 : mg "cleared" = some (.ref ad7)) (h9 : FnC (gx lw T9 P w K mg base cl gl) 2 R9 ad9) (hm9 : mg "lowered" = some (.ref ad9)) (h21 : FnC (gx lw T21 P w K mg base cl gl) 1 R21 (iad 0)) : FnC (gx lw T5 P w K mg base cl gl) 5 R5 f :=
  fn_is (T := T5) (c := c5) (k := 4) (s := b5) (ps := ["square"]) F ⟨⟨rfl, rfl, rfl, by decide +kernel, rfl, by decide +kernel, by decide +kernel⟩, (show cq T5 c5 (top 12) b5 by decide +kernel), rfl⟩ (W.world1 W1 (by decide) (fc (fun _ _ => ⟨1, by decide, h21.tb⟩) fn0) rfl) { fns := (fc ⟨ad6, (h6.up (by decide)).tb, hm6⟩ (fc ⟨ad7, (h7.up (by decide)).tb, hm7⟩ (fc ⟨ad9, (h9.up (by decide)).tb, hm9⟩ (fun _ z => nomatch z)))), fnh := (fun _ z => nomatch z) } hb
theorem k12 (W : Wd lw K mg cl gl) (W1 : Wd1 K cl (fun _ => 0) iad [0] [3]) {f : Addr} {fd : FuncData} (F : FunD K "_law_whole" "_law_whole" (defArgs (top 15)) (defBody (top 15)) (defScope (top 15)) [] [] f fd) (hb : ∀ n, n ≤ ([] : List V).length → ∃ us, Binds K fd ["_law_found"] us ∧ Vals (([] : List V).drop n) us)   : FnC (gx lw T12 P w K mg base cl gl) 1 R12 f :=
  fn_is (T := T12) (c := c12) (k := 0) (s := b12) (ps := ["_law_found"]) F ⟨⟨rfl, rfl, rfl, by decide +kernel, rfl, by decide +kernel, by decide +kernel⟩, (show cq T12 c12 (top 15) b12 by decide +kernel), rfl⟩ (W.world1 W1 (by decide) fn0 rfl) { fns := (fun _ z => nomatch z), fnh := (fun _ z => nomatch z) } hb
theorem k13 (W : Wd lw K mg cl gl) (W1 : Wd1 K cl (fun _ => 0) iad [0] [3]) {f : Addr} {fd : FuncData} (F : FunD K "_law_mixed" "_law_mixed" (defArgs (top 19)) (defBody (top 19)) (defScope (top 19)) [] [] f fd) (hb : ∀ n, n ≤ ([] : List V).length → ∃ us, Binds K fd ["_law_square_here", "_law_row"] us ∧ Vals (([] : List V).drop n) us)   : FnC (gx lw T13 P w K mg base cl gl) 1 R13 f :=
  fn_is (T := T13) (c := c13) (k := 0) (s := b13) (ps := ["_law_square_here", "_law_row"]) F ⟨⟨rfl, rfl, rfl, by decide +kernel, rfl, by decide +kernel, by decide +kernel⟩, (show cq T13 c13 (top 19) b13 by decide +kernel), rfl⟩ (W.world1 W1 (by decide) fn0 rfl) { fns := (fun _ z => nomatch z), fnh := (fun _ z => nomatch z) } hb
theorem k11 (W : Wd lw K mg cl gl) (W1 : Wd1 K cl (fun _ => 0) iad [0] [3]) {f : Addr} {fd : FuncData} (F : FunD K "_law_mix_told" "_law_mix_told" (defArgs (top 23)) (defBody (top 23)) (defScope (top 23)) [] [] f fd) (hb : ∀ n, n ≤ ([] : List V).length → ∃ us, Binds K fd ["_law_square_here", "_law_mix_here"] us ∧ Vals (([] : List V).drop n) us) {ad12 ad13 : Addr} (h12 : FnC (gx lw T12 P w K mg base cl gl) 1 R12 ad12) (hm12 : mg "_law_whole" = some (.ref ad12)) (h13 : FnC (gx lw T13 P w K mg base cl gl) 1 R13 ad13) (hm13 : mg "_law_mixed" = some (.ref ad13)) : FnC (gx lw T11 P w K mg base cl gl) 2 R11 f :=
  fn_is (T := T11) (c := c11) (k := 1) (s := b11) (ps := ["_law_square_here", "_law_mix_here"]) F ⟨⟨rfl, rfl, rfl, by decide +kernel, rfl, by decide +kernel, by decide +kernel⟩, (show cq T11 c11 (top 23) b11 by decide +kernel), rfl⟩ (W.world1 W1 (by decide) fn0 rfl) { fns := (fc ⟨ad12, (h12.up (by decide)).tb, hm12⟩ (fc ⟨ad13, (h13.up (by decide)).tb, hm13⟩ (fun _ z => nomatch z))), fnh := (fun _ z => nomatch z) } hb
theorem k16 (W : Wd lw K mg cl gl) (W1 : Wd1 K cl (fun _ => 0) iad [0] [3]) {f : Addr} {fd : FuncData} (F : FunD K "_law_whole" "_law_whole" (defArgs (top 15)) (defBody (top 15)) (defScope (top 15)) [] [] f fd) (hb : ∀ n, n ≤ ([] : List V).length → ∃ us, Binds K fd ["_law_found"] us ∧ Vals (([] : List V).drop n) us)   : FnCH (gx lw T16 P w K mg base cl gl) 1 R16 f :=
  fnh_is (T := T16) (c := c16) (k := 0) (s := b16) (ps := ["_law_found"]) F ⟨⟨rfl, rfl, rfl, by decide +kernel, rfl, by decide +kernel, by decide +kernel⟩, (show cq T16 c16 (top 15) b16 by decide +kernel), rfl⟩ (W.world (by decide) rfl) { fnh := (fun _ z => nomatch z) } ⟨rfl, rfl, rfl, rfl, rfl⟩ hb
theorem k17 (W : Wd lw K mg cl gl) (W1 : Wd1 K cl (fun _ => 0) iad [0] [3]) {f : Addr} {fd : FuncData} (F : FunD K "_law_mixed" "_law_mixed" (defArgs (top 19)) (defBody (top 19)) (defScope (top 19)) [] [] f fd) (hb : ∀ n, n ≤ ([] : List V).length → ∃ us, Binds K fd ["_law_square_here", "_law_row"] us ∧ Vals (([] : List V).drop n) us)   : FnCH (gx lw T17 P w K mg base cl gl) 1 R17 f :=
  fnh_is (T := T17) (c := c17) (k := 0) (s := b17) (ps := ["_law_square_here", "_law_row"]) F ⟨⟨rfl, rfl, rfl, by decide +kernel, rfl, by decide +kernel, by decide +kernel⟩, (show cq T17 c17 (top 19) b17 by decide +kernel), rfl⟩ (W.world (by decide) rfl) { fnh := (fun _ z => nomatch z) } ⟨rfl, rfl, rfl, rfl, rfl⟩ hb
theorem k15 (W : Wd lw K mg cl gl) (W1 : Wd1 K cl (fun _ => 0) iad [0] [3]) {f : Addr} {fd : FuncData} (F : FunD K "_law_mix_told" "_law_mix_told" (defArgs (top 23)) (defBody (top 23)) (defScope (top 23)) [] [] f fd) (hb : ∀ n, n ≤ ([] : List V).length → ∃ us, Binds K fd ["_law_square_here", "_law_mix_here"] us ∧ Vals (([] : List V).drop n) us) {ad16 ad17 : Addr} (h16 : FnCH (gx lw T16 P w K mg base cl gl) 1 R16 ad16) (hm16 : mg "_law_whole" = some (.ref ad16)) (h17 : FnCH (gx lw T17 P w K mg base cl gl) 1 R17 ad17) (hm17 : mg "_law_mixed" = some (.ref ad17)) : FnCH (gx lw T15 P w K mg base cl gl) 2 R15 f :=
  fnh_is (T := T15) (c := c15) (k := 1) (s := b15) (ps := ["_law_square_here", "_law_mix_here"]) F ⟨⟨rfl, rfl, rfl, by decide +kernel, rfl, by decide +kernel, by decide +kernel⟩, (show cq T15 c15 (top 23) b15 by decide +kernel), rfl⟩ (W.world (by decide) rfl) { fnh := (fc ⟨ad16, (h16.up (by decide)).tb, hm16⟩ (fc ⟨ad17, (h17.up (by decide)).tb, hm17⟩ (fun _ z => nomatch z))) } ⟨rfl, rfl, rfl, rfl, rfl⟩ hb
theorem k14 (W : Wd lw K mg cl gl) (W1 : Wd1 K cl (fun _ => 0) iad [0] [3]) {f : Addr} {fd : FuncData} (F : FunD K "_law_mix_again" "_law_mix_again" (defArgs (top 24)) (defBody (top 24)) (defScope (top 24)) [] [] f fd) (hb : ∀ n, n ≤ ([] : List V).length → ∃ us, Binds K fd ["_law_square_here", "_law_handed"] us ∧ Vals (([] : List V).drop n) us) {ad5 ad15 : Addr} (h5 : FnC (gx lw T5 P w K mg base cl gl) 5 R5 ad5) (hm5 : mg "paper_of" = some (.ref ad5)) (h15 : FnCH (gx lw T15 P w K mg base cl gl) 2 R15 ad15) (hm15 : mg "_law_mix_told" = some (.ref ad15)) : FnC (gx lw T14 P w K mg base cl gl) 6 R14 f :=
  fn_is (T := T14) (c := c14) (k := 5) (s := b14) (ps := ["_law_square_here", "_law_handed"]) F ⟨⟨rfl, rfl, rfl, by decide +kernel, rfl, by decide +kernel, by decide +kernel⟩, (show cq T14 c14 (top 24) b14 by decide +kernel), rfl⟩ (W.world1 W1 (by decide) fn0 rfl) { fns := (fc ⟨ad5, (h5.up (by decide)).tb, hm5⟩ (fun _ z => nomatch z)), fnh := (fc ⟨ad15, (h15.up (by decide)).tb, hm15⟩ (fun _ z => nomatch z)) } hb
theorem k18 (W : Wd lw K mg cl gl) (W1 : Wd1 K cl (fun _ => 0) iad [0] [3]) {f : Addr} {fd : FuncData} (F : FunD K "_law_by_base" "_law_by_base" (defArgs (top 25)) (defBody (top 25)) (defScope (top 25)) [] [] f fd) (hb : ∀ n, n ≤ ([] : List V).length → ∃ us, Binds K fd ["_law_square_here"] us ∧ Vals (([] : List V).drop n) us) {ad5 : Addr} (h5 : FnC (gx lw T5 P w K mg base cl gl) 5 R5 ad5) (hm5 : mg "paper_of" = some (.ref ad5)) : FnC (gx lw T18 P w K mg base cl gl) 6 R18 f :=
  fn_is (T := T18) (c := c18) (k := 5) (s := b18) (ps := ["_law_square_here"]) F ⟨⟨rfl, rfl, rfl, by decide +kernel, rfl, by decide +kernel, by decide +kernel⟩, (show cq T18 c18 (top 25) b18 by decide +kernel), rfl⟩ (W.world1 W1 (by decide) fn0 rfl) { fns := (fc ⟨ad5, (h5.up (by decide)).tb, hm5⟩ (fun _ z => nomatch z)), fnh := (fun _ z => nomatch z) } hb
theorem k20 (W : Wd lw K mg cl gl) (W1 : Wd1 K cl (fun _ => 0) iad [0] [3]) {f : Addr} {fd : FuncData} (F : FunD K "_law_divisor" "_law_divisor" (defArgs (top 18)) (defBody (top 18)) (defScope (top 18)) [] [] f fd) (hb : ∀ n, n ≤ ([] : List V).length → ∃ us, Binds K fd ["_law_one", "_law_other"] us ∧ Vals (([] : List V).drop n) us)   : FnC (gx lw T20 P w K mg base cl gl) 1 R20 f :=
  fn_is (T := T20) (c := c20) (k := 0) (s := b20) (ps := ["_law_one", "_law_other"]) F ⟨⟨rfl, rfl, rfl, by decide +kernel, rfl, by decide +kernel, by decide +kernel⟩, (show cq T20 c20 (top 18) b20 by decide +kernel), rfl⟩ (W.world1 W1 (by decide) fn0 rfl) { fns := (fun _ z => nomatch z), fnh := (fun _ z => nomatch z) } hb
theorem k19 (W : Wd lw K mg cl gl) (W1 : Wd1 K cl (fun _ => 0) iad [0] [3]) {f : Addr} {fd : FuncData} (F : FunD K "_law_paper_told" "_law_paper_told" (defArgs (top 22)) (defBody (top 22)) (defScope (top 22)) [] [] f fd) (hb : ∀ n, n ≤ ([] : List V).length → ∃ us, Binds K fd ["_law_square_here", "_law_paper"] us ∧ Vals (([] : List V).drop n) us) {ad12 ad13 ad20 : Addr} (h12 : FnC (gx lw T12 P w K mg base cl gl) 1 R12 ad12) (hm12 : mg "_law_whole" = some (.ref ad12)) (h13 : FnC (gx lw T13 P w K mg base cl gl) 1 R13 ad13) (hm13 : mg "_law_mixed" = some (.ref ad13)) (h20 : FnC (gx lw T20 P w K mg base cl gl) 1 R20 ad20) (hm20 : mg "_law_divisor" = some (.ref ad20)) : FnC (gx lw T19 P w K mg base cl gl) 2 R19 f :=
  fn_is (T := T19) (c := c19) (k := 1) (s := b19) (ps := ["_law_square_here", "_law_paper"]) F ⟨⟨rfl, rfl, rfl, by decide +kernel, rfl, by decide +kernel, by decide +kernel⟩, (show cq T19 c19 (top 22) b19 by decide +kernel), rfl⟩ (W.world1 W1 (by decide) fn0 rfl) { fns := (fc ⟨ad12, (h12.up (by decide)).tb, hm12⟩ (fc ⟨ad13, (h13.up (by decide)).tb, hm13⟩ (fc ⟨ad20, (h20.up (by decide)).tb, hm20⟩ (fun _ z => nomatch z)))), fnh := (fun _ z => nomatch z) } hb
theorem k0 (W : Wd lw K mg cl gl) (W1 : Wd1 K cl (fun _ => 0) iad [0] [3]) {f : Addr} {fd : FuncData} (F : FunD K "law" "law" (defArgs (top 26)) (defBody (top 26)) (defScope (top 26)) [] [] f fd) (hb : ∀ n, n ≤ ([] : List V).length → ∃ us, Binds K fd ["_law_script"] us ∧ Vals (([] : List V).drop n) us) {ad1 ad5 ad11 ad14 ad18 ad19 : Addr} (h1 : FnC (gx lw T1 P w K mg base cl gl) 2 R1 ad1) (hm1 : mg "_law_square" = some (.ref ad1)) (h5 : FnC (gx lw T5 P w K mg base cl gl) 5 R5 ad5) (hm5 : mg "paper_of" = some (.ref ad5)) (h11 : FnC (gx lw T11 P w K mg base cl gl) 2 R11 ad11) (hm11 : mg "_law_mix_told" = some (.ref ad11)) (h14 : FnC (gx lw T14 P w K mg base cl gl) 6 R14 ad14) (hm14 : mg "_law_mix_again" = some (.ref ad14)) (h18 : FnC (gx lw T18 P w K mg base cl gl) 6 R18 ad18) (hm18 : mg "_law_by_base" = some (.ref ad18)) (h19 : FnC (gx lw T19 P w K mg base cl gl) 2 R19 ad19) (hm19 : mg "_law_paper_told" = some (.ref ad19)) : FnC (gx lw T0 P w K mg base cl gl) 7 R0 f :=
  fn_is (T := T0) (c := c0) (k := 6) (s := b0) (ps := ["_law_script"]) F ⟨⟨rfl, rfl, rfl, by decide +kernel, rfl, by decide +kernel, by decide +kernel⟩, (show cq T0 c0 (top 26) b0 by decide +kernel), rfl⟩ (W.world1 W1 (by decide) fn0 rfl) { fns := (fc ⟨ad1, (h1.up (by decide)).tb, hm1⟩ (fc ⟨ad5, (h5.up (by decide)).tb, hm5⟩ (fc ⟨ad11, (h11.up (by decide)).tb, hm11⟩ (fc ⟨ad14, (h14.up (by decide)).tb, hm14⟩ (fc ⟨ad18, (h18.up (by decide)).tb, hm18⟩ (fc ⟨ad19, (h19.up (by decide)).tb, hm19⟩ (fun _ z => nomatch z))))))), fnh := (fun _ z => nomatch z) } hb
end
open Q.G
open Q.W (loop_go loop_pre)
theorem e10 : f10 = gDiv := rfl
theorem e9 : f9 = gLow := rfl
theorem e8 : f8 = gCrs := rfl
theorem e7 : f7 = gClr := rfl
theorem e6 : f6 = gUn := rfl
theorem e2 : f2 = cellF := rfl
theorem e4 : f4 = mixF := rfl
/-! ### the elimination of any square, and what its rows tell -/
def gPx (a0 : (List (List Int))) : Out Unit Unit (List (Int × (List Int))) Unit :=
  (Res.ok (a0.length : Int)).to () fun v411 =>
  (outR (gUn a0)).to () fun v412 =>
  (Res.ok (0 : Int)).to () fun v424 =>
  (Res.ok v411).to () fun n507 => gdO (rngB 0 n507) ((loopO (gStp v411) (rng 0 n507) (v412, v424)).then fun s425 : (List (List Int)) × Int =>
  (Res.ok (decide (s425.2 < v411))).to () fun b486 => cond b486
  ((((ixR s425.1 s425.2) >>= fun x192 : (List Int) => (Res.ok (some v411)) >>= fun x193 : Option Int => (Res.ok none) >>= fun x194 : Option Int => Res.ok (cutL x192 x193 x194))).to () fun v191 => .exc ⟨0, encL ("mix" : Str) (v191.map V.int)⟩ ())
  ((Res.ok ([] : (List (Int × (List Int))))).to () fun v490 =>
  (Res.ok v411).to () fun n506 => gdO (rngB 0 n506) ((loopO (gFin v411 s425) (rng 0 n506) v490).then fun s491 : (List (Int × (List Int))) =>
  (Res.ok s491).to () fun r505 => .rt r505)))
theorem e5 : f5 = gPx := rfl
structure Inw (n k : Nat) (R : List (List Int)) : Prop where
  len : R.length = n
  row : ∀ r ∈ R, r.length = n + n
  bd : ∀ r ∈ R, rowB k r
theorem inw_step {n a q x k : Nat} {R : List (List Int)} (h : Inw n k R) (ha : a < n) (hq : q < n) : Inw n (2 * k + 1) (clr (swp R a q) a x) := by
  have hl := h.len
  have sl : (swp R a q).length = n := by rw [swp_len]; exact hl
  have row1 : ∀ r ∈ swp R a q, r.length = n + n := fun r hr => h.row r (swp_mem (by omega) (by omega) hr)
  have bd1 : ∀ r ∈ swp R a q, rowB k r := fun r hr => h.bd r (swp_mem (by omega) (by omega) hr)
  have clrA : ∀ c, c < n → (clr (swp R a q) a x).getD c [] = if c = a then (swp R a q).getD c [] else crs ((swp R a q).getD c []) ((swp R a q).getD a []) x := fun c hc => clr_at (by omega)
  refine ⟨by rw [clr_len]; exact sl, fun r hr => ?_, fun r hr => ?_⟩
  · obtain ⟨c, hc, rfl⟩ := mem_getD hr
    rw [clr_len, sl] at hc
    rw [clrA c hc]
    by_cases e : c = a
    · rw [if_pos e]; exact row1 _ (getD_mem (by omega))
    · rw [if_neg e, crs_len]; exact row1 _ (getD_mem (by omega))
  · obtain ⟨c, hc, rfl⟩ := mem_getD hr
    rw [clr_len, sl] at hc
    rw [clrA c hc]
    by_cases e : c = a
    · rw [if_pos e]; exact rowB_up (by omega) (bd1 _ (getD_mem (by omega)))
    · rw [if_neg e]; exact crs_b (bd1 _ (getD_mem (by omega))) (bd1 _ (getD_mem (by omega)))
theorem Inw.up {n k k' : Nat} {R : List (List Int)} (h : Inw n k R) (l : k ≤ k') : Inw n k' R := ⟨h.len, h.row, fun r hr => rowB_up l (h.bd r hr)⟩
/-- a row's left half is the sum of the square's rows that its right half tells -/
def Cmb (n : Nat) (S : Nat → Nat → Int) (r : Nat → Int) : Prop := ∀ c, c < n → r c = sm n fun j => r (n + j) * S j c
theorem Cmb.cross {n : Nat} {S : Nat → Nat → Int} {r q r' : Nat → Int} {g p t : Int} (hr : Cmb n S r) (hq : Cmb n S q) (hg : g ≠ 0) (h : ∀ c, c < n + n → g * r' c = r c * p - q c * t) : Cmb n S r' := fun c hc => by
  have h1 := h c (by omega)
  have h2 : g * sm n (fun j => r' (n + j) * S j c) = p * sm n (fun j => r (n + j) * S j c) - t * sm n (fun j => q (n + j) * S j c) := by
    rw [← sm_mul, ← sm_mul, ← sm_mul, ← sm_sub]
    exact sm_congr fun j hj => by
      have := h (n + j) (by omega)
      grind
  rw [← hr c hc, ← hq c hc] at h2
  have h3 : g * r' c = g * sm n (fun j => r' (n + j) * S j c) := by rw [h1, h2]; grind
  exact Int.eq_of_mul_eq_mul_left hg h3
theorem Cmb.scale {n : Nat} {S : Nat → Nat → Int} {r r' : Nat → Int} {g p : Int} (hr : Cmb n S r) (hg : g ≠ 0) (h : ∀ c, g * r' c = p * r c) : Cmb n S r' := hr.cross hr (p := p) (t := 0) hg fun c _ => by rw [h c]; grind
structure Inq (n a x k : Nat) (S : Nat → Nat → Int) (R : List (List Int)) : Prop where
  w : Inw n k R
  cmb : ∀ i, i < n → Cmb n S (fR R i)
  lo : ∀ i, a ≤ i → i < n → ∀ c, c < x → fR R i c = 0
  own : ∃ o : Nat → Nat, ∀ i, a ≤ i → i < n → o i < n ∧ fR R i (n + o i) ≠ 0 ∧ ∀ j, j < n → j ≠ i → fR R j (n + o i) = 0
  sh : a = x → Shape n a (fR R)
theorem Inq.skip {n a x k : Nat} {S : Nat → Nat → Int} {R : List (List Int)} (h : Inq n a x k S R) (hax : a ≤ x) (h0 : ∀ i, a ≤ i → i < n → fR R i x = 0) : Inq n a (x + 1) (2 * k + 1) S R :=
  ⟨h.w.up (by omega), h.cmb, fun i h1 h2 c hc => by
    by_cases e : c = x
    · rw [e]; exact h0 i h1 h2
    · exact h.lo i h1 h2 c (by omega), h.own, fun e => by omega⟩
theorem inq_step {n a q x k : Nat} {S : Nat → Nat → Int} {R : List (List Int)} (h : Inq n a x k S R) (hq : a ≤ q) (hqn : q < n) (hax : a ≤ x) (hx : x < n) (hp : fR R q x ≠ 0) : Inq n (a + 1) (x + 1) (2 * k + 1) S (clr (swp R a q) a x) := by
  have han : a < n := Nat.lt_of_le_of_lt hq hqn
  have hl := h.w.len
  have sl : (swp R a q).length = n := by rw [swp_len]; exact hl
  have at1 : ∀ c, (swp R a q).getD c [] = if c = q then R.getD a [] else if c = a then R.getD q [] else R.getD c [] := fun c => swp_at (by omega) (by omega)
  have row1 : ∀ r ∈ swp R a q, r.length = n + n := fun r hr => h.w.row r (swp_mem (by omega) (by omega) hr)
  obtain ⟨s, hs⟩ : ∃ s : Nat → Nat, s = fun i => if i = q then a else if i = a then q else i := ⟨_, rfl⟩
  have es : ∀ i c, fR (swp R a q) i c = fR R (s i) c := fun i c => by
    unfold fR
    rw [at1, hs]
    show _ = (R.getD (if i = q then a else if i = a then q else i) []).getD c 0
    by_cases e : i = q
    · rw [if_pos e, if_pos e]
    · rw [if_neg e, if_neg e]
      by_cases f : i = a
      · rw [if_pos f, if_pos f]
      · rw [if_neg f, if_neg f]
  have s1 : ∀ i, i < n → s i < n := fun i hi => by
    rw [hs]; show (if i = q then a else if i = a then q else i) < n
    split
    · exact han
    · split
      · exact hqn
      · exact hi
  have s2 : ∀ i, a ≤ i → a ≤ s i := fun i hi => by
    rw [hs]; show a ≤ (if i = q then a else if i = a then q else i)
    split
    · exact Nat.le_refl a
    · split
      · exact hq
      · exact hi
  have s3 : s a = q := by
    rw [hs]; show (if a = q then a else if a = a then q else a) = q
    by_cases e : a = q
    · rw [if_pos e]; exact e
    · rw [if_neg e, if_pos rfl]
  have ss : ∀ k, s (s k) = k := fun k => by
    rw [hs]
    show (if (if k = q then a else if k = a then q else k) = q then a else if (if k = q then a else if k = a then q else k) = a then q else (if k = q then a else if k = a then q else k)) = k
    by_cases e : k = q
    · rw [if_pos e]
      by_cases f : a = q
      · rw [if_pos f]; omega
      · rw [if_neg f, if_pos rfl]; omega
    · rw [if_neg e]
      by_cases f : k = a
      · rw [if_pos f, if_pos rfl]; omega
      · rw [if_neg f, if_neg e, if_neg f]
  have s4 : ∀ i j, s i = s j → i = j := fun i j e => by rw [← ss i, e, ss j]
  have e0 : ∀ c, fR (swp R a q) a c = fR R q c := fun c => by rw [es, s3]
  have clrA : ∀ c, c < n → (clr (swp R a q) a x).getD c [] = if c = a then (swp R a q).getD c [] else crs ((swp R a q).getD c []) ((swp R a q).getD a []) x := fun c hc => clr_at (by omega)
  have e3 : ∀ c, fR (clr (swp R a q) a x) a c = fR (swp R a q) a c := fun c => by
    unfold fR
    rw [clrA a han, if_pos rfl]
  have e4 : ∀ k, k < n → k ≠ a → ∃ g : Int, g ≠ 0 ∧ ∀ c, c < n + n → g * fR (clr (swp R a q) a x) k c = fR (swp R a q) k c * fR (swp R a q) a x - fR (swp R a q) a c * fR (swp R a q) k x := fun k hk ka => by
    obtain ⟨g, hg, hm⟩ := crs_mul ((swp R a q).getD k []) ((swp R a q).getD a []) x
    refine ⟨g, by omega, fun c hc => ?_⟩
    unfold fR
    rw [clrA k hk, if_neg ka]
    exact hm c (by rw [row1 _ (getD_mem (by omega))]; exact hc)
  have p0 : fR (swp R a q) a x ≠ 0 := by rw [e0]; exact hp
  have cm1 : ∀ i, i < n → Cmb n S (fR (swp R a q) i) := fun i hi c hc => by
    rw [es, sm_congr (g := fun j => fR R (s i) (n + j) * S j c) fun j _ => by rw [es]]
    exact h.cmb (s i) (s1 i hi) c hc
  have lo1 : ∀ i, a ≤ i → i < n → ∀ c, c < x → fR (swp R a q) i c = 0 := fun i h1 h2 c hc => by
    rw [es]; exact h.lo (s i) (s2 i h1) (s1 i h2) c hc
  refine ⟨inw_step h.w han hqn, fun i hi => ?_, fun i h1 h2 c hc => ?_, ?_, fun e => ?_⟩
  · by_cases e : i = a
    · intro c hc
      rw [e, e3, sm_congr (g := fun j => fR (swp R a q) a (n + j) * S j c) fun j _ => by rw [e3]]
      exact cm1 a han c hc
    · obtain ⟨g, hg, hm⟩ := e4 i hi e
      exact (cm1 i hi).cross (cm1 a han) hg hm
  · obtain ⟨g, hg, hm⟩ := e4 i h2 (by omega)
    have := hm c (by omega)
    refine (Int.mul_eq_zero.mp (this.trans ?_)).resolve_left hg
    by_cases e : c = x
    · rw [e]; grind
    · rw [lo1 i (by omega) h2 c (by omega), lo1 a (Nat.le_refl a) han c (by omega)]; grind
  · obtain ⟨o, ho⟩ := h.own
    refine ⟨fun i => o (s i), fun i h1 h2 => ?_⟩
    obtain ⟨o1, o2, o3⟩ := ho (s i) (s2 i (by omega)) (s1 i h2)
    have z1 : ∀ j, j < n → j ≠ i → fR (swp R a q) j (n + o (s i)) = 0 := fun j hj ne => by
      rw [es]; exact o3 (s j) (s1 j hj) fun e => ne (s4 j i e)
    have za := z1 a han (by omega)
    refine ⟨o1, fun z => ?_, fun j hj ne => ?_⟩
    · obtain ⟨g, hg, hm⟩ := e4 i h2 (by omega)
      have := hm (n + o (s i)) (by omega)
      rw [show fR (clr (swp R a q) a x) i (n + o (s i)) = 0 from z, za, Int.zero_mul, Int.sub_zero, Int.mul_zero, es] at this
      rcases Int.mul_eq_zero.mp this.symm with u | u
      · exact o2 u
      · exact p0 u
    · show fR (clr (swp R a q) a x) j (n + o (s i)) = 0
      by_cases e : j = a
      · rw [e, e3]; exact za
      · obtain ⟨g, hg, hm⟩ := e4 j hj e
        have := hm (n + o (s i)) (by omega)
        rw [za, z1 j hj ne, Int.zero_mul, Int.zero_mul] at this
        exact (Int.mul_eq_zero.mp this).resolve_left hg
  · have e : a = x := by omega
    subst e
    exact (h.sh rfl).step hq hqn hp e0 (fun c => by rw [es, hs]; show fR R (if q = q then a else _) c = _; rw [if_pos rfl]) (fun k ka kq c => by rw [es, hs]; show fR R (if k = q then a else if k = a then q else k) c = _; rw [if_neg kq, if_neg ka]) (fun c _ => e3 c) fun k hk ka => by
      obtain ⟨g, hg, hm⟩ := e4 k hk ka
      exact ⟨g, hg, fun c hc => hm c (by omega)⟩
theorem inw_un {sq : List (List Int)} {k : Nat} (hk : 0 < k) (hl : ∀ r ∈ sq, r.length = sq.length) (hb : ∀ r ∈ sq, rowB k r) : Inw sq.length k (un sq) := ⟨(inv_un hk hl hb).len, (inv_un hk hl hb).row, (inv_un hk hl hb).bd⟩
theorem inq_un {sq : List (List Int)} {k : Nat} (hk : 0 < k) (hl : ∀ r ∈ sq, r.length = sq.length) (hb : ∀ r ∈ sq, rowB k r) : Inq sq.length 0 0 k (fR sq) (un sq) := by
  have right : ∀ i j, i < sq.length → j < sq.length → fR (un sq) i (sq.length + j) = if j = i then 1 else 0 := fun i j hi hj => by
    rw [un_fR hl hi (by omega)]
    unfold aug
    rw [if_neg (by omega)]
    by_cases e : j = i
    · rw [if_pos (by omega), if_pos e]
    · rw [if_neg (by omega), if_neg e]
  refine ⟨inw_un hk hl hb, fun i hi c hc => ?_, fun i _ _ c hc => absurd hc (Nat.not_lt_zero _), ⟨fun i => i, fun i _ hi => ⟨hi, ?_, fun j hj ne => ?_⟩⟩, fun _ => (inv_un hk hl hb).sh⟩
  · rw [sm_one hi fun j hj ne => by rw [right i j hi hj, if_neg ne, Int.zero_mul], right i i hi hi, if_pos rfl, Int.one_mul, un_fR hl hi (by omega)]
    unfold aug
    rw [if_pos hc]
  · rw [right i i hi hi, if_pos rfl]; decide
  · rw [right j i hj hi, if_neg (fun e => ne e.symm)]
theorem gStp_two {n a x k : Nat} {R : List (List Int)} (hn : n ≤ 1000) (hk : 2 * k + 1 < 9000) (h : Inw n k R) (ha : a ≤ x) (hx : x < n) : ∃ R' a', gStp (n : Int) (x : Int) (R, (a : Int)) = .nx (R', ((a' : Nat) : Int)) ∧ ((R' = R ∧ a' = a ∧ ∀ i, a ≤ i → i < n → fR R i x = 0) ∨ ∃ q, a ≤ q ∧ q < n ∧ fR R q x ≠ 0 ∧ R' = clr (swp R a q) a x ∧ a' = a + 1) := by
  have hl := h.len
  obtain ⟨L, hL⟩ : ∃ L, L = (rng (a : Int) (n : Int)).filter fun z => !decide (fR R z.toNat x = 0) := ⟨_, rfl⟩
  have mem : ∀ z ∈ rng (a : Int) (n : Int), ∃ c : Nat, a ≤ c ∧ c < n ∧ z = (c : Int) := fun z hz => by
    have := Q.rng_mem hz
    exact ⟨z.toNat, by omega, by omega, by omega⟩
  have e1 : (gd (rngB (a : Int) (n : Int) && decide (Int.toNat ((n : Int) - (a : Int)) ≤ sizeLine)) (lcR (fun z428 : Int => (((ixR R z428 >>= fun x429 => (ixR x429 (x : Int))) >>= fun x430 => (Res.ok (!decide (x430 = (0 : Int))))))) (fun z428 : Int => (Res.ok z428)) (rng (a : Int) (n : Int)))) = .ok L := by
    rw [gd_t (by
      unfold rngB sizeLine
      simp only [Bool.and_eq_true, decide_eq_true_eq]
      omega), lcR_mem (fun z => !decide (fR R z.toNat x = 0)) id _ fun z hz => by
        obtain ⟨c, hc1, hc2, rfl⟩ := mem z hz
        refine ⟨?_, rfl⟩
        have := h.row _ (getD_mem (R := R) (c := c) (by omega))
        rw [ixG2 (by omega), ok_bindN, ixG (by omega), ok_bindN]
        rfl, List.map_id, hL]
  unfold gStp
  show ∃ R' a', ((gd (rngB (a : Int) (n : Int) && decide (Int.toNat ((n : Int) - (a : Int)) ≤ sizeLine)) (lcR (fun z428 : Int => (((ixR R z428 >>= fun x429 => (ixR x429 (x : Int))) >>= fun x430 => (Res.ok (!decide (x430 = (0 : Int))))))) (fun z428 : Int => (Res.ok z428)) (rng (a : Int) (n : Int)))).to () _) = _ ∧ _
  rw [e1]
  cases hq0 : L with
  | nil =>
    refine ⟨R, a, ?_, .inl ⟨rfl, rfl, fun i h1 h2 => Classical.byContradiction fun ne => ?_⟩⟩
    · rw [ok_toN, show neR ((fun xs : (List Int) => PyData.list (xs.map PyData.int)) ([] : List Int)) ((fun xs : (List Int) => PyData.list (xs.map PyData.int)) ([] : (List Int))) = .ok false from (okD_lst (okAll_nil 0)).ne (by decide), ok_toN]
      rfl
    · have hm : (i : Int) ∈ rng (a : Int) (n : Int) := by
        unfold rng
        exact List.mem_map.mpr ⟨i - a, List.mem_range.mpr (by omega), by omega⟩
      have : (i : Int) ∈ L := by
        rw [hL]
        exact List.mem_filter.mpr ⟨hm, by
          show (!decide (fR R i x = 0)) = true
          rw [decide_eq_false ne]; rfl⟩
      rw [hq0] at this
      exact nomatch this
  | cons q0 L' =>
    have hm : q0 ∈ L := by rw [hq0]; exact List.mem_cons_self
    rw [hL] at hm
    obtain ⟨hm1, hm2⟩ := List.mem_filter.mp hm
    obtain ⟨q, qa, qn, rfl⟩ := mem q0 hm1
    have hp : fR R q x ≠ 0 := fun e => by
      have hm2 : (!decide (fR R q x = 0)) = true := hm2
      rw [decide_eq_true e] at hm2
      exact nomatch hm2
    refine ⟨clr (swp R a q) a x, a + 1, ?_, .inr ⟨q, qa, qn, hp, rfl, rfl⟩⟩
    rw [ok_toN, neNil, ok_toN]
    have i0 : ixR ((q : Int) :: L') (0 : Int) = .ok (q : Int) := ixR_ok (i := 0) rfl
    show ((ixR R (a : Int)).to () _) = _
    rw [ixG2 (by omega), ok_toN, i0, ok_bindN, ixG2 (show q < R.length by omega), ok_toN]
    show (getR (setI R (a : Int) (R.getD q []))).to () _ = _
    rw [setI_ok _ _ _ (by omega), getR_some, ok_toN, ok_toN, ok_toN, setI_ok _ _ _ (by rw [List.length_set]; omega), getR_some, ok_toN]
    show (outR (gClr (swp R a q) (a : Int) (x : Int))).to () _ = _
    have sl : (swp R a q).length = n := by rw [swp_len]; exact hl
    rw [gClr_eq (w := n + n) hk (by omega) (by omega) (fun r hr => h.row r (swp_mem (by omega) (by omega) hr)) (by omega) (by omega) (fun r hr => h.bd r (swp_mem (by omega) (by omega) hr)), ok_toN]
    rfl
theorem gFin_any {n k c : Nat} {R : List (List Int)} {y : Int} {s : List (Int × List Int)} (hn : n ≤ 1000) (hk : k < 9000) (h : Inw n k R) (hc : c < n) (hs : s.length < 1000000) : gFin (n : Int) (R, y) (c : Int) s = .nx (s ++ [finT R n (c : Int)]) := by
  have hl := h.len
  have hr := h.row _ (getD_mem (R := R) (c := c) (by omega))
  have hb := h.bd _ (getD_mem (R := R) (c := c) (by omega))
  have ll : (low (R.getD c [])).length = n + n := by rw [low_len]; exact hr
  unfold gFin
  show ((ixR R (c : Int) >>= fun x494 => (outR (gLow x494)))).to () _ = _
  rw [ixG2 (by omega), ok_bindN, gLow_eq hk hb (by unfold sizeLine; omega), ok_toN, ixG (by omega), ok_bindN, ok_toN]
  have e : (cond (decide ((low (R.getD c [])).getD c 0 < 0)) ((gd (decide ((low (R.getD c [])).length ≤ sizeLine)) (lcR (fun z499 : Int => (Res.ok true)) (fun z499 : Int => (Res.ok (-z499))) (low (R.getD c [])))).to () fun v498 => (.nx v498 : Out (List Int) (List (Int × List Int)) (List (Int × (List Int))) Unit)) (.nx (low (R.getD c [])))) = .nx (finR R c) := by
    unfold finR
    by_cases q : (low (R.getD c [])).getD c 0 < 0
    · rw [decide_eq_true q, if_pos q, cond_true, gd_t (decide_eq_true (by rw [ll]; unfold sizeLine; omega)), lcR_mem (fun _ => true) (fun z => -z) _ (fun _ _ => ⟨rfl, rfl⟩), List.filter_eq_self.mpr fun _ _ => rfl, ok_toN]
    · rw [decide_eq_false q, if_neg q, cond_false]
  rw [e, Out.nx_then, ixG (by rw [finR_len, hr]; omega), ok_bindN, ok_toN, gdO_t (decide_eq_true (by unfold sizeLine; omega))]
  rfl
/-! ### the sums and what they are asked -/
theorem gdS {α : Type} {n : Nat} {m : Res α} (h : n ≤ 1000) : gd (decide (n ≤ sizeLine)) m = m := gd_t (decide_eq_true (by unfold sizeLine; omega))
theorem gdOS {ν β ρ ξ : Type} {n : Nat} {m : Out ν β ρ ξ} (h : n < 1000) : gdO (decide (n < sizeLine)) m = m := gdO_t (decide_eq_true (by unfold sizeLine; omega))
theorem gdR {α : Type} {n : Nat} {m : Res α} (h : n ≤ 1000) : gd (rngB 0 (n : Int) && decide (Int.toNat (n : Int) ≤ sizeLine)) m = m := gd_t (by
  unfold rngB sizeLine
  simp only [Bool.and_eq_true, decide_eq_true_eq]
  omega)
theorem gdOR {ν β ρ ξ : Type} {n : Nat} {m : Out ν β ρ ξ} (h : n ≤ 1000) : gdO (rngB 0 (n : Int)) m = m := gdO_t (rngB_of (by decide) (by decide) (by omega) (by omega))
theorem memD {xs : List Int} {c : Nat} (h : c < xs.length) : xs.getD c 0 ∈ xs := by
  rw [List.getD_eq_getElem?_getD, List.getElem?_eq_getElem h]
  exact List.getElem_mem h
theorem ixD {α : Type} {xs : List α} {c : Nat} (d : α) (h : c < xs.length) : ixR xs (c : Int) = .ok (xs.getD c d) := ixR_ok (by
  rw [List.getD_eq_getElem?_getD, List.getElem?_eq_getElem h]; rfl)
theorem dmem {α : Type} {xs : List α} {c : Nat} (d : α) (h : c < xs.length) : xs.getD c d ∈ xs := by
  rw [List.getD_eq_getElem?_getD, List.getElem?_eq_getElem h]
  exact List.getElem_mem h
theorem eqvInts : ∀ xs ys : List Int, PyData.eqvAll (xs.map PyData.int) (ys.map PyData.int) = decide (xs = ys)
  | [], [] => rfl
  | [], y :: ys => rfl
  | x :: xs, [] => rfl
  | x :: xs, y :: ys => by
    show (PyData.eqv (.int x) (.int y) && PyData.eqvAll (xs.map PyData.int) (ys.map PyData.int)) = _
    rw [eqvInts xs ys, show PyData.eqv (.int x) (.int y) = decide (x = y) from by show (x == y) = _; rfl, ← Bool.decide_and]
    exact decide_eq_decide.mpr ⟨fun ⟨a, b⟩ => by rw [a, b], fun h => by cases h; exact ⟨rfl, rfl⟩⟩
theorem okI (xs : List Int) : okD 1 (PyData.list (xs.map PyData.int)) := okD_lst (okAll_map fun x _ => okD_int x)
theorem eqI (xs ys : List Int) : eqR (PyData.list (xs.map PyData.int)) (PyData.list (ys.map PyData.int)) = .ok (decide (xs = ys)) := by
  rw [eqR_of ((okI xs).sh (by decide)) ((okI ys).sh (by decide))]
  show Res.ok (PyData.eqvAll _ _) = _
  rw [eqvInts]
theorem neI (xs ys : List Int) : neR (PyData.list (xs.map PyData.int)) (PyData.list (ys.map PyData.int)) = .ok (!decide (xs = ys)) := by
  rw [neR_of ((okI xs).sh (by decide)) ((okI ys).sh (by decide))]
  show Res.ok (!PyData.eqvAll _ _) = _
  rw [eqvInts]
theorem orRk (a b : Bool) : orR (Res.ok a) (Res.ok b) = Res.ok (a || b) := by cases a <;> rfl
def dotM (sq : List (List Int)) (row : List Int) (z : Int) : Int := ((rng 0 (sq.length : Int)).map fun k => row.getD k.toNat 0 * (sq.getD k.toNat []).getD z.toNat 0).sum
structure SqOk (sq : List (List Int)) (k : Nat) : Prop where
  n : sq.length ≤ 6
  row : ∀ r ∈ sq, r.length = sq.length
  bd : ∀ r ∈ sq, G.rowB k r
section
variable {sq : List (List Int)} {row : List Int} {k K c : Nat}
theorem in14 (S : SqOk sq k) (hk : k ≤ 2000) (hK : K ≤ 100000) (hl : row.length = sq.length) (hb : ∀ x ∈ row, x.natAbs < 2 ^ K) (hc : c < sq.length) :
    (gd (rngB 0 (sq.length : Int) && decide (Int.toNat (sq.length : Int) ≤ sizeLine)) (lcR (fun z359 : Int => (Res.ok true)) (fun z359 : Int => ((ixR row z359 >>= fun x361 => (((ixR sq z359 >>= fun x360 => (ixR x360 (c : Int))) >>= fun x362 => (gd (mulB x361 x362) (Res.ok (x361 * x362)))))))) (rng 0 (sq.length : Int))) >>= fun x363 => (Res.ok x363.sum)) = .ok (dotM sq row (c : Int)) := by
  have n6 := S.n
  rw [gdR (by omega), lcR_mem (fun _ => true) (fun z => row.getD z.toNat 0 * (sq.getD z.toNat []).getD c 0) _ fun z hz => ⟨rfl, by
    obtain ⟨j, hj, rfl⟩ := G.rng_mem hz
    rw [ixG (by omega), ok_bindN, ixG2 hj, ok_bindN, ixG (by rw [S.row _ (getD_mem hj)]; exact hc), ok_bindN, gd_t (mulB_of K k (hb _ (memD (by omega))) (S.bd _ (getD_mem hj) c) (by omega))]
    rfl⟩, List.filter_eq_self.mpr fun _ _ => rfl, ok_bindN]
  rfl
end
theorem ite_b (b : Bool) : (if b then (1 : Int) else 0).natAbs < 2 ^ 2 := by cases b <;> decide
theorem map_all {f g : Int → Int} : ∀ l : List Int, (!decide (l.map f = l.map g)) = !(l.all fun z => decide (f z = g z)) := fun l => by
  refine congrArg _ ?_
  rw [Bool.eq_iff_iff, decide_eq_true_eq, List.all_eq_true, List.map_inj_left]
  exact ⟨fun h x hx => decide_eq_true (h x hx), fun h x hx => of_decide_eq_true (h x hx)⟩
theorem okP (p : List (Int × List Int)) : okD 3 (PyData.list (p.map tp0)) := okD_lst (okAll_map fun x _ => okD_tup (okAll_cons ((okD_int _).up (by decide)) (okAll_cons (okI x.2) (okAll_nil 1))))
theorem okS (s : List (List Int)) : okD 2 (PyData.list (s.map fun xs : List Int => PyData.list (xs.map PyData.int))) := okD_lst (okAll_map fun x _ => okI x)
theorem rep0 (n : Nat) (g : Int → Int) : (List.replicate n [(0 : Int)]).flatten = (rng 0 (n : Int)).map fun _ => (0 : Int) := by
  have : ∀ m : Nat, (List.replicate m [(0 : Int)]).flatten = List.replicate m 0 := fun m => by
    induction m with
    | zero => rfl
    | succ m ih => rw [List.replicate_succ, List.flatten_cons, ih]; rfl
  rw [this, List.map_const', G.rng_len]
theorem mod_at (w : Int) (b : Int) (hb : 0 ≤ b ∧ b < 2 ^ 40) {n : Nat} (hn : 0 < n) : ∃ c : Nat, c < n ∧ (outR (f4 w b) >>= fun x263 => (gd (!decide ((n : Int) = 0)) (Res.ok (Int.fmod x263 (n : Int))))) = .ok (c : Int) := by
  obtain ⟨m, b1, _⟩ := mix_ok w b hb
  have := fm_lt m (n : Int) (by omega)
  exact ⟨(Int.fmod m (n : Int)).toNat, by omega, by rw [e4, b1, ok_bindN, gd_t (nz_of (by omega)), Int.toNat_of_nonneg this.1]⟩
/-! ### the square drawn -/
def far (n : Nat) : Nat := if n < 3 then 10 ^ 59 else 10 ^ 6
theorem far1 (n : Nat) : 1000 ≤ far n := by
  unfold far
  split <;> decide
theorem far2 (n : Nat) : far n < 2 ^ 197 := by
  unfold far
  split <;> decide
theorem fdiv3 (c : Int) {a : Nat} (h : c.natAbs < 2 ^ a) : (Int.fdiv c 3).natAbs < 2 ^ (a + 1) := by
  rw [Int.fdiv_eq_ediv_of_nonneg c (by decide), Nat.pow_succ]
  omega
theorem f3_ok {c : Int} {n : Nat} (hc : c.natAbs < 2 ^ 1048576) : ∃ z, outR (f3 c (n : Int)) = .ok z ∧ z.natAbs ≤ far n := by
  have hf := far1 n
  have hf2 := far2 n
  unfold f3
  rw [ok_toN]
  by_cases q : Int.fmod c 3 = 0
  · rw [decide_eq_true q, cond_true, ok_toN]
    have := fm_lt (Int.fdiv c 3) 3 (by decide)
    exact ⟨_, rfl, by omega⟩
  rw [decide_eq_false q, cond_false, ok_toN]
  by_cases q : Int.fmod c 3 = 1
  · rw [decide_eq_true q, cond_true, ok_toN]
    have := fm_lt (Int.fdiv c 3) 19 (by decide)
    exact ⟨_, rfl, by omega⟩
  rw [decide_eq_false q, cond_false]
  have e1 : gd (powB (10 : Int) (6 : Int)) (Res.ok ((10 : Int) ^ Int.toNat (6 : Int))) = .ok ((10 ^ 6 : Nat) : Int) := by
    rw [gd_t (by decide)]; rfl
  have e2 : gd (powB (10 : Int) (59 : Int)) (Res.ok ((10 : Int) ^ Int.toNat (59 : Int))) = .ok ((10 ^ 59 : Nat) : Int) := by
    rw [gd_t (by decide)]; rfl
  rw [e1, e2, ok_toN]
  have e3 : ((Res.ok (decide ((n : Int) < 3))).to () fun b26 => cond b26 ((Res.ok ((10 ^ 59 : Nat) : Int)).to () fun v27 => (.nx v27 : Out Int Unit Int Unit)) (.nx ((10 ^ 6 : Nat) : Int))) = .nx (far n : Int) := by
    rw [ok_toN]
    unfold far
    by_cases q : n < 3
    · rw [decide_eq_true (show (n : Int) < 3 by omega), cond_true, ok_toN, if_pos q]
    · rw [decide_eq_false (show ¬ (n : Int) < 3 by omega), cond_false, if_neg q]
  rw [e3, Out.nx_then]
  have p1 : ((1000003 : Int) ^ Int.toNat (10 : Int)).natAbs < 2 ^ 200 := by decide
  have g2 : ((far n : Nat) : Int).natAbs < 2 ^ 197 := by omega
  rw [gd_t (show powB (1000003 : Int) (10 : Int) = true by decide), ok_bindN, gd_t (mulB_of 1048577 200 (fdiv3 c hc) p1 (by omega)), ok_bindN, gd_t (mulB_of 4 197 (by decide) g2 (by decide)), ok_bindN, ok_bindN, gd_t (nz_of (by omega)), ok_bindN, ok_toN]
  have := fm_lt (Int.fdiv c 3 * (1000003 : Int) ^ Int.toNat (10 : Int)) (2 * (far n : Int) + 1) (by omega)
  exact ⟨_, rfl, by omega⟩
def RoOk (n : Nat) (r : List Int) : Prop := r.length = n ∧ ∀ x ∈ r, x.natAbs ≤ far n
theorem square_ok (ns : List Int) (hl : ns.length ≤ 63) (hz : ∀ z ∈ ns, Builtin.Int.intBits z ≤ 1048576) : ∃ sq : List (List Int), outR (f1 ns) = .ok sq ∧ sq.length ≤ 6 ∧ ∀ r ∈ sq, r.length = sq.length ∧ ∀ x ∈ r, x.natAbs ≤ 8 * far sq.length := by
  obtain ⟨z0, hz0, _⟩ := cell_ok ns 0 (by decide)
  obtain ⟨z1, hz1, _⟩ := cell_ok ns 1 (by decide)
  have fm := fm_lt z0 7 (by decide)
  obtain ⟨n, hn⟩ : ∃ n : Nat, (n : Int) = Int.fmod z0 7 := ⟨(Int.fmod z0 7).toNat, by omega⟩
  have n6 : n ≤ 6 := by omega
  have hf := far1 n
  unfold f1
  rw [e2, hz0, ok_bindN, ok_toN, ok_toN, ← hn, ok_toN, gdOR (by omega)]
  refine loop_go (fun m => ∃ sq : List (List Int), outR m = .ok sq ∧ sq.length ≤ 6 ∧ ∀ r ∈ sq, r.length = sq.length ∧ ∀ x ∈ r, x.natAbs ≤ 8 * far sq.length) (fun P (s : List (List Int)) => s.length = P.length ∧ ∀ r ∈ s, RoOk n r) ⟨rfl, fn0⟩ (fun P x Qs s e ⟨hs, ho⟩ => ?_) fun sq ⟨hs, ho⟩ => ?_
  · have hx := Q.W.ix_pre e
    rw [rng_at] at hx
    by_cases q : P.length < n
    · rw [if_pos q] at hx
      cases hx
      rw [ok_toN, ok_toN, gdOR (by omega)]
      refine loop_go (fun m => ∃ s' : List (List Int), m = .nx s' ∧ s'.length = (P ++ [(P.length : Int)]).length ∧ ∀ r ∈ s', RoOk n r) (fun P2 (s2 : List Int) => s2.length = P2.length ∧ ∀ x ∈ s2, x.natAbs ≤ far n) ⟨rfl, fn0⟩ (fun P2 y Q2 s2 e2' ⟨hs2, ho2⟩ => ?_) fun s2 ⟨hs2, ho2⟩ => ?_
      · have hy := Q.W.ix_pre e2'
        rw [rng_at] at hy
        by_cases q2 : P2.length < n
        · rw [if_pos q2] at hy
          cases hy
          have m1 : n * P.length ≤ 6 * 6 := Nat.mul_le_mul n6 (by omega)
          have e5 : (2 : Int) + (n : Int) * (P.length : Int) + (P2.length : Int) = ((2 + n * P.length + P2.length : Nat) : Int) := by
            rw [← Int.natCast_mul]; omega
          rw [gd_t (mulB_of 4 4 (by omega) (by omega) (by decide)), ok_bindN, ok_bindN, ok_toN, ok_toN, e5]
          obtain ⟨at', hat⟩ : ∃ a : Nat, a = 2 + n * P.length + P2.length := ⟨_, rfl⟩
          have at1 : at' < 50 := by omega
          rw [← hat]
          by_cases q3 : at' < ns.length
          · have em : ns.getD at' 0 ∈ ns := memD q3
            obtain ⟨z, f1', f2'⟩ := f3_ok (n := n) (bits_lt (hz _ em))
            rw [decide_eq_true (show (at' : Int) < (ns.length : Int) by omega), cond_true, ixG q3, ok_bindN, f1', ok_toN, gdOS (by omega)]
            refine ⟨_, rfl, by rw [List.length_append, List.length_append, hs2, List.length_singleton, List.length_singleton], fun x hx => ?_⟩
            rcases List.mem_append.mp hx with hx | hx
            · exact ho2 x hx
            · rw [List.mem_singleton.mp hx]; exact f2'
          · have sqb : (at' : Int) * (at' : Int) < 2500 := by
              rw [← Int.natCast_mul]
              have : at' * at' ≤ 49 * 49 := Nat.mul_le_mul (by omega) (by omega)
              omega
            have sq0 : (0 : Int) ≤ (at' : Int) * (at' : Int) := by rw [← Int.natCast_mul]; omega
            obtain ⟨w, w1, _⟩ := mix_ok z1 (40014 + 2 * (at' : Int) * (at' : Int)) (by rw [Int.mul_assoc]; omega)
            have fw := fm_lt w 7 (by decide)
            rw [decide_eq_false (show ¬ (at' : Int) < (ns.length : Int) by omega), cond_false, hz1, ok_bindN, gd_t (mulB_of 4 8 (by decide) (by omega) (by decide)), ok_bindN, gd_t (mulB_of 8 8 (by omega) (by omega) (by decide)), ok_bindN, ok_bindN, e4, w1, ok_bindN, ok_bindN, ok_toN, gdOS (by omega)]
            refine ⟨_, rfl, by rw [List.length_append, List.length_append, hs2, List.length_singleton, List.length_singleton], fun x hx => ?_⟩
            rcases List.mem_append.mp hx with hx | hx
            · exact ho2 x hx
            · rw [List.mem_singleton.mp hx]; omega
        · rw [if_neg q2] at hy; cases hy
      · rw [ok_toN, gdOS (by omega)]
        refine ⟨_, rfl, by rw [List.length_append, List.length_append, hs, List.length_singleton, List.length_singleton], fun r hr => ?_⟩
        rcases List.mem_append.mp hr with hr | hr
        · exact ho r hr
        · rw [List.mem_singleton.mp hr]
          exact ⟨by rw [hs2, G.rng_len], ho2⟩
    · rw [if_neg q] at hx; cases hx
  · rw [G.rng_len] at hs
    have up : ∀ r ∈ sq, r.length = n ∧ ∀ x ∈ r, x.natAbs ≤ 8 * far n := fun r hr => ⟨(ho r hr).1, fun x hx => by have := (ho r hr).2 x hx; omega⟩
    rw [hz1, ok_toN, ok_toN]
    by_cases q : (decide ((0 : Int) < (n : Int)) && decide (Int.fmod z1 3 = 1)) = true
    · have n0 : 0 < n := by
        have := of_decide_eq_true (Bool.and_eq_true_iff.mp q).1
        omega
      obtain ⟨a, ha, ea⟩ := mod_at z1 48271 (by decide) n0
      obtain ⟨b, hb, eb⟩ := mod_at z1 69621 (by decide) n0
      obtain ⟨c, hc, ec⟩ := mod_at z1 40692 (by decide) n0
      obtain ⟨w, w1, _⟩ := mix_ok z1 39373 (by decide)
      have fw := fm_lt w 7 (by decide)
      obtain ⟨b1, b2⟩ := ho _ (getD_mem (R := sq) (c := b) (by omega))
      obtain ⟨c1, c2⟩ := ho _ (getD_mem (R := sq) (c := c) (by omega))
      rw [q, cond_true, ea, ok_toN, eb, ok_bindN, ixG2 (by omega), ok_toN, ec, ok_bindN, ixG2 (by omega), ok_toN, e4, w1, ok_bindN, ok_bindN, ok_toN, gd_t (mulB_of 4 2 (by omega) (ite_b _) (by decide)), ok_toN]
      obtain ⟨mo, hm⟩ : ∃ m, m = (Int.fmod w 7 - 3 - 2) * (if decide ((0 : Int) < (a : Int)) then 1 else 0) := ⟨_, rfl⟩
      have mb : mo.natAbs ≤ 5 := by
        rw [hm, Int.natAbs_mul]
        have h1 : (Int.fmod w 7 - 3 - 2).natAbs ≤ 5 := by omega
        have h2 : (if decide ((0 : Int) < (a : Int)) then (1 : Int) else 0).natAbs ≤ 1 := by split <;> decide
        exact Nat.mul_le_mul h1 h2
      rw [← hm]
      obtain ⟨by', hby⟩ : ∃ m, m = Int.fmod w 7 - 3 := ⟨_, rfl⟩
      have bb : by'.natAbs ≤ 3 := by omega
      have fb := far2 n
      rw [← hby, gdR (by omega), lcR_mem (fun _ => true) (fun z => (sq.getD b []).getD z.toNat 0 * by' + (sq.getD c []).getD z.toNat 0 * mo) _ fun z hz => ⟨rfl, by
        obtain ⟨j, hj, rfl⟩ := G.rng_mem hz
        have x1 := b2 _ (memD (xs := sq.getD b []) (c := j) (by omega))
        have x2 := c2 _ (memD (xs := sq.getD c []) (c := j) (by omega))
        rw [ixG (by omega), ok_bindN, gd_t (mulB_of 197 2 (by omega) (by omega) (by decide)), ok_bindN, ixG (by omega), ok_bindN, gd_t (mulB_of 197 3 (by omega) (by omega) (by decide)), ok_bindN]
        rfl⟩, List.filter_eq_self.mpr fun _ _ => rfl, ok_toN, ok_toN, setI_ok _ _ _ (by omega), getR_some, ok_toN, Out.nx_then, ok_toN]
      refine ⟨_, rfl, by rw [List.length_set]; omega, fun r hr => ?_⟩
      rw [List.length_set, hs]
      rcases List.mem_or_eq_of_mem_set hr with hr | rfl
      · exact up r hr
      · refine ⟨by rw [List.length_map, G.rng_len], fun x hx => ?_⟩
        obtain ⟨z, hz, rfl⟩ := List.mem_map.mp hx
        obtain ⟨j, hj, rfl⟩ := G.rng_mem hz
        have x1 := b2 _ (memD (xs := sq.getD b []) (c := j) (by omega))
        have x2 := c2 _ (memD (xs := sq.getD c []) (c := j) (by omega))
        rw [Int.toNat_natCast]
        have y1 : ((sq.getD b []).getD j 0 * by').natAbs ≤ far n * 3 := by rw [Int.natAbs_mul]; exact Nat.mul_le_mul x1 bb
        have y2 : ((sq.getD c []).getD j 0 * mo).natAbs ≤ far n * 5 := by rw [Int.natAbs_mul]; exact Nat.mul_le_mul x2 mb
        omega
    · rw [Bool.eq_false_iff.mpr q, cond_false, Out.nx_then, ok_toN]
      exact ⟨_, rfl, by omega, fun r hr => by rw [hs]; exact up r hr⟩
theorem sq_is {sq : List (List Int)} (h6 : sq.length ≤ 6) (h : ∀ r ∈ sq, r.length = sq.length ∧ ∀ x ∈ r, x.natAbs ≤ 8 * far sq.length) : ∃ k, 0 < k ∧ k ≤ 200 ∧ 2 * (2 ^ sq.length * (k + 1)) ≤ 9000 ∧ SqOk sq k := by
  have key : ∀ k, 8 * far sq.length < 2 ^ k → SqOk sq k := fun k hk => ⟨h6, fun r hr => (h r hr).1, fun r hr i => by
    rw [List.getD_eq_getElem?_getD]
    cases e : r[i]? with
    | none => exact Nat.two_pow_pos _
    | some x =>
      have := (h r hr).2 x (List.mem_of_getElem? e)
      show x.natAbs < _
      omega⟩
  by_cases q : sq.length < 3
  · refine ⟨200, by decide, by decide, ?_, key 200 (by unfold far; rw [if_pos q]; decide)⟩
    have : 2 ^ sq.length ≤ 2 ^ 2 := Nat.pow_le_pow_right (by decide) (by omega)
    omega
  · refine ⟨23, by decide, by decide, ?_, key 23 (by unfold far; rw [if_neg q]; decide)⟩
    have : 2 ^ sq.length ≤ 2 ^ 6 := Nat.pow_le_pow_right (by decide) (by omega)
    omega
theorem loop_nx {α : Type} {F : α → Unit → Out Unit Unit Bool Unit} {l : List α} (h : ∀ x ∈ l, ∀ s, F x s = .nx ()) : (loopO F l () : Out Unit Unit Bool Unit) = .nx () := loopO_fold (fun _ _ => ()) l () h
theorem then_g {ν ν' β ρ ξ : Type} {m : Out ν β ρ ξ} {k : ν → Out ν' β ρ ξ} (P : ν → Prop) (G : Out ν' β ρ ξ → Prop) (h : ∃ s, m = .nx s ∧ P s) (hk : ∀ s, P s → G (k s)) : G (m.then k) := by
  obtain ⟨s, e, hs⟩ := h
  rw [e]
  exact hk s hs
/-! ### what the paper tells -/
theorem dvd_fold {d : Int} : ∀ (xs : List Int) (s : Int), d ∣ s → (∀ x ∈ xs, d ∣ x) → d ∣ xs.foldl (fun s x => (Int.gcd s x : Int)) s
  | [], _, h, _ => h
  | x :: xs, s, h, hx => dvd_fold xs _ (Int.dvd_coe_gcd h (hx x List.mem_cons_self)) fun y hy => hx y (List.mem_cons_of_mem _ hy)
theorem getD_in {xs : List Int} {i : Nat} (h : xs.getD i 0 ≠ 0) : xs.getD i 0 ∈ xs := by
  by_cases q : i < xs.length
  · exact memD q
  · exact absurd (by rw [List.getD_eq_getElem?_getD, List.getElem?_eq_none (by omega)]; rfl) h
theorem low_one {xs : List Int} {i : Nat} (h0 : xs.getD i 0 ≠ 0) {d : Int} (hd : ∀ j, d ∣ (low xs).getD j 0) : d ∣ 1 := by
  obtain ⟨h1, _, h3, _⟩ := foldg xs 0 (Int.le_refl 0)
  have g0 : gcdL xs ≠ 0 := fun e => by
    have h : gcdL xs ∣ xs.getD i 0 := h3 _ (getD_in h0)
    rw [e] at h
    exact h0 (Int.zero_dvd.mp h)
  have hg : 0 < gcdL xs := by
    have : 0 ≤ gcdL xs := h1
    omega
  have hm : ∀ x ∈ xs, d * gcdL xs ∣ x := fun x hx => by
    obtain ⟨j, hj, rfl⟩ := List.mem_iff_getElem.mp hx
    have h2 := hd j
    unfold low at h2
    rw [if_neg g0, List.getD_eq_getElem?_getD, List.getElem?_map, List.getElem?_eq_getElem hj] at h2
    replace h2 : d ∣ Int.fdiv xs[j] (gcdL xs) := h2
    have h4 : gcdL xs ∣ xs[j] := h3 _ hx
    rw [Int.fdiv_eq_ediv_of_nonneg _ (by omega)] at h2
    have h5 := Int.mul_dvd_mul_left (gcdL xs) h2
    rw [Int.mul_ediv_cancel' h4, Int.mul_comm] at h5
    exact h5
  obtain ⟨c, hc⟩ : d * gcdL xs ∣ gcdL xs := dvd_fold xs 0 (Int.dvd_zero _) hm
  refine ⟨c, ?_⟩
  have : gcdL xs * 1 = gcdL xs * (d * c) := by rw [Int.mul_one]; exact hc.trans (by grind)
  exact Int.eq_of_mul_eq_mul_left g0 this
structure Told (sq : List (List Int)) (K c : Nat) (e : Int × List Int) : Prop where
  one : 1 ≤ e.1
  len : e.2.length = sq.length
  gcd : e.2.foldl (fun s x => (Int.gcd s x : Int)) e.1 = 1
  dot : ∀ z, z < sq.length → dotM sq e.2 (z : Int) = e.1 * (if decide ((z : Int) = (c : Int)) then 1 else 0)
  b1 : e.1.natAbs < 2 ^ K
  b2 : ∀ x ∈ e.2, x.natAbs < 2 ^ K
structure MixT (sq : List (List Int)) (K : Nat) (m : List Int) : Prop where
  len : m.length = sq.length
  ne : ∃ x ∈ m, x ≠ 0
  dot : ∀ z, z < sq.length → dotM sq m (z : Int) = 0
  b2 : ∀ x ∈ m, x.natAbs < 2 ^ K
theorem rng_sum (g : Int → Int) : ∀ n : Nat, ((rng 0 (n : Int)).map g).sum = sm n fun c => g (c : Int)
  | 0 => rfl
  | n + 1 => by
    have e : rng 0 ((n + 1 : Nat) : Int) = rng 0 (n : Int) ++ [(n : Int)] := by
      have := Q.W.rng_snoc (n : Int) (by omega)
      rw [show ((n + 1 : Nat) : Int) = (n : Int) + 1 by omega]
      exact this
    rw [e, List.map_append, List.sum_append, rng_sum g n]
    show sm n (fun c => g (c : Int)) + ([g (n : Int)] : List Int).sum = sm n (fun c => g (c : Int)) + g (n : Int)
    simp
theorem dot_sm (sq : List (List Int)) (row : List Int) (z : Nat) : dotM sq row (z : Int) = sm sq.length fun j => row.getD j 0 * fR sq j z := by
  unfold dotM
  rw [rng_sum]
  rfl
theorem cut_len {xs : List Int} {n : Nat} (h : xs.length = n + n) : (cutL xs (some (n : Int)) none).length = n := by
  unfold cutL
  rw [HT.sIx_nat, HT.sIx_none, List.length_take, List.length_drop]
  omega
theorem cut_mem {xs : List Int} {n : Nat} {x : Int} (hx : x ∈ cutL xs (some (n : Int)) none) : x ∈ xs := List.mem_of_mem_drop (List.mem_of_mem_take hx)
theorem dot_cut {sq : List (List Int)} {xs : List Int} (hl : xs.length = sq.length + sq.length) (hc : Cmb sq.length (fR sq) fun i => xs.getD i 0) {z : Nat} (hz : z < sq.length) : dotM sq (cutL xs (some (sq.length : Int)) none) (z : Int) = xs.getD z 0 := by
  have e : xs.getD z 0 = sm sq.length fun j => xs.getD (sq.length + j) 0 * fR sq j z := hc z hz
  rw [dot_sm, e]
  exact sm_congr fun j hj => by rw [cut_at hl]
theorem fin_told {sq : List (List Int)} {K : Nat} {R : List (List Int)} (h : Inq sq.length sq.length sq.length K (fR sq) R) {c : Nat} (hc : c < sq.length) : Told sq K c (finT R sq.length (c : Int)) := by
  have hR := h.w.len
  have sh := h.sh rfl
  have dg : (R.getD c []).getD c 0 ≠ 0 := sh.dg c hc
  have fl : (finR R c).length = sq.length + sq.length := by rw [finR_len]; exact h.w.row _ (getD_mem (by omega))
  obtain ⟨g, p, hg, hp, hm⟩ := finR_mul R c
  have cm : Cmb sq.length (fR sq) fun i => (finR R c).getD i 0 := (h.cmb c hc).scale hg hm
  have off : ∀ z, z < sq.length → z ≠ c → (finR R c).getD z 0 = 0 := fun z hz ne => by
    have := hm z
    rw [show (R.getD c []).getD z 0 = 0 from sh.up c hc z hz ne, Int.mul_zero] at this
    exact (Int.mul_eq_zero.mp this).resolve_left hg
  have bd : rowB K (finR R c) := finR_b (h.w.bd _ (getD_mem (by omega)))
  have pos : 0 < (finR R c).getD c 0 := finR_pos dg
  have ct : ∀ i, (cutL (finR R c) (some (sq.length : Int)) none).getD i 0 = (finR R c).getD (sq.length + i) 0 := fun i => cut_at fl
  refine ⟨pos, cut_len fl, ?_, fun z hz => ?_, bd c, fun x hx => rowB_mem bd (cut_mem hx)⟩
  · show (cutL (finR R c) (some (sq.length : Int)) none).foldl (fun s x => (Int.gcd s x : Int)) ((finR R c).getD c 0) = 1
    obtain ⟨G, hG⟩ : ∃ G, G = (cutL (finR R c) (some (sq.length : Int)) none).foldl (fun s x => (Int.gcd s x : Int)) ((finR R c).getD c 0) := ⟨_, rfl⟩
    obtain ⟨h1, h2, h3, _⟩ := foldg (cutL (finR R c) (some (sq.length : Int)) none) ((finR R c).getD c 0) (by omega)
    rw [← hG] at h1 h2 h3 ⊢
    have dv : ∀ j, G ∣ (finR R c).getD j 0 := fun j => by
      by_cases e : (finR R c).getD j 0 = 0
      · rw [e]; exact Int.dvd_zero G
      by_cases q : j < sq.length
      · by_cases w : j = c
        · rw [w]; exact h2
        · exact absurd (off j q w) e
      · have := ct (j - sq.length)
        rw [show sq.length + (j - sq.length) = j by omega] at this
        rw [← this] at e ⊢
        exact h3 _ (getD_in e)
    have dl : ∀ j, G ∣ (low (R.getD c [])).getD j 0 := fun j => by
      have := dv j
      unfold finR at this
      by_cases q : (low (R.getD c [])).getD c 0 < 0
      · rw [if_pos q, map_neg] at this
        exact Int.dvd_neg.mp this
      · rw [if_neg q] at this
        exact this
    exact Int.eq_one_of_dvd_one h1 (low_one dg dl)
  · show dotM sq (cutL (finR R c) (some (sq.length : Int)) none) (z : Int) = (finR R c).getD c 0 * _
    rw [dot_cut fl cm hz]
    by_cases e : z = c
    · rw [if_pos (decide_eq_true (by omega)), Int.mul_one, e]
    · rw [if_neg (by rw [decide_eq_true_eq]; omega), Int.mul_zero, off z hz e]
theorem mix_told {sq : List (List Int)} {K a : Nat} {R : List (List Int)} (h : Inq sq.length a sq.length K (fR sq) R) (ha : a < sq.length) : MixT sq K (cutL (R.getD a []) (some (sq.length : Int)) none) := by
  have hR := h.w.len
  have hr := h.w.row _ (getD_mem (R := R) (c := a) (by omega))
  have bd := h.w.bd _ (getD_mem (R := R) (c := a) (by omega))
  obtain ⟨o, ho⟩ := h.own
  obtain ⟨o1, o2, _⟩ := ho a (Nat.le_refl a) ha
  refine ⟨cut_len hr, ⟨(cutL (R.getD a []) (some (sq.length : Int)) none).getD (o a) 0, getD_in ?_, ?_⟩, fun z hz => ?_, fun x hx => rowB_mem bd (cut_mem hx)⟩
  · rw [cut_at hr]; exact o2
  · rw [cut_at hr]; exact o2
  · rw [dot_cut hr (h.cmb a ha) hz]
    exact h.lo a (Nat.le_refl a) ha z hz
theorem paper_two {sq : List (List Int)} {k0 : Nat} (hn : sq.length ≤ 1000) (h0 : 0 < k0) (hk : 2 * (2 ^ sq.length * (k0 + 1)) ≤ 9000) (hl : ∀ r ∈ sq, r.length = sq.length) (hb : ∀ r ∈ sq, rowB k0 r) :
    (∃ paper, outR (f5 sq) = .ok paper ∧ paper.length = sq.length ∧ ∀ c, c < sq.length → Told sq (2 ^ sq.length * (k0 + 1)) c (paper.getD c (0, []))) ∨
    ∃ row : List Int, outR (f5 sq) = .exc ⟨0, encL ("mix" : Str) (row.map V.int)⟩ ∧ MixT sq (2 ^ sq.length * (k0 + 1)) row := by
  obtain ⟨n, en⟩ : ∃ n, n = sq.length := ⟨_, rfl⟩
  have m2 : 0 < 2 ^ n * (k0 + 1) := Nat.mul_pos (Nat.two_pow_pos _) (by omega)
  obtain ⟨s', h1, R, a, h2, h3, h4⟩ := loop_pre (β := Unit) (f := gStp (n : Int)) (fun P s => ∃ R a, s = (R, ((a : Nat) : Int)) ∧ a ≤ P.length ∧ Inq n a P.length (2 ^ P.length * (k0 + 1) - 1) (fR sq) R) (rng 0 (n : Int)) (un sq, (0 : Int)) ⟨un sq, 0, rfl, Nat.le_refl _, by
    show Inq n 0 0 (2 ^ 0 * (k0 + 1) - 1) _ _
    rw [show 2 ^ 0 * (k0 + 1) - 1 = k0 by omega, en]
    exact inq_un h0 hl hb⟩ fun P x Qs s e ⟨R, a, hs, ha, hi⟩ => by
    have hx := Q.W.ix_pre e
    rw [rng_at] at hx
    by_cases q : P.length < n
    · rw [if_pos q] at hx
      cases hx
      have m1 : 2 ^ P.length * (k0 + 1) ≤ 2 ^ n * (k0 + 1) := Nat.mul_le_mul_right _ (Nat.pow_le_pow_right (by decide) (by omega))
      have m2 : 0 < 2 ^ P.length * (k0 + 1) := Nat.mul_pos (Nat.two_pow_pos _) (by omega)
      obtain ⟨R', a', r1, r2⟩ := gStp_two (x := P.length) (by omega) (by rw [← en] at hk; omega) hi.w ha q
      have e7 : 2 ^ (P.length + 1) * (k0 + 1) - 1 = 2 * (2 ^ P.length * (k0 + 1) - 1) + 1 := by
        rw [Nat.pow_succ, Nat.mul_comm (2 ^ P.length) 2, Nat.mul_assoc]
        omega
      refine ⟨(R', (a' : Int)), by rw [hs]; exact r1, R', a', rfl, ?_, ?_⟩
      · rw [List.length_append]
        show a' ≤ P.length + 1
        rcases r2 with ⟨_, r, _⟩ | ⟨_, _, _, _, _, r⟩ <;> omega
      · rw [List.length_append]
        show Inq n a' (P.length + 1) (2 ^ (P.length + 1) * (k0 + 1) - 1) (fR sq) R'
        rw [e7]
        rcases r2 with ⟨g1, g2, g3⟩ | ⟨c, g1, g2, g3, g4, g5⟩
        · rw [g1, g2]; exact hi.skip ha g3
        · rw [g4, g5]; exact inq_step hi g1 g2 ha q g3
    · rw [if_neg q] at hx; cases hx
  rw [G.rng_len] at h3 h4
  have up : ∀ {a}, Inq n a n (2 ^ n * (k0 + 1) - 1) (fR sq) R → Inq n a n (2 ^ n * (k0 + 1)) (fR sq) R := fun h => ⟨h.w.up (by omega), h.cmb, h.lo, h.own, h.sh⟩
  have h5 := up h4
  have hR := h5.w.len
  have pre : f5 sq = (Res.ok (decide ((a : Int) < (n : Int)))).to () fun b486 => cond b486
      ((((ixR R (a : Int)) >>= fun x192 : (List Int) => (Res.ok (some (n : Int))) >>= fun x193 : Option Int => (Res.ok none) >>= fun x194 : Option Int => Res.ok (cutL x192 x193 x194))).to () fun v191 => .exc ⟨0, encL ("mix" : Str) (v191.map V.int)⟩ ())
      ((Res.ok ([] : (List (Int × (List Int))))).to () fun v490 =>
      (Res.ok (n : Int)).to () fun n506 => gdO (rngB 0 n506) ((loopO (gFin (n : Int) (R, (a : Int))) (rng 0 n506) v490).then fun s491 : (List (Int × (List Int))) =>
      (Res.ok s491).to () fun r505 => .rt r505)) := by
    rw [e5]
    unfold gPx
    rw [ok_toN, gUn_eq (by omega) hl, ok_toN, ok_toN, ok_toN, gdO_t (rngB_of (by decide) (by decide) (by omega) (by omega)), ← en, h1, Out.nx_then, h2]
  rw [pre, ok_toN]
  by_cases q : a < n
  · right
    refine ⟨cutL (R.getD a []) (some (n : Int)) none, ?_, by subst en; exact mix_told h5 q⟩
    rw [decide_eq_true (show (a : Int) < (n : Int) by omega), cond_true, ixG2 (by omega), ok_bindN, ok_bindN, ok_bindN, ok_toN]
    rfl
  · left
    have ea : a = n := by omega
    rw [ea] at h5
    refine ⟨(rng 0 (n : Int)).map (finT R n), ?_, by rw [List.length_map, G.rng_len, en], fun c hc => ?_⟩
    · rw [decide_eq_false (show ¬ (a : Int) < (n : Int) by omega), cond_false, ok_toN, ok_toN, gdO_t (rngB_of (by decide) (by decide) (by omega) (by omega))]
      obtain ⟨s', g1, g2⟩ := loop_pre (β := Unit) (f := gFin (n : Int) (R, (a : Int))) (fun P s => s = P.map (finT R n)) (rng 0 (n : Int)) [] rfl fun P x Qs s e hs => by
        have hx : x ∈ rng 0 (n : Int) := by rw [← e]; simp
        obtain ⟨c, hc, rfl⟩ := G.rng_mem hx
        have hlen : s.length < 1000000 := by
          have := congrArg List.length e
          rw [List.length_append, List.length_cons, G.rng_len] at this
          rw [hs, List.length_map]
          omega
        exact ⟨_, gFin_any (by omega) (by rw [← en] at hk; omega) h5.w hc hlen, by rw [List.map_append, ← hs]; rfl⟩
      rw [g1, Out.nx_then, g2, ok_toN]
      rfl
    · subst en
      rw [List.getD_eq_getElem?_getD, List.getElem?_map, rng_at, if_pos hc]
      exact fin_told h5 hc
/-! ### the law's own sums -/
theorem f12_eq (z : Int) : outR (f12 z) = .ok true := rfl
theorem f16_eq (z : Int) : outR (f16 z) = .ok true := rfl
section
variable {sq : List (List Int)} {row : List Int} {k K c : Nat}
theorem f13_eq (S : SqOk sq k) (hk : k ≤ 2000) (hK : K ≤ 100000) (hl : row.length = sq.length) (hb : ∀ x ∈ row, x.natAbs < 2 ^ K) : outR (f13 sq row) = .ok ((rng 0 (sq.length : Int)).map (dotM sq row)) := by
  have n6 := S.n
  unfold f13
  rw [gdR (by omega), lcR_mem (fun _ => true) (dotM sq row) _ fun z hz => ⟨rfl, by
    obtain ⟨j, hj, rfl⟩ := G.rng_mem hz
    exact in14 S hk hK hl hb hj⟩, List.filter_eq_self.mpr fun _ _ => rfl, ok_toN]
  rfl
end
theorem e17 : f17 = f13 := rfl
theorem e15 : f15 = f11 := rfl
section
variable (C : Int × Int → Res Bool) (F : Int × Int → Out (Int × Int) (Int × Int) Int Unit)
theorem wneg (hc : ∀ s, C s = .ok (!decide (s.2 = 0))) (hf : ∀ s : Int × Int, s.2 ≠ 0 → F s = .nx (s.2, Int.fmod s.1 s.2)) : ∀ (n : Nat) (x y u v : Int), (whileO () C F n (x, y) : Out (Int × Int) Unit Int Unit) = .nx (u, v) → (whileO () C F n (-x, -y) : Out (Int × Int) Unit Int Unit) = .nx (-u, -v)
  | 0, x, y, u, v, h => nomatch h
  | n + 1, x, y, u, v, h => by
    unfold whileO at h ⊢
    rw [hc, ok_toN] at h ⊢
    by_cases e : y = 0
    · rw [show (!decide ((x, y).2 = 0)) = false by show (!decide (y = 0)) = false; rw [decide_eq_true e]; rfl, cond_false] at h
      rw [show (!decide ((-x, -y).2 = 0)) = false by show (!decide (-y = 0)) = false; rw [decide_eq_true (by omega)]; rfl, cond_false]
      cases h
      rfl
    · rw [show (!decide ((x, y).2 = 0)) = true by show (!decide (y = 0)) = true; rw [decide_eq_false e]; rfl, cond_true, hf (x, y) e] at h
      rw [show (!decide ((-x, -y).2 = 0)) = true by show (!decide (-y = 0)) = true; rw [decide_eq_false (by omega)]; rfl, cond_true, hf (-x, -y) (by show -y ≠ 0; omega)]
      show (whileO () C F n (-y, Int.fmod (-x) (-y)) : Out (Int × Int) Unit Int Unit) = _
      rw [Int.neg_fmod_neg]
      exact wneg hc hf n y (Int.fmod x y) u v h
end
theorem f20_eq {a b : Int} {k : Nat} (hk : k ≤ 29000) (ha : 1 ≤ a) (hb : b.natAbs < 2 ^ k) : outR (f20 a b) = .ok (Int.gcd a b : Int) := by
  obtain ⟨C, hC⟩ : ∃ C : Int × Int → Res Bool, C = fun s331 : Int × Int => (Res.ok (!decide (s331.2 = (0 : Int)))) := ⟨_, rfl⟩
  obtain ⟨F, hF⟩ : ∃ F : Int × Int → Out (Int × Int) (Int × Int) Int Unit, F = fun s331 : Int × Int =>
    ((gd (!decide (s331.2 = 0)) (Res.ok (Int.fmod s331.1 s331.2))).to () fun v332 =>
    (Res.ok s331.2).to () fun v333 =>
    (Res.ok v332).to () fun v334 =>
    .nx (v333, v334)) := ⟨_, rfl⟩
  have hc : ∀ s, C s = .ok (!decide (s.2 = 0)) := fun s => by rw [hC]
  have hf : ∀ s : Int × Int, s.2 ≠ 0 → F s = .nx (s.2, Int.fmod s.1 s.2) := fun s h => by
    rw [hF]
    show ((gd (!decide (s.2 = 0)) (Res.ok (Int.fmod s.1 s.2))).to () _) = _
    rw [gd_t (nz_of h), ok_toN, ok_toN, ok_toN]
  have hw : ∀ (n : Nat) (x y : Int), 2 * k + 2 ≤ n → 1 ≤ x → 0 ≤ y → y.natAbs < 2 ^ k → (whileO () C F n (x, y) : Out (Int × Int) Unit Int Unit) = .nx ((Int.gcd x y : Int), 0) := fun n x y hn hx hy hb => Q.H.while_gcd C F (fun s h => by
      rw [hc]
      refine congrArg Res.ok ?_
      by_cases e : s.2 = 0
      · rw [e]; rfl
      · rw [decide_eq_false e, decide_eq_true (show 0 < s.2 by omega)]; rfl) (fun s h => hf s (by omega)) k n (x, y) (by omega) hx hy (by
      show y < 2 ^ k
      have : ((y.natAbs : Nat) : Int) < ((2 ^ k : Nat) : Int) := by exact_mod_cast hb
      have h2 : ((2 ^ k : Nat) : Int) = (2 : Int) ^ k := by simp
      omega)
  have key : ∃ g : Int, (whileO () C F 60000 (a, b) : Out (Int × Int) Unit Int Unit) = .nx (g, 0) ∧ (if g < 0 then -g else g) = (Int.gcd a b : Int) := by
    by_cases q : 0 ≤ b
    · exact ⟨_, hw 60000 a b (by omega) ha q hb, by rw [if_neg (by omega)]⟩
    · have e1 : Int.fmod a b = -(Int.fmod (-a) (-b)) := by
        have := Int.neg_fmod_neg a b
        omega
      have e2 : Int.fmod (-a) (-b) = (-a) % (-b) := Int.fmod_eq_emod_of_nonneg _ (by omega)
      have m1 := Int.emod_nonneg (-a) (show -b ≠ 0 by omega)
      have m2 := Int.emod_lt_of_pos (-a) (show 0 < -b by omega)
      refine ⟨-(Int.gcd (-b) ((-a) % (-b)) : Int), ?_, ?_⟩
      · have w := wneg C F hc hf 59999 (-b) ((-a) % (-b)) _ _ (hw 59999 (-b) ((-a) % (-b)) (by omega) (by omega) m1 (by omega))
        show whileO () C F (59999 + 1) (a, b) = _
        unfold whileO
        rw [hc, ok_toN, show (!decide ((a, b).2 = 0)) = true by show (!decide (b = 0)) = true; rw [decide_eq_false (by omega)]; rfl, cond_true, hf (a, b) (by show b ≠ 0; omega)]
        show (whileO () C F 59999 (b, Int.fmod a b) : Out (Int × Int) Unit Int Unit) = _
        rw [e1, e2]
        rw [Int.neg_neg] at w
        exact w
      · have g1 : Int.gcd (-a) (-b) = Int.gcd (-b) ((-a) % (-b)) := Q.H.gcd_step (-a) (-b)
        rw [Int.gcd_neg, Int.neg_gcd] at g1
        rw [← g1]
        by_cases z : (Int.gcd a b : Int) = 0
        · rw [z]; rfl
        · rw [if_pos (by omega)]; omega
  obtain ⟨g, k1, k2⟩ := key
  unfold f20
  rw [← hC, ← hF, k1, Out.nx_then]
  show outR ((Res.ok (if g < 0 then -g else g)).to () _) = _
  rw [k2, ok_toN]
  rfl
section
variable {sq : List (List Int)} {k K : Nat}
theorem f19_ok {p : List (Int × List Int)} (S : SqOk sq k) (hk : k ≤ 2000) (hK : K ≤ 20000) (hp : p.length = sq.length) (h : ∀ c, c < sq.length → Told sq K c (p.getD c (0, []))) : outR (f19 sq p) = .ok true := by
  have n6 := S.n
  unfold f19
  rw [ok_toN, ok_toN, hp, show ((!true) || !decide ((sq.length : Int) = (sq.length : Int))) = false by rw [decide_eq_true rfl]; rfl, cond_false, ok_toN, gdOR (by omega), loop_nx fun x hx s => by
    obtain ⟨j, hj, rfl⟩ := G.rng_mem hx
    have T := h j hj
    rw [ixD (0, []) (show j < p.length by omega), ok_bindN, ok_bindN, ok_bindN, ok_bindN, orRk, ok_toN, show ((!true) || !decide (((2 : Nat) : Int) = (2 : Int))) = false from rfl, cond_false, ok_bindN, ok_toN, ok_bindN, ok_toN]
    generalize p.getD j (0, []) = e at T
    have t1 := T.one
    have t2 := T.len
    rw [f12_eq, ok_bindN, orRk, t2, decide_eq_false (show ¬ e.1 < 1 by omega), decide_eq_true (show (sq.length : Int) = (sq.length : Int) from rfl), ok_toN, show ((!true) || (false || ((!true) || !true))) = false from rfl, cond_false, ok_toN, ok_toN]
    refine loop_go (fun m => m = (.nx () : Out Unit Unit Bool Unit)) (fun P (s : Int) => s = P.foldl (fun s x => (Int.gcd s x : Int)) e.1 ∧ 1 ≤ s) ⟨rfl, t1⟩ (fun P x Qs s he ⟨h1, h2⟩ => ?_) fun s ⟨h1, h2⟩ => ?_
    · have hx : x ∈ e.2 := by rw [← he]; simp
      refine ⟨(Int.gcd s x : Int), ?_, ?_, ?_⟩
      · rw [f12_eq, ok_bindN, ok_toN, show (!true) = false from rfl, cond_false, f20_eq (k := K) (by omega) h2 (T.b2 x hx), ok_toN]
      · rw [List.foldl_append, ← h1]; rfl
      · have : Int.gcd s x ≠ 0 := fun z => by
          have := (Int.gcd_eq_zero_iff.mp z).1
          omega
        omega
    · rw [T.gcd] at h1
      rw [h1, gdR (by omega), lcR_mem (fun _ => true) (fun z => e.1 * (if decide (z = (j : Int)) then 1 else 0)) _ fun z hz => ⟨rfl, by
        rw [gd_t (mulB_of K 2 T.b1 (ite_b _) (by omega))]⟩, List.filter_eq_self.mpr fun _ _ => rfl, ok_toN, f13_eq S hk (by omega) t2 T.b2, ok_bindN]
      show (orR (Res.ok (!decide ((1 : Int) = 1))) (neR (PyData.list (((rng 0 (sq.length : Int)).map (dotM sq e.2)).map PyData.int)) (PyData.list (((rng 0 (sq.length : Int)).map fun z => e.1 * (if decide (z = (j : Int)) then 1 else 0)).map PyData.int)))).to () _ = _
      rw [neI, orRk, map_all, ok_toN, List.all_eq_true.mpr fun z hz => by
        obtain ⟨i, hi, rfl⟩ := G.rng_mem hz
        exact decide_eq_true (T.dot i hi)]
      rfl, Out.nx_then, ok_toN]
  rfl
theorem f11_ok {m : List Int} (S : SqOk sq k) (hk : k ≤ 2000) (hK : K ≤ 20000) (T : MixT sq K m) : outR (f11 sq m) = .ok true := by
  have n6 := S.n
  have t2 := T.len
  unfold f11
  rw [ok_toN, t2, show ((!true) || !decide ((sq.length : Int) = (sq.length : Int))) = false by rw [decide_eq_true rfl]; rfl, cond_false, ok_toN, loop_nx fun x hx s => by
    rw [f12_eq, ok_bindN, ok_toN]
    rfl, Out.nx_then, gdS (by omega), lcR_mem (fun _ => true) (fun z : Int => !decide (z = 0)) m fun z _ => ⟨rfl, rfl⟩, List.filter_eq_self.mpr fun _ _ => rfl, ok_bindN, f13_eq S hk (by omega) t2 T.b2, ok_bindN, gd_t (by
      unfold repB sizeLine
      simp only [Bool.and_eq_true, decide_eq_true_eq, List.length_singleton]
      omega), ok_bindN, Int.toNat_natCast, rep0 _ (fun z => z)]
  have ha : (m.map fun z => !decide (z = 0)).any id = true := by
    obtain ⟨x, hx, ne⟩ := T.ne
    exact List.any_eq_true.mpr ⟨true, List.mem_map.mpr ⟨x, hx, by rw [decide_eq_false ne]; rfl⟩, rfl⟩
  rw [ha]
  show outR ((andR (Res.ok true) (eqR (PyData.list (((rng 0 (sq.length : Int)).map (dotM sq m)).map PyData.int)) (PyData.list (((rng 0 (sq.length : Int)).map fun _ => (0 : Int)).map PyData.int)))).to () _) = _
  rw [eqI]
  have := map_all (f := dotM sq m) (g := fun _ => 0) (rng 0 (sq.length : Int))
  rw [show decide ((rng 0 (sq.length : Int)).map (dotM sq m) = (rng 0 (sq.length : Int)).map fun _ => (0 : Int)) = (rng 0 (sq.length : Int)).all fun z => decide (dotM sq m z = 0) from Bool.not_inj this, List.all_eq_true.mpr fun z hz => by
    obtain ⟨i, hi, rfl⟩ := G.rng_mem hz
    exact decide_eq_true (T.dot i hi)]
  rfl
theorem f14_ok {m : List Int} (S : SqOk sq k) (hk : k ≤ 2000) (hK : K ≤ 20000) (T : MixT sq K m) (h5 : outR (f5 sq) = .exc ⟨0, encL ("mix" : Str) (m.map V.int)⟩) : outR (f14 sq sq) = .ok true := by
  unfold f14
  rw [ok_toN, h5]
  show outR ((optO (lstA prI ("mix" : Str) (encL ("mix" : Str) (m.map V.int))) _).then _) = _
  rw [lstA_enc (inj := V.int) (fun _ => rfl)]
  show outR ((noEO ((outR (f15 sq m)).to () _)).then _) = _
  rw [e15, f11_ok S hk hK T, ok_toN]
  rfl
theorem f18_ok {m : List Int} (h5 : outR (f5 sq) = .exc ⟨0, encL ("mix" : Str) (m.map V.int)⟩) : outR (f18 sq) = .ok true := by
  unfold f18
  rw [ok_toN, h5]
  rfl
end
theorem law_plain : ∀ ns : List Int, ns.length ≤ 63 → (∀ z ∈ ns, Builtin.Int.intBits z ≤ 1048576) → f0 ns = .rt true := by
  intro ns hl hz
  obtain ⟨sq, e1, q6, hq⟩ := square_ok ns hl hz
  obtain ⟨k, k0, k2, k9, S⟩ := sq_is q6 hq
  have K1 : 2 ^ sq.length * (k + 1) ≤ 4500 := by omega
  have cp : gd (decide (sq.length ≤ sizeLine)) (lcR (fun z96 : (List Int) => (Res.ok true)) (fun z96 : (List Int) => (Res.ok z96)) sq) = .ok sq := by
    rw [gdS (by omega), lcR_mem (fun _ => true) (fun z : List Int => z) sq fun z _ => ⟨rfl, rfl⟩, List.filter_eq_self.mpr fun _ _ => rfl, List.map_id']
  have pa := paper_two (by omega) k0 k9 S.row S.bd
  unfold f0
  rw [e1, ok_toN, cp, ok_toN, ok_toN, ok_toN]
  rcases pa with ⟨paper, p1, p2, p3⟩ | ⟨row, p1, p2⟩
  · have c2 : gd (decide (paper.length ≤ sizeLine)) (lcR (fun z354 : (Int × (List Int)) => (Res.ok true)) (fun z354 : (Int × (List Int)) => (Res.ok (z354.1, z354.2))) paper) = .ok paper := by
      rw [gdS (by omega), lcR_mem (fun _ => true) (fun z : Int × List Int => z) paper fun z _ => ⟨rfl, rfl⟩, List.filter_eq_self.mpr fun _ _ => rfl, List.map_id']
    rw [p1, ok_bindN, ok_toN]
    show ((neR (PyData.list (sq.map fun xs : List Int => PyData.list (xs.map PyData.int))) (PyData.list (sq.map fun xs : List Int => PyData.list (xs.map PyData.int)))).to () _) = _
    rw [(okS sq).ne (by decide), ok_toN, cond_false, ok_toN]
    show (((((getR (some paper) >>= fun x347 => (outR (f19 sq x347))) >>= fun x350 => (Res.ok (!x350)))).to () _) : Out Unit Unit Bool Unit) = _
    rw [getR_some, ok_bindN, f19_ok S (by omega) (by omega) p2 p3, ok_bindN, ok_toN, show (!true) = false from rfl, cond_false, ok_bindN, c2, ok_toN, loop_nx (fun _ _ _ => rfl), Out.nx_then]
    show ((neR (PyData.list (paper.map tp0)) (PyData.list (paper.map tp0))).to () _) = _
    rw [(okP paper).ne (by decide), ok_toN, cond_false]
    show ((loopO (fun (x370 : (Int × (List Int))) (s369 : Unit) => (.nx ())) paper ()).then _ : Out Unit Unit Bool Unit) = _
    rw [loop_nx (fun _ _ _ => rfl), Out.nx_then, ok_bindN, p1, ok_toN, f19_ok S (by omega) (by omega) p2 p3]
    show ((andR (Res.ok true) (eqR (PyData.list (paper.map tp0)) (PyData.list (paper.map tp0)))).to () _) = _
    rw [(okP paper).eq (by decide)]
    rfl
  · rw [p1]
    show ((optO (lstA prI ("mix" : Str) (encL ("mix" : Str) (row.map V.int))) _).then _) = _
    rw [lstA_enc (inj := V.int) (fun _ => rfl)]
    show ((neR (PyData.list (sq.map fun xs : List Int => PyData.list (xs.map PyData.int))) (PyData.list (sq.map fun xs : List Int => PyData.list (xs.map PyData.int)))).to () _) = _
    rw [(okS sq).ne (by decide), ok_toN, cond_false, ok_toN]
    show (((((getR (some [row]) >>= fun x235 => (ixR x235 (0 : Int))) >>= fun x236 => (outR (f11 sq x236))) >>= fun x239 => (Res.ok (!x239)))).to () _) = _
    have i0 : ixR [row] (0 : Int) = .ok row := ixR_ok (i := 0) rfl
    rw [getR_some, ok_bindN, i0, ok_bindN, f11_ok S (by omega) (by omega) p2, ok_bindN, ok_toN, show (!true) = false from rfl, cond_false]
    have q1 := f14_ok S (by omega) (by omega) p2 p1
    have q2 := f18_ok p1
    refine Eq.trans (b := (andR (outR (f14 sq sq)) (outR (f18 sq))).to () fun r302 => (.rt r302 : Out Unit Unit Bool Unit)) ?_ (by rw [q1, q2]; rfl)
    have t1 : ∀ k : List Int → Out Unit Unit Bool Unit, (ixR [row] (0 : Int)).to () k = k row := fun k => by rw [i0, ok_toN]
    have o1 : ∀ k : List (List Int) → Out Unit Unit Bool Unit, optO (some [row]) k = k [row] := fun _ => rfl
    exact (o1 _).trans (t1 _)

theorem all_mk (law : ∀ ns : List Int, ns.length ≤ 63 → (∀ z ∈ ns, Builtin.Int.intBits z ≤ 1048576) → f0 ns = .rt true) {P : Program} {w : World} {K : W.Frag} {h : Heap} {mg : Str → Option Value} {fa : Addr} (X : K.In h) (G : h.Ns mainGlobals mg) (hfa : mg "law" = some (.ref fa))
    {a2_ a3_ a4_ a1_ a6_ a10_ a9_ a8_ a7_ a5_ a12_ a13_ a11_ a14_ a18_ a20_ a19_ a0_ C0 C1 C2 C3 fa0 xN0 : Addr}
    {oc2 kV2 dc2 pm2 cd2 ct2 oc3 kV3 dc3 pm3 cd3 ct3 oc4 kV4 dc4 pm4 cd4 ct4 oc1 kV1 dc1 pm1 cd1 ct1 oc6 kV6 dc6 pm6 cd6 ct6 oc10 kV10 dc10 pm10 cd10 ct10 oc9 kV9 dc9 pm9 cd9 ct9 oc8 kV8 dc8 pm8 cd8 ct8 oc7 kV7 dc7 pm7 cd7 ct7 oc5 kV5 dc5 pm5 cd5 ct5 oc12 kV12 dc12 pm12 cd12 ct12 oc13 kV13 dc13 pm13 cd13 ct13 oc11 kV11 dc11 pm11 cd11 ct11 oc14 kV14 dc14 pm14 cd14 ct14 oc18 kV18 dc18 pm18 cd18 ct18 oc20 kV20 dc20 pm20 cd20 ct20 oc19 kV19 dc19 pm19 cd19 ct19 oc0 kV0 dc0 pm0 cd0 ct0 oc21 kV21 dc21 pm21 cd21 ct21 : Value}
    {od2 an2 od3 an3 od4 an4 od1 an1 od6 an6 od10 an10 od9 an9 od8 an8 od7 an7 od5 an5 od12 an12 od13 an13 od11 an11 od14 an14 od18 an18 od20 an20 od19 an19 od0 an0 od21 an21 xd0 : Option Addr}
    {sl2 sl3 sl4 sl1 sl6 sl10 sl9 sl8 sl7 sl5 sl12 sl13 sl11 sl14 sl18 sl20 sl19 sl0 sl21 : Array (Option Value)}
    {xn0 xq0 : Str}
    {xb0 xm0 xs0 : List Value}
    {xsn0 : List Str}
    {xa0 : Bool}
    {xc0 : Option Bool}
    {xk0_0 xk1_0 xk2_0 xk3_0 xk5_0 : Option Value}
    (a2 : W.nsIn K mainGlobals "_law_cell_at" = some (some (.ref a2_)))
    (l2 : K.lookup a2_ = some ⟨oc2, od2, .func (W.fnOf "_law_cell_at" "_law_cell_at" (defArgs (top 14)) (defBody (top 14)) (defScope (top 14)) .none kV2 dc2 pm2 an2 cd2 ct2), sl2⟩)
    (c2_ : W.codeIn K cd2 "_law_cell_at" = true)
    (k2_ : W.keepIn K (.ref a2_) = true)
    (a3 : W.nsIn K mainGlobals "_law_entry" = some (some (.ref a3_)))
    (l3 : K.lookup a3_ = some ⟨oc3, od3, .func (W.fnOf "_law_entry" "_law_entry" (defArgs (top 20)) (defBody (top 20)) (defScope (top 20)) .none kV3 dc3 pm3 an3 cd3 ct3), sl3⟩)
    (c3_ : W.codeIn K cd3 "_law_entry" = true)
    (k3_ : W.keepIn K (.ref a3_) = true)
    (a4 : W.nsIn K mainGlobals "_law_mix" = some (some (.ref a4_)))
    (l4 : K.lookup a4_ = some ⟨oc4, od4, .func (W.fnOf "_law_mix" "_law_mix" (defArgs (top 16)) (defBody (top 16)) (defScope (top 16)) .none kV4 dc4 pm4 an4 cd4 ct4), sl4⟩)
    (c4_ : W.codeIn K cd4 "_law_mix" = true)
    (k4_ : W.keepIn K (.ref a4_) = true)
    (a1 : W.nsIn K mainGlobals "_law_square" = some (some (.ref a1_)))
    (l1 : K.lookup a1_ = some ⟨oc1, od1, .func (W.fnOf "_law_square" "_law_square" (defArgs (top 21)) (defBody (top 21)) (defScope (top 21)) .none kV1 dc1 pm1 an1 cd1 ct1), sl1⟩)
    (c1_ : W.codeIn K cd1 "_law_square" = true)
    (k1_ : W.keepIn K (.ref a1_) = true)
    (a6 : W.nsIn K mainGlobals "with_units" = some (some (.ref a6_)))
    (l6 : K.lookup a6_ = some ⟨oc6, od6, .func (W.fnOf "with_units" "with_units" (defArgs (top 10)) (defBody (top 10)) (defScope (top 10)) .none kV6 dc6 pm6 an6 cd6 ct6), sl6⟩)
    (c6_ : W.codeIn K cd6 "with_units" = true)
    (k6_ : W.keepIn K (.ref a6_) = true)
    (a10 : W.nsIn K mainGlobals "divisor" = some (some (.ref a10_)))
    (l10 : K.lookup a10_ = some ⟨oc10, od10, .func (W.fnOf "divisor" "divisor" (defArgs (top 6)) (defBody (top 6)) (defScope (top 6)) .none kV10 dc10 pm10 an10 cd10 ct10), sl10⟩)
    (c10_ : W.codeIn K cd10 "divisor" = true)
    (k10_ : W.keepIn K (.ref a10_) = true)
    (a9 : W.nsIn K mainGlobals "lowered" = some (some (.ref a9_)))
    (l9 : K.lookup a9_ = some ⟨oc9, od9, .func (W.fnOf "lowered" "lowered" (defArgs (top 8)) (defBody (top 8)) (defScope (top 8)) .none kV9 dc9 pm9 an9 cd9 ct9), sl9⟩)
    (c9_ : W.codeIn K cd9 "lowered" = true)
    (k9_ : W.keepIn K (.ref a9_) = true)
    (a8 : W.nsIn K mainGlobals "crossed" = some (some (.ref a8_)))
    (l8 : K.lookup a8_ = some ⟨oc8, od8, .func (W.fnOf "crossed" "crossed" (defArgs (top 9)) (defBody (top 9)) (defScope (top 9)) .none kV8 dc8 pm8 an8 cd8 ct8), sl8⟩)
    (c8_ : W.codeIn K cd8 "crossed" = true)
    (k8_ : W.keepIn K (.ref a8_) = true)
    (a7 : W.nsIn K mainGlobals "cleared" = some (some (.ref a7_)))
    (l7 : K.lookup a7_ = some ⟨oc7, od7, .func (W.fnOf "cleared" "cleared" (defArgs (top 11)) (defBody (top 11)) (defScope (top 11)) .none kV7 dc7 pm7 an7 cd7 ct7), sl7⟩)
    (c7_ : W.codeIn K cd7 "cleared" = true)
    (k7_ : W.keepIn K (.ref a7_) = true)
    (a5 : W.nsIn K mainGlobals "paper_of" = some (some (.ref a5_)))
    (l5 : K.lookup a5_ = some ⟨oc5, od5, .func (W.fnOf "paper_of" "paper_of" (defArgs (top 12)) (defBody (top 12)) (defScope (top 12)) .none kV5 dc5 pm5 an5 cd5 ct5), sl5⟩)
    (c5_ : W.codeIn K cd5 "paper_of" = true)
    (k5_ : W.keepIn K (.ref a5_) = true)
    (a12 : W.nsIn K mainGlobals "_law_whole" = some (some (.ref a12_)))
    (l12 : K.lookup a12_ = some ⟨oc12, od12, .func (W.fnOf "_law_whole" "_law_whole" (defArgs (top 15)) (defBody (top 15)) (defScope (top 15)) .none kV12 dc12 pm12 an12 cd12 ct12), sl12⟩)
    (c12_ : W.codeIn K cd12 "_law_whole" = true)
    (k12_ : W.keepIn K (.ref a12_) = true)
    (a13 : W.nsIn K mainGlobals "_law_mixed" = some (some (.ref a13_)))
    (l13 : K.lookup a13_ = some ⟨oc13, od13, .func (W.fnOf "_law_mixed" "_law_mixed" (defArgs (top 19)) (defBody (top 19)) (defScope (top 19)) .none kV13 dc13 pm13 an13 cd13 ct13), sl13⟩)
    (c13_ : W.codeIn K cd13 "_law_mixed" = true)
    (k13_ : W.keepIn K (.ref a13_) = true)
    (a11 : W.nsIn K mainGlobals "_law_mix_told" = some (some (.ref a11_)))
    (l11 : K.lookup a11_ = some ⟨oc11, od11, .func (W.fnOf "_law_mix_told" "_law_mix_told" (defArgs (top 23)) (defBody (top 23)) (defScope (top 23)) .none kV11 dc11 pm11 an11 cd11 ct11), sl11⟩)
    (c11_ : W.codeIn K cd11 "_law_mix_told" = true)
    (k11_ : W.keepIn K (.ref a11_) = true)
    (a14 : W.nsIn K mainGlobals "_law_mix_again" = some (some (.ref a14_)))
    (l14 : K.lookup a14_ = some ⟨oc14, od14, .func (W.fnOf "_law_mix_again" "_law_mix_again" (defArgs (top 24)) (defBody (top 24)) (defScope (top 24)) .none kV14 dc14 pm14 an14 cd14 ct14), sl14⟩)
    (c14_ : W.codeIn K cd14 "_law_mix_again" = true)
    (k14_ : W.keepIn K (.ref a14_) = true)
    (a18 : W.nsIn K mainGlobals "_law_by_base" = some (some (.ref a18_)))
    (l18 : K.lookup a18_ = some ⟨oc18, od18, .func (W.fnOf "_law_by_base" "_law_by_base" (defArgs (top 25)) (defBody (top 25)) (defScope (top 25)) .none kV18 dc18 pm18 an18 cd18 ct18), sl18⟩)
    (c18_ : W.codeIn K cd18 "_law_by_base" = true)
    (k18_ : W.keepIn K (.ref a18_) = true)
    (a20 : W.nsIn K mainGlobals "_law_divisor" = some (some (.ref a20_)))
    (l20 : K.lookup a20_ = some ⟨oc20, od20, .func (W.fnOf "_law_divisor" "_law_divisor" (defArgs (top 18)) (defBody (top 18)) (defScope (top 18)) .none kV20 dc20 pm20 an20 cd20 ct20), sl20⟩)
    (c20_ : W.codeIn K cd20 "_law_divisor" = true)
    (k20_ : W.keepIn K (.ref a20_) = true)
    (a19 : W.nsIn K mainGlobals "_law_paper_told" = some (some (.ref a19_)))
    (l19 : K.lookup a19_ = some ⟨oc19, od19, .func (W.fnOf "_law_paper_told" "_law_paper_told" (defArgs (top 22)) (defBody (top 22)) (defScope (top 22)) .none kV19 dc19 pm19 an19 cd19 ct19), sl19⟩)
    (c19_ : W.codeIn K cd19 "_law_paper_told" = true)
    (k19_ : W.keepIn K (.ref a19_) = true)
    (a0 : W.nsIn K mainGlobals "law" = some (some (.ref a0_)))
    (l0 : K.lookup a0_ = some ⟨oc0, od0, .func (W.fnOf "law" "law" (defArgs (top 26)) (defBody (top 26)) (defScope (top 26)) .none kV0 dc0 pm0 an0 cd0 ct0), sl0⟩)
    (c0_ : W.codeIn K cd0 "law" = true)
    (k0_ : W.keepIn K (.ref a0_) = true)
    (m0 : W.nsIn K mainGlobals "Singular" = some (some (.ref C0)))
    (s0 : W.subIn K (.ref C0) (.type "BaseException") = some true)
    (v0 : W.typeIn K (.ref C0) = some (.type "type"))
    (w0 : W.hasDictIn K C0 = true)
    (y0 : W.keepIn K (.ref C0) = true)
    (g0 : W.findIn K (.ref C0) "__getattribute__" = some (some (.builtin "BaseException.__getattribute__")))
    (q0 : W.findIn K (.ref C0) "__getattr__" = some none)
    (ve0 : W.subIn K (.ref C0) (.type "ValueError") = some true)
    (x0 : W.findIn K (.ref C0) "__class__" = some (some (.builtin "object.__class__")))
    (r0 : W.mroIn K C0 (.type "object") = some true)
    (p0_0 : W.subIn K (.ref C0) (.ref C0) = some true)
    (p0_1 : W.subIn K (.ref C0) (.ref C1) = some false)
    (o0_1 : (C0 == C1) = false)
    (p0_2 : W.subIn K (.ref C0) (.ref C2) = some false)
    (o0_2 : (C0 == C2) = false)
    (p0_3 : W.subIn K (.ref C0) (.ref C3) = some true)
    (m1 : W.nsIn K mainGlobals "Ringed" = some (some (.ref C1)))
    (s1 : W.subIn K (.ref C1) (.type "BaseException") = some true)
    (v1 : W.typeIn K (.ref C1) = some (.type "type"))
    (w1 : W.hasDictIn K C1 = true)
    (y1 : W.keepIn K (.ref C1) = true)
    (g1 : W.findIn K (.ref C1) "__getattribute__" = some (some (.builtin "BaseException.__getattribute__")))
    (q1 : W.findIn K (.ref C1) "__getattr__" = some none)
    (ve1 : W.subIn K (.ref C1) (.type "ValueError") = some true)
    (x1 : W.findIn K (.ref C1) "__class__" = some (some (.builtin "object.__class__")))
    (r1 : W.mroIn K C1 (.type "object") = some true)
    (p1_0 : W.subIn K (.ref C1) (.ref C0) = some false)
    (o1_0 : (C1 == C0) = false)
    (p1_1 : W.subIn K (.ref C1) (.ref C1) = some true)
    (p1_2 : W.subIn K (.ref C1) (.ref C2) = some false)
    (o1_2 : (C1 == C2) = false)
    (p1_3 : W.subIn K (.ref C1) (.ref C3) = some true)
    (m2 : W.nsIn K mainGlobals "NoNumber" = some (some (.ref C2)))
    (s2 : W.subIn K (.ref C2) (.type "BaseException") = some true)
    (v2 : W.typeIn K (.ref C2) = some (.type "type"))
    (w2 : W.hasDictIn K C2 = true)
    (y2 : W.keepIn K (.ref C2) = true)
    (g2 : W.findIn K (.ref C2) "__getattribute__" = some (some (.builtin "BaseException.__getattribute__")))
    (q2 : W.findIn K (.ref C2) "__getattr__" = some none)
    (ve2 : W.subIn K (.ref C2) (.type "ValueError") = some true)
    (x2 : W.findIn K (.ref C2) "__class__" = some (some (.builtin "object.__class__")))
    (r2 : W.mroIn K C2 (.type "object") = some true)
    (p2_0 : W.subIn K (.ref C2) (.ref C0) = some false)
    (o2_0 : (C2 == C0) = false)
    (p2_1 : W.subIn K (.ref C2) (.ref C1) = some false)
    (o2_1 : (C2 == C1) = false)
    (p2_2 : W.subIn K (.ref C2) (.ref C2) = some true)
    (p2_3 : W.subIn K (.ref C2) (.ref C3) = some true)
    (m3 : W.nsIn K mainGlobals "BooksError" = some (some (.ref C3)))
    (s3 : W.subIn K (.ref C3) (.type "BaseException") = some true)
    (v3 : W.typeIn K (.ref C3) = some (.type "type"))
    (w3 : W.hasDictIn K C3 = true)
    (y3 : W.keepIn K (.ref C3) = true)
    (g3 : W.findIn K (.ref C3) "__getattribute__" = some (some (.builtin "BaseException.__getattribute__")))
    (q3 : W.findIn K (.ref C3) "__getattr__" = some none)
    (ve3 : W.subIn K (.ref C3) (.type "ValueError") = some true)
    (x3 : W.findIn K (.ref C3) "__class__" = some (some (.builtin "object.__class__")))
    (r3 : W.mroIn K C3 (.type "object") = some true)
    (e3 : W.excIn K C3 veT "ValueError.__new__" = true)
    (p3_0 : W.subIn K (.ref C3) (.ref C0) = some false)
    (o3_0 : (C3 == C0) = false)
    (p3_1 : W.subIn K (.ref C3) (.ref C1) = some false)
    (o3_1 : (C3 == C1) = false)
    (p3_2 : W.subIn K (.ref C3) (.ref C2) = some false)
    (o3_2 : (C3 == C2) = false)
    (p3_3 : W.subIn K (.ref C3) (.ref C3) = some true)
    (mfi0 : W.findIn K (.ref C0) "__init__" = some (some (.ref fa0)))
    (fty0 : W.typeIn K (.ref fa0) = some (.type "function"))
    (l21 : K.lookup fa0 = some ⟨oc21, od21, .func (W.fnOf "__init__" "Singular.__init__" (defArgs (clsSt (top 4) 0)) (defBody (clsSt (top 4) 0)) (defScope (clsSt (top 4) 0)) .none kV21 dc21 pm21 an21 cd21 ct21), sl21⟩)
    (c21_ : W.codeIn K cd21 "Singular.__init__" = true)
    (k21_ : W.keepIn K (.ref fa0) = true)
    (oc0_ : K.lookup C0 = some (excClassObj xn0 xq0 C0 xN0 xb0 xm0 true xsn0 xs0 xa0 xc0 xd0 xk0_0 xk1_0 xk2_0 xk3_0 xk5_0 "ValueError.__new__"))
    (ov0_ : PySem.HandSPX.refsVE xm0 = true)
    (sa0_ : W.findIn K (.ref C0) "__setattr__" = some (some (.builtin "object.__setattr__")))
    (rd3_ : W.readsIn K C3 (.type "type") = true)
    (rg3_ : W.specialIn K (.ref C3) "__getattribute__" = some (some (.builtin "type.__getattribute__")))
    (rc3_ : W.findCls K (.ref C3) (.type "type") "__init__" = some (.val (.builtin "ValueError.__init__")))
    (nf0_mix : W.findIn K (.ref C0) "mix" = some none)
    (nf1_mix : W.findIn K (.ref C1) "mix" = some none)
    (nf2_mix : W.findIn K (.ref C2) "mix" = some none)
    (nf3_mix : W.findIn K (.ref C3) "mix" = some none)
    (hn_ : W.specialIn K (.builtin "object.__class__") "__get__" = some (some (.builtin "getset_descriptor.__get__")))
    (ht_ : W.takesIn K (.builtin "object.__class__") = some true)
    (z_len : W.nsIn K mainGlobals "len" = some none)
    (z_abs : W.nsIn K mainGlobals "abs" = some none)
    (z_sum : W.nsIn K mainGlobals "sum" = some none)
    (z_sorted : W.nsIn K mainGlobals "sorted" = some none)
    (z_list : W.nsIn K mainGlobals "list" = some none)
    (z_int : W.nsIn K mainGlobals "int" = some none)
    (z_str : W.nsIn K mainGlobals "str" = some none)
    (z_max : W.nsIn K mainGlobals "max" = some none)
    (z_min : W.nsIn K mainGlobals "min" = some none)
    (z_isinstance : W.nsIn K mainGlobals "isinstance" = some none)
    (z_range : W.nsIn K mainGlobals "range" = some none)
    (z_bool : W.nsIn K mainGlobals "bool" = some none)
    (z_tuple : W.nsIn K mainGlobals "tuple" = some none)
    (z_dict : W.nsIn K mainGlobals "dict" = some none)
    (z_ValueError : W.nsIn K mainGlobals "ValueError" = some none)
    (z_reversed : W.nsIn K mainGlobals "reversed" = some none)
    (z_enumerate : W.nsIn K mainGlobals "enumerate" = some none)
    (z_any : W.nsIn K mainGlobals "any" = some none)
    (z_all : W.nsIn K mainGlobals "all" = some none)
    (z_zip : W.nsIn K mainGlobals "zip" = some none)
    (z_set : W.nsIn K mainGlobals "set" = some none)
    : ∃ fd : FuncData, (∀ (s : Shared) (v : Value), BindsTo s fd ⟨[v], []⟩ [("_law_script", v)]) ∧ ∀ base : Heap, K.In base → base.Ns mainGlobals mg → FnOk P w K mg base (L2N.CX P w) 7 fa fd ["_law_script"] (spLawB K) := by
  have e := hfa.symm.trans (PySem.W.mg_of X G a0)
  cases e
  let cl : Nat → Addr := fun n => match n with | 0 => C0 | 1 => C1 | 2 => C2 | 3 => C3 | _ => 0
  let gl : Nat → V := fun _ => .non
  have W : Wd lw K mg cl gl :=
    { one := fc ⟨PySem.W.mg_of X G m0, s0, v0, w0, y0, ⟨g0, q0, s0, w0, x0, hn_, ht_, r0⟩, ve0⟩ (fc ⟨PySem.W.mg_of X G m1, s1, v1, w1, y1, ⟨g1, q1, s1, w1, x1, hn_, ht_, r1⟩, ve1⟩ (fc ⟨PySem.W.mg_of X G m2, s2, v2, w2, y2, ⟨g2, q2, s2, w2, x2, hn_, ht_, r2⟩, ve2⟩ (fc ⟨PySem.W.mg_of X G m3, s3, v3, w3, y3, ⟨g3, q3, s3, w3, x3, hn_, ht_, r3⟩, ve3⟩ fn0)))
      ex := fc e3 fn0
      pr := fc (fc p0_0 (fc p0_1 (fc p0_2 (fc p0_3 fn0)))) (fc (fc p1_0 (fc p1_1 (fc p1_2 (fc p1_3 fn0)))) (fc (fc p2_0 (fc p2_1 (fc p2_2 (fc p2_3 fn0)))) (fc (fc p3_0 (fc p3_1 (fc p3_2 (fc p3_3 fn0)))) fn0)))
      rf := fc (fc (fun _ => rfl) (fc (fun z => absurd z (ne_of_beq_false o0_1)) (fc (fun z => absurd z (ne_of_beq_false o0_2)) (fc (fun _ => rfl) fn0)))) (fc (fc (fun z => absurd z (ne_of_beq_false o1_0)) (fc (fun _ => rfl) (fc (fun z => absurd z (ne_of_beq_false o1_2)) (fc (fun _ => rfl) fn0)))) (fc (fc (fun z => absurd z (ne_of_beq_false o2_0)) (fc (fun z => absurd z (ne_of_beq_false o2_1)) (fc (fun _ => rfl) (fc (fun _ => rfl) fn0)))) (fc (fc (fun z => absurd z (ne_of_beq_false o3_0)) (fc (fun z => absurd z (ne_of_beq_false o3_1)) (fc (fun z => absurd z (ne_of_beq_false o3_2)) (fc (fun _ => rfl) fn0)))) fn0)))
      blt := fc (PySem.W.mg_none_of X G z_len) (fc (PySem.W.mg_none_of X G z_abs) (fc (PySem.W.mg_none_of X G z_sum) (fc (PySem.W.mg_none_of X G z_sorted) (fc (PySem.W.mg_none_of X G z_list) (fc (PySem.W.mg_none_of X G z_int) (fc (PySem.W.mg_none_of X G z_str) (fc (PySem.W.mg_none_of X G z_max) (fc (PySem.W.mg_none_of X G z_min) (fc (PySem.W.mg_none_of X G z_isinstance) (fc (PySem.W.mg_none_of X G z_range) (fc (PySem.W.mg_none_of X G z_bool) (fc (PySem.W.mg_none_of X G z_tuple) (fc (PySem.W.mg_none_of X G z_dict) (fc (PySem.W.mg_none_of X G z_ValueError) (fc (PySem.W.mg_none_of X G z_reversed) (fc (PySem.W.mg_none_of X G z_enumerate) (fc (PySem.W.mg_none_of X G z_any) (fc (PySem.W.mg_none_of X G z_all) (fc (PySem.W.mg_none_of X G z_zip) (fc (PySem.W.mg_none_of X G z_set) fn0))))))))))))))))))))
      glo := fn0 }
  let iad : Nat → Addr := fun n => match n with | 0 => fa0 | _ => 0
  have W1 : Wd1 K cl (fun _ => 0) iad [0] [3] :=
    { ow := fc ⟨⟨⟨_, _, _, _, _, _, _, _, _, _, _, _, _, _, _, oc0_, ov0_⟩, sa0_, s0, v0, y0⟩, mfi0, fty0⟩ fn0
      rd := fc ⟨rd3_, rg3_, rc3_⟩ fn0 }
  have F2 := FunD.ofN l2 c2_ k2_
  have B2 : Binds K _ ["_law_script", "_law_k"] [] := F2.bindsN (ps := ["_law_script", "_law_k"]) fun _ _ _ _ _ _ us hl => match us, hl with | [_, _], _ => rfl
  have F3 := FunD.ofN l3 c3_ k3_
  have B3 : Binds K _ ["_law_cell", "_law_many"] [] := F3.bindsN (ps := ["_law_cell", "_law_many"]) fun _ _ _ _ _ _ us hl => match us, hl with | [_, _], _ => rfl
  have F4 := FunD.ofN l4 c4_ k4_
  have B4 : Binds K _ ["_law_cell", "_law_by"] [] := F4.bindsN (ps := ["_law_cell", "_law_by"]) fun _ _ _ _ _ _ us hl => match us, hl with | [_, _], _ => rfl
  have F1 := FunD.ofN l1 c1_ k1_
  have B1 : Binds K _ ["_law_script"] [] := F1.bindsN (ps := ["_law_script"]) fun _ _ _ _ _ _ us hl => match us, hl with | [_], _ => rfl
  have F6 := FunD.ofN l6 c6_ k6_
  have B6 : Binds K _ ["square"] [] := F6.bindsN (ps := ["square"]) fun _ _ _ _ _ _ us hl => match us, hl with | [_], _ => rfl
  have F10 := FunD.ofN l10 c10_ k10_
  have B10 : Binds K _ ["one", "other"] [] := F10.bindsN (ps := ["one", "other"]) fun _ _ _ _ _ _ us hl => match us, hl with | [_, _], _ => rfl
  have F9 := FunD.ofN l9 c9_ k9_
  have B9 : Binds K _ ["row"] [] := F9.bindsN (ps := ["row"]) fun _ _ _ _ _ _ us hl => match us, hl with | [_], _ => rfl
  have F8 := FunD.ofN l8 c8_ k8_
  have B8 : Binds K _ ["row", "by", "at"] [] := F8.bindsN (ps := ["row", "by", "at"]) fun _ _ _ _ _ _ us hl => match us, hl with | [_, _, _], _ => rfl
  have F7 := FunD.ofN l7 c7_ k7_
  have B7 : Binds K _ ["rows", "place", "at"] [] := F7.bindsN (ps := ["rows", "place", "at"]) fun _ _ _ _ _ _ us hl => match us, hl with | [_, _, _], _ => rfl
  have F5 := FunD.ofN l5 c5_ k5_
  have B5 : Binds K _ ["square"] [] := F5.bindsN (ps := ["square"]) fun _ _ _ _ _ _ us hl => match us, hl with | [_], _ => rfl
  have F12 := FunD.ofN l12 c12_ k12_
  have B12 : Binds K _ ["_law_found"] [] := F12.bindsN (ps := ["_law_found"]) fun _ _ _ _ _ _ us hl => match us, hl with | [_], _ => rfl
  have F13 := FunD.ofN l13 c13_ k13_
  have B13 : Binds K _ ["_law_square_here", "_law_row"] [] := F13.bindsN (ps := ["_law_square_here", "_law_row"]) fun _ _ _ _ _ _ us hl => match us, hl with | [_, _], _ => rfl
  have F11 := FunD.ofN l11 c11_ k11_
  have B11 : Binds K _ ["_law_square_here", "_law_mix_here"] [] := F11.bindsN (ps := ["_law_square_here", "_law_mix_here"]) fun _ _ _ _ _ _ us hl => match us, hl with | [_, _], _ => rfl
  have F14 := FunD.ofN l14 c14_ k14_
  have B14 : Binds K _ ["_law_square_here", "_law_handed"] [] := F14.bindsN (ps := ["_law_square_here", "_law_handed"]) fun _ _ _ _ _ _ us hl => match us, hl with | [_, _], _ => rfl
  have F18 := FunD.ofN l18 c18_ k18_
  have B18 : Binds K _ ["_law_square_here"] [] := F18.bindsN (ps := ["_law_square_here"]) fun _ _ _ _ _ _ us hl => match us, hl with | [_], _ => rfl
  have F20 := FunD.ofN l20 c20_ k20_
  have B20 : Binds K _ ["_law_one", "_law_other"] [] := F20.bindsN (ps := ["_law_one", "_law_other"]) fun _ _ _ _ _ _ us hl => match us, hl with | [_, _], _ => rfl
  have F19 := FunD.ofN l19 c19_ k19_
  have B19 : Binds K _ ["_law_square_here", "_law_paper"] [] := F19.bindsN (ps := ["_law_square_here", "_law_paper"]) fun _ _ _ _ _ _ us hl => match us, hl with | [_, _], _ => rfl
  have F0 := FunD.ofN l0 c0_ k0_
  have B0 : Binds K _ ["_law_script"] [] := F0.bindsN (ps := ["_law_script"]) fun _ _ _ _ _ _ us hl => match us, hl with | [_], _ => rfl
  have F21 := FunD.ofN l21 c21_ k21_
  have B21 : Binds K _ ["self", "mix"] [] := F21.bindsN (ps := ["self", "mix"]) fun _ _ _ _ _ _ us hl => match us, hl with | [_, _], _ => rfl
  refine ⟨_, fun s v => F0.bindsA (ps := ["_law_script"]) (fun _ _ _ _ _ _ us hl => match us, hl with | [_], _ => rfl) s [v] rfl, fun base hk hn => ?_⟩
  have H21 := k21 (P := P) (w := w) (base := base) W W1 F21 (bind0 B21)
  have H2 := k2 (P := P) (w := w) (base := base) W W1 F2 (bind0 B2) 
  have H3 := k3 (P := P) (w := w) (base := base) W W1 F3 (bind0 B3) 
  have H4 := k4 (P := P) (w := w) (base := base) W W1 F4 (bind0 B4) 
  have H1 := k1 (P := P) (w := w) (base := base) W W1 F1 (bind0 B1) H2 (PySem.W.mg_of X G a2) H3 (PySem.W.mg_of X G a3) H4 (PySem.W.mg_of X G a4)
  have H6 := k6 (P := P) (w := w) (base := base) W W1 F6 (bind0 B6) 
  have H10 := k10 (P := P) (w := w) (base := base) W W1 F10 (bind0 B10) 
  have H9 := k9 (P := P) (w := w) (base := base) W W1 F9 (bind0 B9) H10 (PySem.W.mg_of X G a10)
  have H8 := k8 (P := P) (w := w) (base := base) W W1 F8 (bind0 B8) H9 (PySem.W.mg_of X G a9)
  have H7 := k7 (P := P) (w := w) (base := base) W W1 F7 (bind0 B7) H8 (PySem.W.mg_of X G a8)
  have H5 := k5 (P := P) (w := w) (base := base) W W1 F5 (bind0 B5) H6 (PySem.W.mg_of X G a6) H7 (PySem.W.mg_of X G a7) H9 (PySem.W.mg_of X G a9) H21
  have H12 := k12 (P := P) (w := w) (base := base) W W1 F12 (bind0 B12) 
  have H13 := k13 (P := P) (w := w) (base := base) W W1 F13 (bind0 B13) 
  have H11 := k11 (P := P) (w := w) (base := base) W W1 F11 (bind0 B11) H12 (PySem.W.mg_of X G a12) H13 (PySem.W.mg_of X G a13)
  have H16 := k16 (P := P) (w := w) (base := base) W W1 F12 (bind0 B12) 
  have H17 := k17 (P := P) (w := w) (base := base) W W1 F13 (bind0 B13) 
  have H15 := k15 (P := P) (w := w) (base := base) W W1 F11 (bind0 B11) H16 (PySem.W.mg_of X G a12) H17 (PySem.W.mg_of X G a13)
  have H14 := k14 (P := P) (w := w) (base := base) W W1 F14 (bind0 B14) H5 (PySem.W.mg_of X G a5) H15 (PySem.W.mg_of X G a11)
  have H18 := k18 (P := P) (w := w) (base := base) W W1 F18 (bind0 B18) H5 (PySem.W.mg_of X G a5)
  have H20 := k20 (P := P) (w := w) (base := base) W W1 F20 (bind0 B20) 
  have H19 := k19 (P := P) (w := w) (base := base) W W1 F19 (bind0 B19) H12 (PySem.W.mg_of X G a12) H13 (PySem.W.mg_of X G a13) H20 (PySem.W.mg_of X G a20)
  have F := def_ok (G := gx lw T0 P w K mg base cl gl) (c := c0) (k := 6) (s := b0) (ps := ["_law_script"]) F0 ⟨⟨rfl, rfl, rfl, by decide +kernel, rfl, by decide +kernel, by decide +kernel⟩, (show cq T0 c0 (top 26) b0 by decide +kernel), rfl⟩ (W.world1 W1 (by decide) fn0 rfl) { fns := (fc ⟨_, (H1.up (by decide)).tb, PySem.W.mg_of X G a1⟩ (fc ⟨_, (H5.up (by decide)).tb, PySem.W.mg_of X G a5⟩ (fc ⟨_, (H11.up (by decide)).tb, PySem.W.mg_of X G a11⟩ (fc ⟨_, (H14.up (by decide)).tb, PySem.W.mg_of X G a14⟩ (fc ⟨_, (H18.up (by decide)).tb, PySem.W.mg_of X G a18⟩ (fc ⟨_, (H19.up (by decide)).tb, PySem.W.mg_of X G a19⟩ (fun _ z => nomatch z))))))), fnh := (fun _ z => nomatch z) }
  exact F.imp (law_ok (C := ⟨K, cl, gl, none⟩) (d0 ⟨W.exm, fc (fc nf0_mix fn0) (fc (fc nf1_mix fn0) (fc (fc nf2_mix fn0) (fc (fc nf3_mix fn0) fn0))), fc ((W1.ow 0 (by decide)).oc) fn0⟩) law)
end K45
namespace NEnd
def lo0 : List PySem.Str := ["__name__", "BooksError", "NoNumber", "Ringed", "Singular", "divisor", "lowered", "crossed", "with_units", "cleared", "paper_of", "_law_cell_at", "_law_whole", "_law_mix", "_law_names", "_law_divisor", "_law_mixed", "_law_entry", "_law_square", "_law_paper_told", "_law_mix_told", "_law_mix_again", "_law_by_base"]
def los : List PySem.Str := lo0
end NEnd
open PySem PySem.W PyProof.Rows
local macro_rules
  | `(tactic| o_head ($f $k $a $e)) => do
    let hw := Lean.mkIdent `hw
    let hc := Lean.mkIdent `hc
    `(tactic| refine HandSHeadRun.head_any (r := OpenLaw.row PySem.Challenge.rw_groupbooks_k45_whole_paper_or_mix) (q := view (OpenLaw.row PySem.Challenge.rw_groupbooks_k45_whole_paper_or_mix).prog [26]) (H := $f $k $a $e) (ob := fun s => List.map (HandSHeadRun.getT s) $a) (M := 16000) (loose := NEnd.los) (d := HandSHeadRun.topDef (OpenLaw.row PySem.Challenge.rw_groupbooks_k45_whole_paper_or_mix).prog 26) (kwd := []) (fun s => congrArg (fun g => List.map g $a) (funext (HandSHeadRun.getT_eq s)))
      (by kernel_rfl) (fun s => by kernel_rfl) (fun w => by intro os; kernel_rfl) (by kernel_rfl) (by kernel_rfl) (by kernel_rfl) (by rfl) (by first | assumption | decide +kernel) (by decide +kernel) ⟨rfl, rfl, rfl, rfl, rfl, by decide +kernel⟩ ?$hw ?$hc)
set_option maxRecDepth 100000 in
set_option maxHeartbeats 0 in
theorem PySem.Challenge.cw_groupbooks_k45_whole_paper_or_mix_holds : PySem.Challenge.rw_groupbooks_k45_whole_paper_or_mix.Holds := by
  w_on; o_law; k_head; (case hw => w_witness2)
  k_fill
  refine Q.walk_k (l := PySem.Challenge.rw_groupbooks_k45_whole_paper_or_mix) (k := 7) "_law_script" rfl rfl ⟨rfl, by decide, by decide⟩ (fun w h Y => PySem.W.kIn_of Y) ?F
  case F =>
   as_aux_lemma =>
    intro w mg fa h KX G hmg
    refine' K45.all_mk K45.law_plain KX G hmg ?q_a2 ?q_l2 ?q_c2_ ?q_k2_ ?q_a3 ?q_l3 ?q_c3_ ?q_k3_ ?q_a4 ?q_l4 ?q_c4_ ?q_k4_ ?q_a1 ?q_l1 ?q_c1_ ?q_k1_ ?q_a6 ?q_l6 ?q_c6_ ?q_k6_ ?q_a10 ?q_l10 ?q_c10_ ?q_k10_ ?q_a9 ?q_l9 ?q_c9_ ?q_k9_ ?q_a8 ?q_l8 ?q_c8_ ?q_k8_ ?q_a7 ?q_l7 ?q_c7_ ?q_k7_ ?q_a5 ?q_l5 ?q_c5_ ?q_k5_ ?q_a12 ?q_l12 ?q_c12_ ?q_k12_ ?q_a13 ?q_l13 ?q_c13_ ?q_k13_ ?q_a11 ?q_l11 ?q_c11_ ?q_k11_ ?q_a14 ?q_l14 ?q_c14_ ?q_k14_ ?q_a18 ?q_l18 ?q_c18_ ?q_k18_ ?q_a20 ?q_l20 ?q_c20_ ?q_k20_ ?q_a19 ?q_l19 ?q_c19_ ?q_k19_ ?q_a0 ?q_l0 ?q_c0_ ?q_k0_ ?q_m0 ?q_s0 ?q_v0 ?q_w0 ?q_y0 ?q_g0 ?q_q0 ?q_ve0 ?q_x0 ?q_r0 ?q_p0_0 ?q_p0_1 ?q_o0_1 ?q_p0_2 ?q_o0_2 ?q_p0_3 ?q_m1 ?q_s1 ?q_v1 ?q_w1 ?q_y1 ?q_g1 ?q_q1 ?q_ve1 ?q_x1 ?q_r1 ?q_p1_0 ?q_o1_0 ?q_p1_1 ?q_p1_2 ?q_o1_2 ?q_p1_3 ?q_m2 ?q_s2 ?q_v2 ?q_w2 ?q_y2 ?q_g2 ?q_q2 ?q_ve2 ?q_x2 ?q_r2 ?q_p2_0 ?q_o2_0 ?q_p2_1 ?q_o2_1 ?q_p2_2 ?q_p2_3 ?q_m3 ?q_s3 ?q_v3 ?q_w3 ?q_y3 ?q_g3 ?q_q3 ?q_ve3 ?q_x3 ?q_r3 ?q_e3 ?q_p3_0 ?q_o3_0 ?q_p3_1 ?q_o3_1 ?q_p3_2 ?q_o3_2 ?q_p3_3 ?q_mfi0 ?q_fty0 ?q_l21 ?q_c21_ ?q_k21_ ?q_oc0_ ?q_ov0_ ?q_sa0_ ?q_rd3_ ?q_rg3_ ?q_rc3_ ?q_nf0_mix ?q_nf1_mix ?q_nf2_mix ?q_nf3_mix ?q_hn_ ?q_ht_ ?q_z_len ?q_z_abs ?q_z_sum ?q_z_sorted ?q_z_list ?q_z_int ?q_z_str ?q_z_max ?q_z_min ?q_z_isinstance ?q_z_range ?q_z_bool ?q_z_tuple ?q_z_dict ?q_z_ValueError ?q_z_reversed ?q_z_enumerate ?q_z_any ?q_z_all ?q_z_zip ?q_z_set
    (case q_m0 | q_m1 | q_m2 | q_m3 | q_mfi0 | q_a2 | q_l2 | q_c2_ | q_k2_ | q_a3 | q_l3 | q_c3_ | q_k3_ | q_a4 | q_l4 | q_c4_ | q_k4_ | q_a1 | q_l1 | q_c1_ | q_k1_ | q_a6 | q_l6 | q_c6_ | q_k6_ | q_a10 | q_l10 | q_c10_ | q_k10_ | q_a9 | q_l9 | q_c9_ | q_k9_ | q_a8 | q_l8 | q_c8_ | q_k8_ | q_a7 | q_l7 | q_c7_ | q_k7_ | q_a5 | q_l5 | q_c5_ | q_k5_ | q_a12 | q_l12 | q_c12_ | q_k12_ | q_a13 | q_l13 | q_c13_ | q_k13_ | q_a11 | q_l11 | q_c11_ | q_k11_ | q_a14 | q_l14 | q_c14_ | q_k14_ | q_a18 | q_l18 | q_c18_ | q_k18_ | q_a20 | q_l20 | q_c20_ | q_k20_ | q_a19 | q_l19 | q_c19_ | q_k19_ | q_a0 | q_l0 | q_c0_ | q_k0_ | q_s0 | q_v0 | q_w0 | q_y0 | q_g0 | q_q0 | q_ve0 | q_x0 | q_r0 => k_is)
    (case q_p0_0 => first | rfl | k_is)
    (case q_p0_1 | q_p0_2 | q_p0_3 | q_s1 | q_v1 | q_w1 | q_y1 | q_g1 | q_q1 | q_ve1 | q_x1 | q_r1 | q_p1_0 => k_is)
    (case q_o0_1 | q_o0_2 | q_o1_0 => rfl)
    (case q_p1_1 => first | rfl | k_is)
    (case q_p1_2 | q_p1_3 | q_s2 | q_v2 | q_w2 | q_y2 | q_g2 | q_q2 | q_ve2 | q_x2 | q_r2 | q_p2_0 | q_p2_1 => k_is)
    (case q_o1_2 | q_o2_0 | q_o2_1 => rfl)
    (case q_p2_2 => first | rfl | k_is)
    (case q_p2_3 | q_s3 | q_v3 | q_w3 | q_y3 | q_g3 | q_q3 | q_ve3 | q_x3 | q_r3 | q_p3_0 | q_p3_1 | q_p3_2 => k_is)
    (case q_e3 => k_exc)
    (case q_o3_0 | q_o3_1 | q_o3_2 => rfl)
    (case q_p3_3 => first | rfl | k_is)
    (case q_fty0 | q_l21 | q_c21_ | q_k21_ | q_oc0_ | q_sa0_ | q_rd3_ | q_rg3_ | q_rc3_ | q_nf0_mix | q_nf1_mix | q_nf2_mix | q_nf3_mix | q_hn_ | q_ht_ | q_z_len | q_z_abs | q_z_sum | q_z_sorted | q_z_list | q_z_int | q_z_str | q_z_max | q_z_min | q_z_isinstance | q_z_range | q_z_bool | q_z_tuple | q_z_dict | q_z_ValueError | q_z_reversed | q_z_enumerate | q_z_any | q_z_all | q_z_zip | q_z_set => k_is)
    (case q_ov0_ => rfl)
