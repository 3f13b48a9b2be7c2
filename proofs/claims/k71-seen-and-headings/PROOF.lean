import PyProof.Rows.All
import Wide.All
import OpenK.AllK
import Wide.FinOn
import HandS.ForMost
import HandS.ForExc
import HandS.Wide
import HandS.Text
import HandS.TupAny
import HandS.WideBits
import HandS.DictComp
import HandS.SortInts
import HandS.IsInst
import HandS.Deep
import HandS.Iter
import HandS.Dict
import HandS.DictTup
import HandS.SortOrd
import KE.KDictSum
import KE.KSortTup
import KE.KSortTupAny
import HandS.Conv
import HandS.HotCalls
import KE.KRevIter
import HandS.Base
import HandS.Call
import HandS.List
import HandS.RevTup
import HandS.Rev
import HandS.ListItems
import HandS.ExcIs
import HandS.ExcOwn
import HandS.Defaults
import HandS.More
import HandS.SetKeys
import HandS.Walk
import HandS.EndBits
import PySem.Challenge.RW_groupbooks_k71_seen_and_headings
set_option Elab.async false
set_option linter.all false
set_option maxRecDepth 100000
set_option maxHeartbeats 1000000
/-! Pv1: data with modes (D), how it lies in the abstract heap (Rl), what stays so. -/
namespace Pv
open PySem L2
abbrev Frag := PySem.W.Frag
/-- own: made here and known by one road; shr: shared, never written; brw: an own one, seen while nothing is written; kon: shared, maybe locked or of the top -/
inductive Md where
  | own | shr | brw | kon | exn
  deriving DecidableEq
inductive D where
  | non | bl (b : Bool) | int (i : Int) | str (s : Str)
  | tup (l : List D) | lst (m : Md) (l : List D)
  | dk (m : Md) (l : List (Key × D)) | dt (m : Md) (l : List (List Key × D))
  | ins (m : Md) (c : Nat) (l : List (Str × D))
/-- the fixed things: the written part, the classes by number -/
structure Kc where
  K : Frag
  cl : Nat → Addr
  ex : Option (Nat × Addr)
/-- the heap but for some -/
def cut (H : Hp) (os : List Addr) : Hp := fun a => if a ∈ os then none else H a
theorem cut_in {H : Hp} {os : List Addr} {a : Addr} (h : a ∈ os) : cut H os a = none := if_pos h
theorem cut_out {H : Hp} {os : List Addr} {a : Addr} (h : a ∉ os) : cut H os a = H a := if_neg h
theorem cut_some {H : Hp} {os : List Addr} {a : Addr} {o : HO} (h : cut H os a = some o) : H a = some o ∧ a ∉ os := by
  unfold cut at h
  split at h
  · cases h
  · exact ⟨h, by assumption⟩
theorem cut_sub {H : Hp} {os os' : List Addr} (h : ∀ a ∈ os', a ∈ os) : Same (cut H os) (cut H os') := fun a o e => by
  obtain ⟨e1, e2⟩ := cut_some e
  rw [cut_out (fun z => e2 (h a z))]
  exact e1
theorem cut_mono {H H' : Hp} {os : List Addr} (h : Same H H') : Same (cut H os) (cut H' os) := fun a o e => by
  obtain ⟨e1, e2⟩ := cut_some e
  rw [cut_out e2]
  exact h a o e1
theorem cut_upd {H : Hp} {os : List Addr} {a : Addr} {o : HO} (h : a ∈ os) : cut (upd H a o) os = cut H os := by
  funext b
  unfold cut
  split
  · rfl
  · rename_i hb
    exact upd_ne (fun z => hb (z ▸ h))
theorem cut_nil (H : Hp) : cut H [] = H := by
  funext b
  exact cut_out (by simp)
theorem same_cut (H : Hp) (os : List Addr) : Same (cut H os) H := fun _ _ e => (cut_some e).1
/-- fresh things may be cut out as well -/
theorem cut_fresh {H H' : Hp} {os fq : List Addr} (h : Same H H') (hf : ∀ a ∈ fq, H a = none) : Same (cut H os) (cut H' (fq ++ os)) := fun a o e => by
  obtain ⟨e1, e2⟩ := cut_some e
  rw [cut_out]
  · exact h a o e1
  · intro z
    rcases List.mem_append.mp z with z | z
    · rw [hf a z] at e1
      cases e1
    · exact e2 z

mutual
/-- v is d in the heap H; B: what never changes; W: what may be borrowed; the last: the own addresses in it -/
inductive Rl (C : Kc) (B H : Hp) (W : List Addr) : V → D → List Addr → Prop
  | non : Rl C B H W .non .non []
  | bl (b : Bool) : Rl C B H W (.bl b) (.bl b) []
  | int (i : Int) : Rl C B H W (.int i) (.int i) []
  | str (s : Str) : Rl C B H W (.str s) (.str s) []
  | tup {a : Addr} {vs : List V} {ds : List D} {fp : List Addr} : B a = some (.tup vs) → RlL C B H W vs ds fp → Rl C B H W (.ref a) (.tup ds) fp
  | lstK {a : Addr} {vs : List V} {ds : List D} : SqL C.K B a vs → RlL C B H W vs ds [] → Rl C B H W (.ref a) (.lst .kon ds) []
  | lstS {a : Addr} {vs : List V} {ds : List D} : B a = some (.lst vs) → RlL C B H W vs ds [] → Rl C B H W (.ref a) (.lst .shr ds) []
  | lstB {a : Addr} {vs : List V} {ds : List D} : a ∈ W → H a = some (.lst vs) → RlL C B H W vs ds [] → Rl C B H W (.ref a) (.lst .brw ds) []
  | lstO {a : Addr} {vs : List V} {ds : List D} {fp : List Addr} : H a = some (.lst vs) → RlL C B H W vs ds fp → Rl C B H W (.ref a) (.lst .own ds) (a :: fp)
  | dkS {a : Addr} {vs : List (Key × V)} {ds : List (Key × D)} : B a = some (.dK vs) → RlP C B H W Key vs ds [] → Rl C B H W (.ref a) (.dk .shr ds) []
  | dkB {a : Addr} {vs : List (Key × V)} {ds : List (Key × D)} : a ∈ W → H a = some (.dK vs) → RlP C B H W Key vs ds [] → Rl C B H W (.ref a) (.dk .brw ds) []
  | dkO {a : Addr} {vs : List (Key × V)} {ds : List (Key × D)} {fp : List Addr} : H a = some (.dK vs) → RlP C B H W Key vs ds fp → Rl C B H W (.ref a) (.dk .own ds) (a :: fp)
  | dtS {a : Addr} {vs : List (List Key × V)} {ds : List (List Key × D)} : B a = some (.dT vs) → RlP C B H W (List Key) vs ds [] → Rl C B H W (.ref a) (.dt .shr ds) []
  | dtB {a : Addr} {vs : List (List Key × V)} {ds : List (List Key × D)} : a ∈ W → H a = some (.dT vs) → RlP C B H W (List Key) vs ds [] → Rl C B H W (.ref a) (.dt .brw ds) []
  | dtO {a : Addr} {vs : List (List Key × V)} {ds : List (List Key × D)} {fp : List Addr} : H a = some (.dT vs) → RlP C B H W (List Key) vs ds fp → Rl C B H W (.ref a) (.dt .own ds) (a :: fp)
  | insS {a dx : Addr} {n : Nat} {vs : List (Str × V)} {ds : List (Str × D)} : B a = some (.ins (C.cl n) dx vs) → RlP C B H W Str vs ds [] → Rl C B H W (.ref a) (.ins .shr n ds) []
  | insB {a dx : Addr} {n : Nat} {vs : List (Str × V)} {ds : List (Str × D)} : a ∈ W → H a = some (.ins (C.cl n) dx vs) → RlP C B H W Str vs ds [] → Rl C B H W (.ref a) (.ins .brw n ds) []
  | insO {a dx : Addr} {n : Nat} {vs : List (Str × V)} {ds : List (Str × D)} {fp : List Addr} : H a = some (.ins (C.cl n) dx vs) → RlP C B H W Str vs ds fp → Rl C B H W (.ref a) (.ins .own n ds) (a :: fp)
  | insX {a : Addr} {n : Nat} : C.ex = some (n, a) → Rl C B H W (.ref a) (.ins .exn n []) []
inductive RlL (C : Kc) (B H : Hp) (W : List Addr) : List V → List D → List Addr → Prop
  | nil : RlL C B H W [] [] []
  | cons {v : V} {d : D} {fp : List Addr} {vs : List V} {ds : List D} {fq : List Addr} : Rl C B H W v d fp → RlL C B H W vs ds fq → RlL C B H W (v :: vs) (d :: ds) (fp ++ fq)
inductive RlP (C : Kc) (B H : Hp) (W : List Addr) : (κ : Type) → List (κ × V) → List (κ × D) → List Addr → Prop
  | nil {κ : Type} : RlP C B H W κ [] [] []
  | cons {κ : Type} {k : κ} {v : V} {d : D} {fp : List Addr} {vs : List (κ × V)} {ds : List (κ × D)} {fq : List Addr} : Rl C B H W v d fp → RlP C B H W κ vs ds fq → RlP C B H W κ ((k, v) :: vs) ((k, d) :: ds) (fp ++ fq)
end

theorem Same.rd {H H' : Hp} (e : Same H H') {a : Addr} {u : HO} (h : Rd H a u) : Rd H' a u := by
  rcases h with h | ⟨o, h⟩
  · exact .inl (e a _ h)
  · exact .inr ⟨o, e a _ h⟩
theorem Same.sqT {K : Frag} {H H' : Hp} (e : Same H H') {a : Addr} {xs : List V} (h : SqT K H a xs) : SqT K H' a xs := by
  rcases h with h | h
  · exact .inl (Same.rd e h)
  · exact .inr h
theorem Same.sqL {K : Frag} {H H' : Hp} (e : Same H H') {a : Addr} {xs : List V} (h : SqL K H a xs) : SqL K H' a xs := by
  rcases h with h | h
  · exact .inl (Same.rd e h)
  · exact .inr h

/-! ### modes -/
mutual
def mp (f : Md → Md) : D → D
  | .non => .non
  | .bl b => .bl b
  | .int i => .int i
  | .str s => .str s
  | .tup l => .tup (mpL f l)
  | .lst m l => .lst (f m) (mpL f l)
  | .dk m l => .dk (f m) (mpK f l)
  | .dt m l => .dt (f m) (mpT f l)
  | .ins m c l => .ins (f m) c (mpF f l)
def mpL (f : Md → Md) : List D → List D
  | [] => []
  | d :: r => mp f d :: mpL f r
def mpK (f : Md → Md) : List (Key × D) → List (Key × D)
  | [] => []
  | (k, d) :: r => (k, mp f d) :: mpK f r
def mpT (f : Md → Md) : List (List Key × D) → List (List Key × D)
  | [] => []
  | (k, d) :: r => (k, mp f d) :: mpT f r
def mpF (f : Md → Md) : List (Str × D) → List (Str × D)
  | [] => []
  | (k, d) :: r => (k, mp f d) :: mpF f r
end
mutual
def am (p : Md → Bool) : D → Bool
  | .non => true
  | .bl b => true
  | .int i => true
  | .str s => true
  | .tup l => amL p l
  | .lst m l => p m && amL p l
  | .dk m l => p m && amK p l
  | .dt m l => p m && amT p l
  | .ins m c l => p m && amF p l
def amL (p : Md → Bool) : List D → Bool
  | [] => true
  | d :: r => am p d && amL p r
def amK (p : Md → Bool) : List (Key × D) → Bool
  | [] => true
  | (k, d) :: r => am p d && amK p r
def amT (p : Md → Bool) : List (List Key × D) → Bool
  | [] => true
  | (k, d) :: r => am p d && amT p r
def amF (p : Md → Bool) : List (Str × D) → Bool
  | [] => true
  | (k, d) :: r => am p d && amF p r
end
theorem mpL_eq (f : Md → Md) : ∀ l, mpL f l = l.map (mp f)
  | [] => rfl
  | d :: r => by rw [mpL, mpL_eq f r]; rfl
theorem amL_eq (p : Md → Bool) : ∀ l, amL p l = l.all (am p)
  | [] => rfl
  | d :: r => by rw [amL, amL_eq p r]; rfl
theorem mpK_eq (f : Md → Md) : ∀ l : List (Key × D), mpK f l = l.map fun q => (q.1, mp f q.2)
  | [] => rfl
  | (k, d) :: r => by rw [mpK, mpK_eq f r]; rfl
theorem amK_eq (p : Md → Bool) : ∀ l : List (Key × D), amK p l = l.all fun q => am p q.2
  | [] => rfl
  | (k, d) :: r => by rw [amK, amK_eq p r]; rfl
theorem mpT_eq (f : Md → Md) : ∀ l : List (List Key × D), mpT f l = l.map fun q => (q.1, mp f q.2)
  | [] => rfl
  | (k, d) :: r => by rw [mpT, mpT_eq f r]; rfl
theorem amT_eq (p : Md → Bool) : ∀ l : List (List Key × D), amT p l = l.all fun q => am p q.2
  | [] => rfl
  | (k, d) :: r => by rw [amT, amT_eq p r]; rfl
theorem mpF_eq (f : Md → Md) : ∀ l : List (Str × D), mpF f l = l.map fun q => (q.1, mp f q.2)
  | [] => rfl
  | (k, d) :: r => by rw [mpF, mpF_eq f r]; rfl
theorem amF_eq (p : Md → Bool) : ∀ l : List (Str × D), amF p l = l.all fun q => am p q.2
  | [] => rfl
  | (k, d) :: r => by rw [amF, amF_eq p r]; rfl
/-- frozen for ever -/
def fzM : Md → Md
  | .own => .shr
  | m => m
/-- handed back -/
def rtM : Md → Md
  | .brw => .shr
  | m => m
/-- handed in -/
def shM : Md → Md
  | .own => .shr
  | .brw => .shr
  | m => m
/-- seen -/
def boM : Md → Md
  | .own => .brw
  | m => m
def isOwn : Md → Bool
  | .own => true
  | _ => false
def noOwnM : Md → Bool
  | .own => false
  | _ => true
def noBrwM : Md → Bool
  | .brw => false
  | _ => true
abbrev fz : D → D := mp fzM
abbrev sh : D → D := mp shM
abbrev rt : D → D := mp rtM
abbrev bo : D → D := mp boM
abbrev clean : D → Bool := am isOwn
abbrev noOwn : D → Bool := am noOwnM
abbrev noBrw : D → Bool := am noBrwM
mutual
theorem Rl.mono {C : Kc} {B B' H H' : Hp} {W : List Addr} (hB : Same B B') (hH : Same H H') : ∀ {v : V} {d : D} {fp : List Addr}, Rl C B H W v d fp → Rl C B' H' W v d fp
  | _, _, _, .non => .non
  | _, _, _, .bl b => .bl b
  | _, _, _, .int i => .int i
  | _, _, _, .str s => .str s
  | _, _, _, .tup h l => .tup (hB _ _ h) (RlL.mono hB hH l)
  | _, _, _, .lstK h l => .lstK (Same.sqL hB h) (RlL.mono hB hH l)
  | _, _, _, .lstS h l => .lstS (hB _ _ h) (RlL.mono hB hH l)
  | _, _, _, .lstB w h l => .lstB w (hH _ _ h) (RlL.mono hB hH l)
  | _, _, _, .lstO h l => .lstO (hH _ _ h) (RlL.mono hB hH l)
  | _, _, _, .dkS h l => .dkS (hB _ _ h) (RlP.mono hB hH l)
  | _, _, _, .dkB w h l => .dkB w (hH _ _ h) (RlP.mono hB hH l)
  | _, _, _, .dkO h l => .dkO (hH _ _ h) (RlP.mono hB hH l)
  | _, _, _, .dtS h l => .dtS (hB _ _ h) (RlP.mono hB hH l)
  | _, _, _, .dtB w h l => .dtB w (hH _ _ h) (RlP.mono hB hH l)
  | _, _, _, .dtO h l => .dtO (hH _ _ h) (RlP.mono hB hH l)
  | _, _, _, .insS h l => .insS (hB _ _ h) (RlP.mono hB hH l)
  | _, _, _, .insB w h l => .insB w (hH _ _ h) (RlP.mono hB hH l)
  | _, _, _, .insO h l => .insO (hH _ _ h) (RlP.mono hB hH l)
  | _, _, _, .insX h => .insX h
theorem RlL.mono {C : Kc} {B B' H H' : Hp} {W : List Addr} (hB : Same B B') (hH : Same H H') : ∀ {v : List V} {d : List D} {fp : List Addr}, RlL C B H W v d fp → RlL C B' H' W v d fp
  | _, _, _, .nil => .nil
  | _, _, _, .cons h l => .cons (Rl.mono hB hH h) (RlL.mono hB hH l)
theorem RlP.mono {C : Kc} {B B' H H' : Hp} {W : List Addr} (hB : Same B B') (hH : Same H H') : ∀ {κ : Type} {v : List (κ × V)} {d : List (κ × D)} {fp : List Addr}, RlP C B H W κ v d fp → RlP C B' H' W κ v d fp
  | _, _, _, _, .nil => .nil
  | _, _, _, _, .cons h l => .cons (Rl.mono hB hH h) (RlP.mono hB hH l)
end
mutual
theorem Rl.wm {C : Kc} {B H : Hp} {W W' : List Addr} (w : ∀ a ∈ W, a ∈ W') : ∀ {v : V} {d : D} {fp : List Addr}, Rl C B H W v d fp → Rl C B H W' v d fp
  | _, _, _, .non => .non
  | _, _, _, .bl b => .bl b
  | _, _, _, .int i => .int i
  | _, _, _, .str s => .str s
  | _, _, _, .tup h l => .tup h (RlL.wm w l)
  | _, _, _, .lstK h l => .lstK h (RlL.wm w l)
  | _, _, _, .lstS h l => .lstS h (RlL.wm w l)
  | _, _, _, .lstB m h l => .lstB (w _ m) h (RlL.wm w l)
  | _, _, _, .lstO h l => .lstO h (RlL.wm w l)
  | _, _, _, .dkS h l => .dkS h (RlP.wm w l)
  | _, _, _, .dkB m h l => .dkB (w _ m) h (RlP.wm w l)
  | _, _, _, .dkO h l => .dkO h (RlP.wm w l)
  | _, _, _, .dtS h l => .dtS h (RlP.wm w l)
  | _, _, _, .dtB m h l => .dtB (w _ m) h (RlP.wm w l)
  | _, _, _, .dtO h l => .dtO h (RlP.wm w l)
  | _, _, _, .insS h l => .insS h (RlP.wm w l)
  | _, _, _, .insB m h l => .insB (w _ m) h (RlP.wm w l)
  | _, _, _, .insO h l => .insO h (RlP.wm w l)
  | _, _, _, .insX h => .insX h
theorem RlL.wm {C : Kc} {B H : Hp} {W W' : List Addr} (w : ∀ a ∈ W, a ∈ W') : ∀ {v : List V} {d : List D} {fp : List Addr}, RlL C B H W v d fp → RlL C B H W' v d fp
  | _, _, _, .nil => .nil
  | _, _, _, .cons h l => .cons (Rl.wm w h) (RlL.wm w l)
theorem RlP.wm {C : Kc} {B H : Hp} {W W' : List Addr} (w : ∀ a ∈ W, a ∈ W') : ∀ {κ : Type} {v : List (κ × V)} {d : List (κ × D)} {fp : List Addr}, RlP C B H W κ v d fp → RlP C B H W' κ v d fp
  | _, _, _, _, .nil => .nil
  | _, _, _, _, .cons h l => .cons (Rl.wm w h) (RlP.wm w l)
end
mutual
/-- an own thing is seen -/
theorem Rl.bw {C : Kc} {B H : Hp} {W W' : List Addr} : ∀ {v : V} {d : D} {fp : List Addr}, Rl C B H W v d fp → noBrw d = true → (∀ a ∈ fp, a ∈ W') → Rl C B H W' v (bo d) []
  | _, _, _, .non, _, _ => .non
  | _, _, _, .bl b, _, _ => .bl b
  | _, _, _, .int i, _, _ => .int i
  | _, _, _, .str s, _, _ => .str s
  | _, _, _, .tup h l, n, w => .tup h (RlL.bw l n w)
  | _, _, _, .lstK h l, n, w => .lstK h (RlL.bw l (by simpa [noBrw, am, noBrwM] using n) w)
  | _, _, _, .lstS h l, n, w => .lstS h (RlL.bw l (by simpa [noBrw, am, noBrwM] using n) w)
  | _, _, _, .lstB _ h l, n, w => by simp [noBrw, am, noBrwM] at n
  | _, _, _, .lstO h l, n, w => .lstB (w _ List.mem_cons_self) h (RlL.bw l (by simpa [noBrw, am, noBrwM] using n) fun a ha => w a (List.mem_cons_of_mem _ ha))
  | _, _, _, .dkS h l, n, w => .dkS h (RlP.bwK l (by simpa [noBrw, am, noBrwM] using n) w)
  | _, _, _, .dkB _ h l, n, w => by simp [noBrw, am, noBrwM] at n
  | _, _, _, .dkO h l, n, w => .dkB (w _ List.mem_cons_self) h (RlP.bwK l (by simpa [noBrw, am, noBrwM] using n) fun a ha => w a (List.mem_cons_of_mem _ ha))
  | _, _, _, .dtS h l, n, w => .dtS h (RlP.bwT l (by simpa [noBrw, am, noBrwM] using n) w)
  | _, _, _, .dtB _ h l, n, w => by simp [noBrw, am, noBrwM] at n
  | _, _, _, .dtO h l, n, w => .dtB (w _ List.mem_cons_self) h (RlP.bwT l (by simpa [noBrw, am, noBrwM] using n) fun a ha => w a (List.mem_cons_of_mem _ ha))
  | _, _, _, .insS h l, n, w => .insS h (RlP.bwF l (by simpa [noBrw, am, noBrwM] using n) w)
  | _, _, _, .insB _ h l, n, w => by simp [noBrw, am, noBrwM] at n
  | _, _, _, .insO h l, n, w => .insB (w _ List.mem_cons_self) h (RlP.bwF l (by simpa [noBrw, am, noBrwM] using n) fun a ha => w a (List.mem_cons_of_mem _ ha))
  | _, _, _, .insX h, n, w => .insX h
theorem RlL.bw {C : Kc} {B H : Hp} {W W' : List Addr} : ∀ {v : List V} {d : List D} {fp : List Addr}, RlL C B H W v d fp → amL noBrwM d = true → (∀ a ∈ fp, a ∈ W') → RlL C B H W' v (mpL boM d) []
  | _, _, _, .nil, _, _ => .nil
  | _, _, _, .cons h l, n, w => .cons (fp := []) (fq := []) (Rl.bw h (by simp only [amL, Bool.and_eq_true] at n; exact n.1) fun a ha => w a (List.mem_append_left _ ha)) (RlL.bw l (by simp only [amL, Bool.and_eq_true] at n; exact n.2) fun a ha => w a (List.mem_append_right _ ha))
theorem RlP.bwK {C : Kc} {B H : Hp} {W W' : List Addr} : ∀ {v : List (Key × V)} {d : List (Key × D)} {fp : List Addr}, RlP C B H W Key v d fp → amK noBrwM d = true → (∀ a ∈ fp, a ∈ W') → RlP C B H W' Key v (mpK boM d) []
  | _, _, _, .nil, _, _ => .nil
  | _, _, _, .cons h l, n, w => .cons (fp := []) (fq := []) (Rl.bw h (by simp only [amK, Bool.and_eq_true] at n; exact n.1) fun a ha => w a (List.mem_append_left _ ha)) (RlP.bwK l (by simp only [amK, Bool.and_eq_true] at n; exact n.2) fun a ha => w a (List.mem_append_right _ ha))
theorem RlP.bwT {C : Kc} {B H : Hp} {W W' : List Addr} : ∀ {v : List (List Key × V)} {d : List (List Key × D)} {fp : List Addr}, RlP C B H W (List Key) v d fp → amT noBrwM d = true → (∀ a ∈ fp, a ∈ W') → RlP C B H W' (List Key) v (mpT boM d) []
  | _, _, _, .nil, _, _ => .nil
  | _, _, _, .cons h l, n, w => .cons (fp := []) (fq := []) (Rl.bw h (by simp only [amT, Bool.and_eq_true] at n; exact n.1) fun a ha => w a (List.mem_append_left _ ha)) (RlP.bwT l (by simp only [amT, Bool.and_eq_true] at n; exact n.2) fun a ha => w a (List.mem_append_right _ ha))
theorem RlP.bwF {C : Kc} {B H : Hp} {W W' : List Addr} : ∀ {v : List (Str × V)} {d : List (Str × D)} {fp : List Addr}, RlP C B H W Str v d fp → amF noBrwM d = true → (∀ a ∈ fp, a ∈ W') → RlP C B H W' Str v (mpF boM d) []
  | _, _, _, .nil, _, _ => .nil
  | _, _, _, .cons h l, n, w => .cons (fp := []) (fq := []) (Rl.bw h (by simp only [amF, Bool.and_eq_true] at n; exact n.1) fun a ha => w a (List.mem_append_left _ ha)) (RlP.bwF l (by simp only [amF, Bool.and_eq_true] at n; exact n.2) fun a ha => w a (List.mem_append_right _ ha))
end
mutual
/-- an own or seen thing is frozen: B' shows it -/
theorem Rl.sh {C : Kc} {B B' H H' : Hp} {W W' : List Addr} (hB : Same B B') (hW : ∀ a ∈ W, ∀ o, H a = some o → B' a = some o) : ∀ {v : V} {d : D} {fp : List Addr}, Rl C B H W v d fp → (∀ a ∈ fp, ∀ o, H a = some o → B' a = some o) → Rl C B' H' W' v (Pv.sh d) []
  | _, _, _, .non, _ => .non
  | _, _, _, .bl b, _ => .bl b
  | _, _, _, .int i, _ => .int i
  | _, _, _, .str s, _ => .str s
  | _, _, _, .tup h l, w => .tup (hB _ _ h) (RlL.sh hB hW l w)
  | _, _, _, .lstK h l, w => .lstK (Same.sqL hB h) (RlL.sh hB hW l w)
  | _, _, _, .lstS h l, w => .lstS (hB _ _ h) (RlL.sh hB hW l w)
  | _, _, _, .lstB m h l, w => .lstS (hW _ m _ h) (RlL.sh hB hW l w)
  | _, _, _, .lstO h l, w => .lstS (w _ List.mem_cons_self _ h) (RlL.sh hB hW l fun a ha => w a (List.mem_cons_of_mem _ ha))
  | _, _, _, .dkS h l, w => .dkS (hB _ _ h) (RlP.shK hB hW l w)
  | _, _, _, .dkB m h l, w => .dkS (hW _ m _ h) (RlP.shK hB hW l w)
  | _, _, _, .dkO h l, w => .dkS (w _ List.mem_cons_self _ h) (RlP.shK hB hW l fun a ha => w a (List.mem_cons_of_mem _ ha))
  | _, _, _, .dtS h l, w => .dtS (hB _ _ h) (RlP.shT hB hW l w)
  | _, _, _, .dtB m h l, w => .dtS (hW _ m _ h) (RlP.shT hB hW l w)
  | _, _, _, .dtO h l, w => .dtS (w _ List.mem_cons_self _ h) (RlP.shT hB hW l fun a ha => w a (List.mem_cons_of_mem _ ha))
  | _, _, _, .insS h l, w => .insS (hB _ _ h) (RlP.shF hB hW l w)
  | _, _, _, .insB m h l, w => .insS (hW _ m _ h) (RlP.shF hB hW l w)
  | _, _, _, .insO h l, w => .insS (w _ List.mem_cons_self _ h) (RlP.shF hB hW l fun a ha => w a (List.mem_cons_of_mem _ ha))
  | _, _, _, .insX h, w => .insX h
theorem RlL.sh {C : Kc} {B B' H H' : Hp} {W W' : List Addr} (hB : Same B B') (hW : ∀ a ∈ W, ∀ o, H a = some o → B' a = some o) : ∀ {v : List V} {d : List D} {fp : List Addr}, RlL C B H W v d fp → (∀ a ∈ fp, ∀ o, H a = some o → B' a = some o) → RlL C B' H' W' v (mpL shM d) []
  | _, _, _, .nil, _ => .nil
  | _, _, _, .cons h l, w => .cons (fp := []) (fq := []) (Rl.sh hB hW h fun a ha => w a (List.mem_append_left _ ha)) (RlL.sh hB hW l fun a ha => w a (List.mem_append_right _ ha))
theorem RlP.shK {C : Kc} {B B' H H' : Hp} {W W' : List Addr} (hB : Same B B') (hW : ∀ a ∈ W, ∀ o, H a = some o → B' a = some o) : ∀ {v : List (Key × V)} {d : List (Key × D)} {fp : List Addr}, RlP C B H W Key v d fp → (∀ a ∈ fp, ∀ o, H a = some o → B' a = some o) → RlP C B' H' W' Key v (mpK shM d) []
  | _, _, _, .nil, _ => .nil
  | _, _, _, .cons h l, w => .cons (fp := []) (fq := []) (Rl.sh hB hW h fun a ha => w a (List.mem_append_left _ ha)) (RlP.shK hB hW l fun a ha => w a (List.mem_append_right _ ha))
theorem RlP.shT {C : Kc} {B B' H H' : Hp} {W W' : List Addr} (hB : Same B B') (hW : ∀ a ∈ W, ∀ o, H a = some o → B' a = some o) : ∀ {v : List (List Key × V)} {d : List (List Key × D)} {fp : List Addr}, RlP C B H W (List Key) v d fp → (∀ a ∈ fp, ∀ o, H a = some o → B' a = some o) → RlP C B' H' W' (List Key) v (mpT shM d) []
  | _, _, _, .nil, _ => .nil
  | _, _, _, .cons h l, w => .cons (fp := []) (fq := []) (Rl.sh hB hW h fun a ha => w a (List.mem_append_left _ ha)) (RlP.shT hB hW l fun a ha => w a (List.mem_append_right _ ha))
theorem RlP.shF {C : Kc} {B B' H H' : Hp} {W W' : List Addr} (hB : Same B B') (hW : ∀ a ∈ W, ∀ o, H a = some o → B' a = some o) : ∀ {v : List (Str × V)} {d : List (Str × D)} {fp : List Addr}, RlP C B H W Str v d fp → (∀ a ∈ fp, ∀ o, H a = some o → B' a = some o) → RlP C B' H' W' Str v (mpF shM d) []
  | _, _, _, .nil, _ => .nil
  | _, _, _, .cons h l, w => .cons (fp := []) (fq := []) (Rl.sh hB hW h fun a ha => w a (List.mem_append_left _ ha)) (RlP.shF hB hW l fun a ha => w a (List.mem_append_right _ ha))
end
mutual
/-- an own thing is frozen: B' shows it -/
theorem Rl.fz {C : Kc} {B B' H H' : Hp} {W : List Addr} (hB : Same B B') (hH : Same H H') : ∀ {v : V} {d : D} {fp : List Addr}, Rl C B H W v d fp → (∀ a ∈ fp, ∀ o, H a = some o → B' a = some o) → Rl C B' H' W v (Pv.fz d) []
  | _, _, _, .non, _ => .non
  | _, _, _, .bl b, _ => .bl b
  | _, _, _, .int i, _ => .int i
  | _, _, _, .str s, _ => .str s
  | _, _, _, .tup h l, w => .tup (hB _ _ h) (RlL.fz hB hH l w)
  | _, _, _, .lstK h l, w => .lstK (Same.sqL hB h) (RlL.fz hB hH l w)
  | _, _, _, .lstS h l, w => .lstS (hB _ _ h) (RlL.fz hB hH l w)
  | _, _, _, .lstB m h l, w => .lstB m (hH _ _ h) (RlL.fz hB hH l w)
  | _, _, _, .lstO h l, w => .lstS (w _ List.mem_cons_self _ h) (RlL.fz hB hH l fun a ha => w a (List.mem_cons_of_mem _ ha))
  | _, _, _, .dkS h l, w => .dkS (hB _ _ h) (RlP.fzK hB hH l w)
  | _, _, _, .dkB m h l, w => .dkB m (hH _ _ h) (RlP.fzK hB hH l w)
  | _, _, _, .dkO h l, w => .dkS (w _ List.mem_cons_self _ h) (RlP.fzK hB hH l fun a ha => w a (List.mem_cons_of_mem _ ha))
  | _, _, _, .dtS h l, w => .dtS (hB _ _ h) (RlP.fzT hB hH l w)
  | _, _, _, .dtB m h l, w => .dtB m (hH _ _ h) (RlP.fzT hB hH l w)
  | _, _, _, .dtO h l, w => .dtS (w _ List.mem_cons_self _ h) (RlP.fzT hB hH l fun a ha => w a (List.mem_cons_of_mem _ ha))
  | _, _, _, .insS h l, w => .insS (hB _ _ h) (RlP.fzF hB hH l w)
  | _, _, _, .insB m h l, w => .insB m (hH _ _ h) (RlP.fzF hB hH l w)
  | _, _, _, .insO h l, w => .insS (w _ List.mem_cons_self _ h) (RlP.fzF hB hH l fun a ha => w a (List.mem_cons_of_mem _ ha))
  | _, _, _, .insX h, w => .insX h
theorem RlL.fz {C : Kc} {B B' H H' : Hp} {W : List Addr} (hB : Same B B') (hH : Same H H') : ∀ {v : List V} {d : List D} {fp : List Addr}, RlL C B H W v d fp → (∀ a ∈ fp, ∀ o, H a = some o → B' a = some o) → RlL C B' H' W v (mpL fzM d) []
  | _, _, _, .nil, _ => .nil
  | _, _, _, .cons h l, w => .cons (fp := []) (fq := []) (Rl.fz hB hH h fun a ha => w a (List.mem_append_left _ ha)) (RlL.fz hB hH l fun a ha => w a (List.mem_append_right _ ha))
theorem RlP.fzK {C : Kc} {B B' H H' : Hp} {W : List Addr} (hB : Same B B') (hH : Same H H') : ∀ {v : List (Key × V)} {d : List (Key × D)} {fp : List Addr}, RlP C B H W Key v d fp → (∀ a ∈ fp, ∀ o, H a = some o → B' a = some o) → RlP C B' H' W Key v (mpK fzM d) []
  | _, _, _, .nil, _ => .nil
  | _, _, _, .cons h l, w => .cons (fp := []) (fq := []) (Rl.fz hB hH h fun a ha => w a (List.mem_append_left _ ha)) (RlP.fzK hB hH l fun a ha => w a (List.mem_append_right _ ha))
theorem RlP.fzT {C : Kc} {B B' H H' : Hp} {W : List Addr} (hB : Same B B') (hH : Same H H') : ∀ {v : List (List Key × V)} {d : List (List Key × D)} {fp : List Addr}, RlP C B H W (List Key) v d fp → (∀ a ∈ fp, ∀ o, H a = some o → B' a = some o) → RlP C B' H' W (List Key) v (mpT fzM d) []
  | _, _, _, .nil, _ => .nil
  | _, _, _, .cons h l, w => .cons (fp := []) (fq := []) (Rl.fz hB hH h fun a ha => w a (List.mem_append_left _ ha)) (RlP.fzT hB hH l fun a ha => w a (List.mem_append_right _ ha))
theorem RlP.fzF {C : Kc} {B B' H H' : Hp} {W : List Addr} (hB : Same B B') (hH : Same H H') : ∀ {v : List (Str × V)} {d : List (Str × D)} {fp : List Addr}, RlP C B H W Str v d fp → (∀ a ∈ fp, ∀ o, H a = some o → B' a = some o) → RlP C B' H' W Str v (mpF fzM d) []
  | _, _, _, .nil, _ => .nil
  | _, _, _, .cons h l, w => .cons (fp := []) (fq := []) (Rl.fz hB hH h fun a ha => w a (List.mem_append_left _ ha)) (RlP.fzF hB hH l fun a ha => w a (List.mem_append_right _ ha))
end
mutual
/-- of H only the own and the borrowed is asked -/
theorem Rl.hm {C : Kc} {B B' H H' : Hp} {W : List Addr} (hB : Same B B') (hW : ∀ a ∈ W, ∀ o, H a = some o → H' a = some o) : ∀ {v : V} {d : D} {fp : List Addr}, Rl C B H W v d fp → (∀ a ∈ fp, ∀ o, H a = some o → H' a = some o) → Rl C B' H' W v d fp
  | _, _, _, .non, _ => .non
  | _, _, _, .bl b, _ => .bl b
  | _, _, _, .int i, _ => .int i
  | _, _, _, .str s, _ => .str s
  | _, _, _, .tup h l, w => .tup (hB _ _ h) (RlL.hm hB hW l w)
  | _, _, _, .lstK h l, w => .lstK (Same.sqL hB h) (RlL.hm hB hW l w)
  | _, _, _, .lstS h l, w => .lstS (hB _ _ h) (RlL.hm hB hW l w)
  | _, _, _, .lstB m h l, w => .lstB m (hW _ m _ h) (RlL.hm hB hW l w)
  | _, _, _, .lstO h l, w => .lstO (w _ List.mem_cons_self _ h) (RlL.hm hB hW l fun a ha => w a (List.mem_cons_of_mem _ ha))
  | _, _, _, .dkS h l, w => .dkS (hB _ _ h) (RlP.hm hB hW l w)
  | _, _, _, .dkB m h l, w => .dkB m (hW _ m _ h) (RlP.hm hB hW l w)
  | _, _, _, .dkO h l, w => .dkO (w _ List.mem_cons_self _ h) (RlP.hm hB hW l fun a ha => w a (List.mem_cons_of_mem _ ha))
  | _, _, _, .dtS h l, w => .dtS (hB _ _ h) (RlP.hm hB hW l w)
  | _, _, _, .dtB m h l, w => .dtB m (hW _ m _ h) (RlP.hm hB hW l w)
  | _, _, _, .dtO h l, w => .dtO (w _ List.mem_cons_self _ h) (RlP.hm hB hW l fun a ha => w a (List.mem_cons_of_mem _ ha))
  | _, _, _, .insS h l, w => .insS (hB _ _ h) (RlP.hm hB hW l w)
  | _, _, _, .insB m h l, w => .insB m (hW _ m _ h) (RlP.hm hB hW l w)
  | _, _, _, .insO h l, w => .insO (w _ List.mem_cons_self _ h) (RlP.hm hB hW l fun a ha => w a (List.mem_cons_of_mem _ ha))
  | _, _, _, .insX h, w => .insX h
theorem RlL.hm {C : Kc} {B B' H H' : Hp} {W : List Addr} (hB : Same B B') (hW : ∀ a ∈ W, ∀ o, H a = some o → H' a = some o) : ∀ {v : List V} {d : List D} {fp : List Addr}, RlL C B H W v d fp → (∀ a ∈ fp, ∀ o, H a = some o → H' a = some o) → RlL C B' H' W v d fp
  | _, _, _, .nil, _ => .nil
  | _, _, _, .cons h l, w => .cons (Rl.hm hB hW h fun a ha => w a (List.mem_append_left _ ha)) (RlL.hm hB hW l fun a ha => w a (List.mem_append_right _ ha))
theorem RlP.hm {C : Kc} {B B' H H' : Hp} {W : List Addr} (hB : Same B B') (hW : ∀ a ∈ W, ∀ o, H a = some o → H' a = some o) : ∀ {κ : Type} {v : List (κ × V)} {d : List (κ × D)} {fp : List Addr}, RlP C B H W κ v d fp → (∀ a ∈ fp, ∀ o, H a = some o → H' a = some o) → RlP C B' H' W κ v d fp
  | _, _, _, _, .nil, _ => .nil
  | _, _, _, _, .cons h l, w => .cons (Rl.hm hB hW h fun a ha => w a (List.mem_append_left _ ha)) (RlP.hm hB hW l fun a ha => w a (List.mem_append_right _ ha))
end
mutual
/-- a seen thing is handed back: B' shows it -/
theorem Rl.rt {C : Kc} {B B' H H' : Hp} {W W' : List Addr} (hB : Same B B') (hH : Same H H') (hW : ∀ a ∈ W, ∀ o, H a = some o → B' a = some o) : ∀ {v : V} {d : D} {fp : List Addr}, Rl C B H W v d fp → Rl C B' H' W' v (Pv.rt d) fp
  | _, _, _, .non => .non
  | _, _, _, .bl b => .bl b
  | _, _, _, .int i => .int i
  | _, _, _, .str s => .str s
  | _, _, _, .tup h l => .tup (hB _ _ h) (RlL.rt hB hH hW l)
  | _, _, _, .lstK h l => .lstK (Same.sqL hB h) (RlL.rt hB hH hW l)
  | _, _, _, .lstS h l => .lstS (hB _ _ h) (RlL.rt hB hH hW l)
  | _, _, _, .lstB m h l => .lstS (hW _ m _ h) (RlL.rt hB hH hW l)
  | _, _, _, .lstO h l => .lstO (hH _ _ h) (RlL.rt hB hH hW l)
  | _, _, _, .dkS h l => .dkS (hB _ _ h) (RlP.rtK hB hH hW l)
  | _, _, _, .dkB m h l => .dkS (hW _ m _ h) (RlP.rtK hB hH hW l)
  | _, _, _, .dkO h l => .dkO (hH _ _ h) (RlP.rtK hB hH hW l)
  | _, _, _, .dtS h l => .dtS (hB _ _ h) (RlP.rtT hB hH hW l)
  | _, _, _, .dtB m h l => .dtS (hW _ m _ h) (RlP.rtT hB hH hW l)
  | _, _, _, .dtO h l => .dtO (hH _ _ h) (RlP.rtT hB hH hW l)
  | _, _, _, .insS h l => .insS (hB _ _ h) (RlP.rtF hB hH hW l)
  | _, _, _, .insB m h l => .insS (hW _ m _ h) (RlP.rtF hB hH hW l)
  | _, _, _, .insO h l => .insO (hH _ _ h) (RlP.rtF hB hH hW l)
  | _, _, _, .insX h => .insX h
theorem RlL.rt {C : Kc} {B B' H H' : Hp} {W W' : List Addr} (hB : Same B B') (hH : Same H H') (hW : ∀ a ∈ W, ∀ o, H a = some o → B' a = some o) : ∀ {v : List V} {d : List D} {fp : List Addr}, RlL C B H W v d fp → RlL C B' H' W' v (mpL rtM d) fp
  | _, _, _, .nil => .nil
  | _, _, _, .cons h l => .cons (Rl.rt hB hH hW h) (RlL.rt hB hH hW l)
theorem RlP.rtK {C : Kc} {B B' H H' : Hp} {W W' : List Addr} (hB : Same B B') (hH : Same H H') (hW : ∀ a ∈ W, ∀ o, H a = some o → B' a = some o) : ∀ {v : List (Key × V)} {d : List (Key × D)} {fp : List Addr}, RlP C B H W Key v d fp → RlP C B' H' W' Key v (mpK rtM d) fp
  | _, _, _, .nil => .nil
  | _, _, _, .cons h l => .cons (Rl.rt hB hH hW h) (RlP.rtK hB hH hW l)
theorem RlP.rtT {C : Kc} {B B' H H' : Hp} {W W' : List Addr} (hB : Same B B') (hH : Same H H') (hW : ∀ a ∈ W, ∀ o, H a = some o → B' a = some o) : ∀ {v : List (List Key × V)} {d : List (List Key × D)} {fp : List Addr}, RlP C B H W (List Key) v d fp → RlP C B' H' W' (List Key) v (mpT rtM d) fp
  | _, _, _, .nil => .nil
  | _, _, _, .cons h l => .cons (Rl.rt hB hH hW h) (RlP.rtT hB hH hW l)
theorem RlP.rtF {C : Kc} {B B' H H' : Hp} {W W' : List Addr} (hB : Same B B') (hH : Same H H') (hW : ∀ a ∈ W, ∀ o, H a = some o → B' a = some o) : ∀ {v : List (Str × V)} {d : List (Str × D)} {fp : List Addr}, RlP C B H W Str v d fp → RlP C B' H' W' Str v (mpF rtM d) fp
  | _, _, _, .nil => .nil
  | _, _, _, .cons h l => .cons (Rl.rt hB hH hW h) (RlP.rtF hB hH hW l)
end
mutual
/-- nothing seen in it: all that is asked of H' is its own -/
theorem Rl.keep {C : Kc} {B B' H H' : Hp} {W W' : List Addr} (hB : Same B B') : ∀ {v : V} {d : D} {fp : List Addr}, Rl C B H W v d fp → noBrw d = true → (∀ a ∈ fp, ∀ o, H a = some o → H' a = some o) → Rl C B' H' W' v d fp
  | _, _, _, .non, _, _ => .non
  | _, _, _, .bl b, _, _ => .bl b
  | _, _, _, .int i, _, _ => .int i
  | _, _, _, .str s, _, _ => .str s
  | _, _, _, .tup h l, n, w => .tup (hB _ _ h) (RlL.keep hB l n w)
  | _, _, _, .lstK h l, n, w => .lstK (Same.sqL hB h) (RlL.keep hB l (by simpa [noBrw, am, noBrwM] using n) w)
  | _, _, _, .lstS h l, n, w => .lstS (hB _ _ h) (RlL.keep hB l (by simpa [noBrw, am, noBrwM] using n) w)
  | _, _, _, .lstB _ h l, n, w => by simp [noBrw, am, noBrwM] at n
  | _, _, _, .lstO h l, n, w => .lstO (w _ List.mem_cons_self _ h) (RlL.keep hB l (by simpa [noBrw, am, noBrwM] using n) fun a ha => w a (List.mem_cons_of_mem _ ha))
  | _, _, _, .dkS h l, n, w => .dkS (hB _ _ h) (RlP.keepK hB l (by simpa [noBrw, am, noBrwM] using n) w)
  | _, _, _, .dkB _ h l, n, w => by simp [noBrw, am, noBrwM] at n
  | _, _, _, .dkO h l, n, w => .dkO (w _ List.mem_cons_self _ h) (RlP.keepK hB l (by simpa [noBrw, am, noBrwM] using n) fun a ha => w a (List.mem_cons_of_mem _ ha))
  | _, _, _, .dtS h l, n, w => .dtS (hB _ _ h) (RlP.keepT hB l (by simpa [noBrw, am, noBrwM] using n) w)
  | _, _, _, .dtB _ h l, n, w => by simp [noBrw, am, noBrwM] at n
  | _, _, _, .dtO h l, n, w => .dtO (w _ List.mem_cons_self _ h) (RlP.keepT hB l (by simpa [noBrw, am, noBrwM] using n) fun a ha => w a (List.mem_cons_of_mem _ ha))
  | _, _, _, .insS h l, n, w => .insS (hB _ _ h) (RlP.keepF hB l (by simpa [noBrw, am, noBrwM] using n) w)
  | _, _, _, .insB _ h l, n, w => by simp [noBrw, am, noBrwM] at n
  | _, _, _, .insO h l, n, w => .insO (w _ List.mem_cons_self _ h) (RlP.keepF hB l (by simpa [noBrw, am, noBrwM] using n) fun a ha => w a (List.mem_cons_of_mem _ ha))
  | _, _, _, .insX h, n, w => .insX h
theorem RlL.keep {C : Kc} {B B' H H' : Hp} {W W' : List Addr} (hB : Same B B') : ∀ {v : List V} {d : List D} {fp : List Addr}, RlL C B H W v d fp → amL noBrwM d = true → (∀ a ∈ fp, ∀ o, H a = some o → H' a = some o) → RlL C B' H' W' v d fp
  | _, _, _, .nil, _, _ => .nil
  | _, _, _, .cons h l, n, w => .cons (Rl.keep hB h (by simp only [amL, Bool.and_eq_true] at n; exact n.1) fun a ha => w a (List.mem_append_left _ ha)) (RlL.keep hB l (by simp only [amL, Bool.and_eq_true] at n; exact n.2) fun a ha => w a (List.mem_append_right _ ha))
theorem RlP.keepK {C : Kc} {B B' H H' : Hp} {W W' : List Addr} (hB : Same B B') : ∀ {v : List (Key × V)} {d : List (Key × D)} {fp : List Addr}, RlP C B H W Key v d fp → amK noBrwM d = true → (∀ a ∈ fp, ∀ o, H a = some o → H' a = some o) → RlP C B' H' W' Key v d fp
  | _, _, _, .nil, _, _ => .nil
  | _, _, _, .cons h l, n, w => .cons (Rl.keep hB h (by simp only [amK, Bool.and_eq_true] at n; exact n.1) fun a ha => w a (List.mem_append_left _ ha)) (RlP.keepK hB l (by simp only [amK, Bool.and_eq_true] at n; exact n.2) fun a ha => w a (List.mem_append_right _ ha))
theorem RlP.keepT {C : Kc} {B B' H H' : Hp} {W W' : List Addr} (hB : Same B B') : ∀ {v : List (List Key × V)} {d : List (List Key × D)} {fp : List Addr}, RlP C B H W (List Key) v d fp → amT noBrwM d = true → (∀ a ∈ fp, ∀ o, H a = some o → H' a = some o) → RlP C B' H' W' (List Key) v d fp
  | _, _, _, .nil, _, _ => .nil
  | _, _, _, .cons h l, n, w => .cons (Rl.keep hB h (by simp only [amT, Bool.and_eq_true] at n; exact n.1) fun a ha => w a (List.mem_append_left _ ha)) (RlP.keepT hB l (by simp only [amT, Bool.and_eq_true] at n; exact n.2) fun a ha => w a (List.mem_append_right _ ha))
theorem RlP.keepF {C : Kc} {B B' H H' : Hp} {W W' : List Addr} (hB : Same B B') : ∀ {v : List (Str × V)} {d : List (Str × D)} {fp : List Addr}, RlP C B H W Str v d fp → amF noBrwM d = true → (∀ a ∈ fp, ∀ o, H a = some o → H' a = some o) → RlP C B' H' W' Str v d fp
  | _, _, _, .nil, _, _ => .nil
  | _, _, _, .cons h l, n, w => .cons (Rl.keep hB h (by simp only [amF, Bool.and_eq_true] at n; exact n.1) fun a ha => w a (List.mem_append_left _ ha)) (RlP.keepF hB l (by simp only [amF, Bool.and_eq_true] at n; exact n.2) fun a ha => w a (List.mem_append_right _ ha))
end
mutual
/-- a clean thing: of B only its tuples are asked -/
theorem Rl.cln {C : Kc} {B B' H : Hp} {W W' : List Addr} (hT : ∀ a xs, B a = some (.tup xs) → B' a = some (.tup xs)) : ∀ {v : V} {d : D} {fp : List Addr}, Rl C B H W v d fp → clean d = true → Rl C B' H W' v d fp
  | _, _, _, .non, _ => .non
  | _, _, _, .bl b, _ => .bl b
  | _, _, _, .int i, _ => .int i
  | _, _, _, .str s, _ => .str s
  | _, _, _, .tup h l, n => .tup (hT _ _ h) (RlL.cln hT l n)
  | _, _, _, .lstK h l, n => by simp [clean, am, isOwn] at n
  | _, _, _, .lstS h l, n => by simp [clean, am, isOwn] at n
  | _, _, _, .lstB _ h l, n => by simp [clean, am, isOwn] at n
  | _, _, _, .lstO h l, n => .lstO h (RlL.cln hT l (by simpa [clean, am, isOwn] using n))
  | _, _, _, .dkS h l, n => by simp [clean, am, isOwn] at n
  | _, _, _, .dkB _ h l, n => by simp [clean, am, isOwn] at n
  | _, _, _, .dkO h l, n => .dkO h (RlP.clnK hT l (by simpa [clean, am, isOwn] using n))
  | _, _, _, .dtS h l, n => by simp [clean, am, isOwn] at n
  | _, _, _, .dtB _ h l, n => by simp [clean, am, isOwn] at n
  | _, _, _, .dtO h l, n => .dtO h (RlP.clnT hT l (by simpa [clean, am, isOwn] using n))
  | _, _, _, .insS h l, n => by simp [clean, am, isOwn] at n
  | _, _, _, .insB _ h l, n => by simp [clean, am, isOwn] at n
  | _, _, _, .insO h l, n => .insO h (RlP.clnF hT l (by simpa [clean, am, isOwn] using n))
  | _, _, _, .insX h, n => by simp [clean, am, isOwn] at n
theorem RlL.cln {C : Kc} {B B' H : Hp} {W W' : List Addr} (hT : ∀ a xs, B a = some (.tup xs) → B' a = some (.tup xs)) : ∀ {v : List V} {d : List D} {fp : List Addr}, RlL C B H W v d fp → amL isOwn d = true → RlL C B' H W' v d fp
  | _, _, _, .nil, _ => .nil
  | _, _, _, .cons h l, n => .cons (Rl.cln hT h (by simp only [amL, Bool.and_eq_true] at n; exact n.1)) (RlL.cln hT l (by simp only [amL, Bool.and_eq_true] at n; exact n.2))
theorem RlP.clnK {C : Kc} {B B' H : Hp} {W W' : List Addr} (hT : ∀ a xs, B a = some (.tup xs) → B' a = some (.tup xs)) : ∀ {v : List (Key × V)} {d : List (Key × D)} {fp : List Addr}, RlP C B H W Key v d fp → amK isOwn d = true → RlP C B' H W' Key v d fp
  | _, _, _, .nil, _ => .nil
  | _, _, _, .cons h l, n => .cons (Rl.cln hT h (by simp only [amK, Bool.and_eq_true] at n; exact n.1)) (RlP.clnK hT l (by simp only [amK, Bool.and_eq_true] at n; exact n.2))
theorem RlP.clnT {C : Kc} {B B' H : Hp} {W W' : List Addr} (hT : ∀ a xs, B a = some (.tup xs) → B' a = some (.tup xs)) : ∀ {v : List (List Key × V)} {d : List (List Key × D)} {fp : List Addr}, RlP C B H W (List Key) v d fp → amT isOwn d = true → RlP C B' H W' (List Key) v d fp
  | _, _, _, .nil, _ => .nil
  | _, _, _, .cons h l, n => .cons (Rl.cln hT h (by simp only [amT, Bool.and_eq_true] at n; exact n.1)) (RlP.clnT hT l (by simp only [amT, Bool.and_eq_true] at n; exact n.2))
theorem RlP.clnF {C : Kc} {B B' H : Hp} {W W' : List Addr} (hT : ∀ a xs, B a = some (.tup xs) → B' a = some (.tup xs)) : ∀ {v : List (Str × V)} {d : List (Str × D)} {fp : List Addr}, RlP C B H W Str v d fp → amF isOwn d = true → RlP C B' H W' Str v d fp
  | _, _, _, .nil, _ => .nil
  | _, _, _, .cons h l, n => .cons (Rl.cln hT h (by simp only [amF, Bool.and_eq_true] at n; exact n.1)) (RlP.clnF hT l (by simp only [amF, Bool.and_eq_true] at n; exact n.2))
end
def Mutb : HO → Prop
  | .lst _ => True
  | .dK _ => True
  | .dT _ => True
  | .ins _ _ _ => True
  | _ => False
mutual
theorem Rl.mutb {C : Kc} {B H : Hp} {W : List Addr} : ∀ {v : V} {d : D} {fp : List Addr}, Rl C B H W v d fp → ∀ a ∈ fp, ∃ o, H a = some o ∧ Mutb o
  | _, _, _, .non, a, h => nomatch h
  | _, _, _, .bl _, a, h => nomatch h
  | _, _, _, .int _, a, h => nomatch h
  | _, _, _, .str _, a, h => nomatch h
  | _, _, _, .tup _ l, a, h => RlL.mutb l a h
  | _, _, _, .lstK _ l, a, h => nomatch h
  | _, _, _, .lstS _ l, a, h => nomatch h
  | _, _, _, .lstB _ _ l, a, h => nomatch h
  | _, _, _, .lstO e l, a, h => (List.mem_cons.mp h).elim (fun z => by subst z; exact ⟨_, e, trivial⟩) fun z => RlL.mutb l a z
  | _, _, _, .dkS _ l, a, h => nomatch h
  | _, _, _, .dkB _ _ l, a, h => nomatch h
  | _, _, _, .dkO e l, a, h => (List.mem_cons.mp h).elim (fun z => by subst z; exact ⟨_, e, trivial⟩) fun z => RlP.mutb l a z
  | _, _, _, .dtS _ l, a, h => nomatch h
  | _, _, _, .dtB _ _ l, a, h => nomatch h
  | _, _, _, .dtO e l, a, h => (List.mem_cons.mp h).elim (fun z => by subst z; exact ⟨_, e, trivial⟩) fun z => RlP.mutb l a z
  | _, _, _, .insS _ l, a, h => nomatch h
  | _, _, _, .insB _ _ l, a, h => nomatch h
  | _, _, _, .insO e l, a, h => (List.mem_cons.mp h).elim (fun z => by subst z; exact ⟨_, e, trivial⟩) fun z => RlP.mutb l a z
  | _, _, _, .insX e, a, h => nomatch h
theorem RlL.mutb {C : Kc} {B H : Hp} {W : List Addr} : ∀ {v : List V} {d : List D} {fp : List Addr}, RlL C B H W v d fp → ∀ a ∈ fp, ∃ o, H a = some o ∧ Mutb o
  | _, _, _, .nil, a, h => nomatch h
  | _, _, _, .cons x l, a, h => (List.mem_append.mp h).elim (Rl.mutb x a) (RlL.mutb l a)
theorem RlP.mutb {C : Kc} {B H : Hp} {W : List Addr} : ∀ {κ : Type} {v : List (κ × V)} {d : List (κ × D)} {fp : List Addr}, RlP C B H W κ v d fp → ∀ a ∈ fp, ∃ o, H a = some o ∧ Mutb o
  | _, _, _, _, .nil, a, h => nomatch h
  | _, _, _, _, .cons x l, a, h => (List.mem_append.mp h).elim (Rl.mutb x a) (RlP.mutb l a)
end
mutual
theorem Rl.nown {C : Kc} {B H : Hp} {W : List Addr} : ∀ {v : V} {d : D} {fp : List Addr}, Rl C B H W v d fp → noOwn d = true → fp = []
  | _, _, _, .non, _ => rfl
  | _, _, _, .bl _, _ => rfl
  | _, _, _, .int _, _ => rfl
  | _, _, _, .str _, _ => rfl
  | _, _, _, .tup _ l, n => RlL.nown l n
  | _, _, _, .lstK _ l, n => rfl
  | _, _, _, .lstS _ l, n => rfl
  | _, _, _, .lstB _ _ l, n => rfl
  | _, _, _, .lstO e l, n => by simp [noOwn, am, noOwnM] at n
  | _, _, _, .dkS _ l, n => rfl
  | _, _, _, .dkB _ _ l, n => rfl
  | _, _, _, .dkO e l, n => by simp [noOwn, am, noOwnM] at n
  | _, _, _, .dtS _ l, n => rfl
  | _, _, _, .dtB _ _ l, n => rfl
  | _, _, _, .dtO e l, n => by simp [noOwn, am, noOwnM] at n
  | _, _, _, .insS _ l, n => rfl
  | _, _, _, .insB _ _ l, n => rfl
  | _, _, _, .insO e l, n => by simp [noOwn, am, noOwnM] at n
  | _, _, _, .insX h, n => rfl
theorem RlL.nown {C : Kc} {B H : Hp} {W : List Addr} : ∀ {v : List V} {d : List D} {fp : List Addr}, RlL C B H W v d fp → amL noOwnM d = true → fp = []
  | _, _, _, .nil, _ => rfl
  | _, _, _, .cons h l, n => by
    simp only [amL, Bool.and_eq_true] at n
    rw [Rl.nown h n.1, RlL.nown l n.2]; rfl
end
def noExnM : Md → Bool
  | .exn => false
  | _ => true
abbrev noExn : D → Bool := am noExnM
mutual
theorem Rl.cx {C C' : Kc} {B H : Hp} {W : List Addr} (hK : C.K = C'.K) (hc : C.cl = C'.cl) : ∀ {v : V} {d : D} {fp : List Addr}, Rl C B H W v d fp → (noExn d = true ∨ C.ex = none) → Rl C' B H W v d fp
  | _, _, _, .non, _ => .non
  | _, _, _, .bl b, _ => .bl b
  | _, _, _, .int i, _ => .int i
  | _, _, _, .str s, _ => .str s
  | _, _, _, .tup h l, w => .tup h (RlL.cx hK hc l w)
  | _, _, _, .lstK h l, w => .lstK (hK ▸ h) (RlL.cx hK hc l (w.imp_left fun n => by simpa [noExn, am, noExnM] using n))
  | _, _, _, .lstS h l, w => .lstS h (RlL.cx hK hc l (w.imp_left fun n => by simpa [noExn, am, noExnM] using n))
  | _, _, _, .lstB m h l, w => .lstB m h (RlL.cx hK hc l (w.imp_left fun n => by simpa [noExn, am, noExnM] using n))
  | _, _, _, .lstO h l, w => .lstO h (RlL.cx hK hc l (w.imp_left fun n => by simpa [noExn, am, noExnM] using n))
  | _, _, _, .dkS h l, w => .dkS (h) (RlP.cxK hK hc l (w.imp_left fun n => by simpa [noExn, am, noExnM] using n))
  | _, _, _, .dkB m h l, w => .dkB m (h) (RlP.cxK hK hc l (w.imp_left fun n => by simpa [noExn, am, noExnM] using n))
  | _, _, _, .dkO h l, w => .dkO (h) (RlP.cxK hK hc l (w.imp_left fun n => by simpa [noExn, am, noExnM] using n))
  | _, _, _, .dtS h l, w => .dtS (h) (RlP.cxT hK hc l (w.imp_left fun n => by simpa [noExn, am, noExnM] using n))
  | _, _, _, .dtB m h l, w => .dtB m (h) (RlP.cxT hK hc l (w.imp_left fun n => by simpa [noExn, am, noExnM] using n))
  | _, _, _, .dtO h l, w => .dtO (h) (RlP.cxT hK hc l (w.imp_left fun n => by simpa [noExn, am, noExnM] using n))
  | _, _, _, .insS h l, w => .insS (hc ▸ h) (RlP.cxF hK hc l (w.imp_left fun n => by simpa [noExn, am, noExnM] using n))
  | _, _, _, .insB m h l, w => .insB m (hc ▸ h) (RlP.cxF hK hc l (w.imp_left fun n => by simpa [noExn, am, noExnM] using n))
  | _, _, _, .insO h l, w => .insO (hc ▸ h) (RlP.cxF hK hc l (w.imp_left fun n => by simpa [noExn, am, noExnM] using n))
  | _, _, _, .insX h, w => w.elim (fun n => by simp [noExn, am, noExnM] at n) fun z => by rw [z] at h; cases h
theorem RlL.cx {C C' : Kc} {B H : Hp} {W : List Addr} (hK : C.K = C'.K) (hc : C.cl = C'.cl) : ∀ {v : List V} {d : List D} {fp : List Addr}, RlL C B H W v d fp → (amL noExnM d = true ∨ C.ex = none) → RlL C' B H W v d fp
  | _, _, _, .nil, _ => .nil
  | _, _, _, .cons h l, w => .cons (Rl.cx hK hc h (w.imp_left fun n => by simp only [amL, Bool.and_eq_true] at n; exact n.1)) (RlL.cx hK hc l (w.imp_left fun n => by simp only [amL, Bool.and_eq_true] at n; exact n.2))
theorem RlP.cxK {C C' : Kc} {B H : Hp} {W : List Addr} (hK : C.K = C'.K) (hc : C.cl = C'.cl) : ∀ {v : List (Key × V)} {d : List (Key × D)} {fp : List Addr}, RlP C B H W Key v d fp → (amK noExnM d = true ∨ C.ex = none) → RlP C' B H W Key v d fp
  | _, _, _, .nil, _ => .nil
  | _, _, _, .cons h l, w => .cons (Rl.cx hK hc h (w.imp_left fun n => by simp only [amK, Bool.and_eq_true] at n; exact n.1)) (RlP.cxK hK hc l (w.imp_left fun n => by simp only [amK, Bool.and_eq_true] at n; exact n.2))
theorem RlP.cxT {C C' : Kc} {B H : Hp} {W : List Addr} (hK : C.K = C'.K) (hc : C.cl = C'.cl) : ∀ {v : List (List Key × V)} {d : List (List Key × D)} {fp : List Addr}, RlP C B H W (List Key) v d fp → (amT noExnM d = true ∨ C.ex = none) → RlP C' B H W (List Key) v d fp
  | _, _, _, .nil, _ => .nil
  | _, _, _, .cons h l, w => .cons (Rl.cx hK hc h (w.imp_left fun n => by simp only [amT, Bool.and_eq_true] at n; exact n.1)) (RlP.cxT hK hc l (w.imp_left fun n => by simp only [amT, Bool.and_eq_true] at n; exact n.2))
theorem RlP.cxF {C C' : Kc} {B H : Hp} {W : List Addr} (hK : C.K = C'.K) (hc : C.cl = C'.cl) : ∀ {v : List (Str × V)} {d : List (Str × D)} {fp : List Addr}, RlP C B H W Str v d fp → (amF noExnM d = true ∨ C.ex = none) → RlP C' B H W Str v d fp
  | _, _, _, .nil, _ => .nil
  | _, _, _, .cons h l, w => .cons (Rl.cx hK hc h (w.imp_left fun n => by simp only [amF, Bool.and_eq_true] at n; exact n.1)) (RlP.cxF hK hc l (w.imp_left fun n => by simp only [amF, Bool.and_eq_true] at n; exact n.2))
end
end Pv
/-! Pv2: the language (E, S) and what it is worth on data (evE, evS). -/
namespace Pv
open PySem L2

structure Xc where
  c : Nat
  fs : List (Str × D)
inductive Res (α : Type) where
  | ok (a : α) | exc (x : Xc) | bad
namespace Res
def bind {α β : Type} : Res α → (α → Res β) → Res β
  | .ok a, f => f a
  | .exc x, _ => .exc x
  | .bad, _ => .bad
end Res
instance : Monad Res where
  pure := Res.ok
  bind := Res.bind
theorem ok_bind {α β : Type} (a : α) (f : α → Res β) : (Res.ok a >>= f) = f a := rfl
theorem exc_bind {α β : Type} (x : Xc) (f : α → Res β) : ((Res.exc x : Res α) >>= f) = .exc x := rfl
theorem bad_bind {α β : Type} (f : α → Res β) : ((Res.bad : Res α) >>= f) = .bad := rfl
theorem pure_ok {α : Type} (a : α) : (pure a : Res α) = .ok a := rfl

/-- a def: how many parameters, the defaults of the last ones, what it is worth -/
structure Fm where
  ar : Nat
  dfl : List D
  m : List D → Res D
/-- the defs by number; which class is under which; the classes of errors -/
structure Tb where
  f : Nat → Fm
  sub : Nat → Nat → Bool
  cs : List Nat
  xs : List Nat
  gl : Nat → D
abbrev Env := List (Option D)

inductive Blt where
  | len | abs | sum | sorted | list | int | str | max2 | min2
  deriving DecidableEq
inductive E where
  | var (i : Nat) | int (n : Int) | str (s : Str) | bl (b : Bool) | non
  | bin (o : Operator) (a b : E) | neg (a : E)
  | cmp (o : CmpOp) (a b : E)
  | nt (a : E) | and (es : E) | or (es : E)
  | ife (c a b : E)
  | tup (es : E) | lst (es : E) | nil | cons (e es : E)
  | ix (a i : E) | sl (a lo hi : E)
  | call (i : Nat) (es : E)
  | blt (f : Blt) (es : E)
  | isi (a : E) (t : String)
  | lc (j : Nat) (src : E) (c : E) (e : E)
  | lcr (j : Nat) (n : E) (c : E) (e : E)
  | isx (i : Nat) (c : Nat)
  | isv (i : Nat)
  | isxs (i : Nat) (cs : List Nat)
  | callH (i : Nat) (es : E)
  | join (s : Str) (e : E)
  | dct
  | dget (d k z : E)
  | ditm (d : E)
  | lct (i j : Nat) (src : E) (c : E) (e : E)
  | lrev (e : E) | dlst (e : E)
  | glo (n : Nat) | dtt

/-! keys of dicts -/
def keyD : D → Option Key
  | .int n => some (.inl n)
  | .str s => some (.inr s)
  | _ => none
def keyO : Key → D
  | .inl n => .int n
  | .inr s => .str s
def keysD : List D → Option (List Key)
  | [] => some []
  | d :: r => match keyD d with
    | some k => (keysD r).map (k :: ·)
    | none => none
def getKD {κ : Type} [DecidableEq κ] (kvs : List (κ × D)) (k : κ) : Option D := (kvs.find? fun kv => decide (kv.1 = k)).map (·.2)
def putKD {κ : Type} [DecidableEq κ] (kvs : List (κ × D)) (k : κ) (v : D) : List (κ × D) :=
  if (kvs.any fun kv => decide (kv.1 = k)) = true then kvs.map (fun kv => if kv.1 = k then (kv.1, v) else kv) else kvs ++ [(k, v)]
/-- what a dict holds at a key, where it is one -/
def dgetO : D → D → Option (Option D)
  | .dk _ kvs, y => (keyD y).map (getKD kvs)
  | .dt _ kvs, .tup l => (keysD l).map (getKD kvs)
  | _, _ => none
/-- d[k] -/
def dixD (x y : D) : Res D := match dgetO x y with
  | some (some v) => .ok (fz v)
  | _ => .bad
/-- k in d -/
def dinD (y x : D) : Res Bool := match dgetO x y with
  | some o => .ok o.isSome
  | none => .bad
def flatEq : D → D → Bool
  | .non, .non => true
  | .bl a, .bl b => decide (a = b)
  | .int a, .int b => decide (a = b)
  | .str a, .str b => decide (a = b)
  | _, _ => false
def dkEq : List (Key × D) → List (Key × D) → Bool
  | [], [] => true
  | (k, x) :: r, (j, y) :: q => decide (k = j) && flatEq x y && dkEq r q
  | _, _ => false
/-- d == e, alike item by item -/
def deqD : D → D → Res Bool
  | .dk _ a, .dk _ b => if dkEq a b && decide ((a.map (·.1)).Nodup) then .ok true else .bad
  | _, _ => .bad
def isDk1 : D → Bool
  | .dk _ _ => true
  | .dt _ _ => true
  | _ => false
/-! ### operations on data -/
def mulOk (i j : Int) : Bool := decide ((Builtin.Int.intBits i : Int) + (Builtin.Int.intBits j : Int) ≤ 134217728)
def divOk (j : Int) : Bool := decide (j ≠ 0) && decide (j.natAbs.log2 < 9000)
def powOk (i j : Int) : Bool := decide (0 ≤ j) && decide (j ≤ 1000000) && decide (i.natAbs < 2 ^ 64)
def lineOk (n : Nat) : Bool := decide (n < sizeLine)
def notKon : Md → Bool
  | .kon => false
  | _ => true
def addD : D → D → Res D
  | .int i, .int j => .ok (.int (i + j))
  | .str x, .str y => if lineOk (x.length + y.length) then .ok (.str (x ++ y)) else .bad
  | .lst m a, .lst n b => if notKon m && notKon n && lineOk (a.length + b.length) then .ok (.lst .own (mpL fzM a ++ mpL fzM b)) else .bad
  | _, _ => .bad
def subD : D → D → Res D
  | .int i, .int j => .ok (.int (i - j))
  | _, _ => .bad
def mulD : D → D → Res D
  | .int i, .int j => if mulOk i j then .ok (.int (i * j)) else .bad
  | _, _ => .bad
def fdivD : D → D → Res D
  | .int i, .int j => if divOk j then .ok (.int (i.fdiv j)) else .bad
  | _, _ => .bad
def modD : D → D → Res D
  | .int i, .int j => if decide (j ≠ 0) then .ok (.int (i.fmod j)) else .bad
  | _, _ => .bad
def powD : D → D → Res D
  | .int i, .int j => if powOk i j then .ok (.int (i ^ j.toNat)) else .bad
  | _, _ => .bad
def binD : Operator → D → D → Res D
  | .Add => addD
  | .Sub => subD
  | .Mult => mulD
  | .FloorDiv => fdivD
  | .Mod => modD
  | .Pow => powD
  | _ => fun _ _ => .bad
def negD : D → Res D
  | .int i => .ok (.int (-i))
  | _ => .bad
/-! plain data for == -/
mutual
def py : D → PyData
  | .non => .none
  | .bl b => .bool b
  | .int i => .int i
  | .str s => .str s
  | .tup l => .tuple (pyL l)
  | .lst _ l => .list (pyL l)
  | .dk _ _ => .dict []
  | .dt _ _ => .dict []
  | .ins _ _ _ => .dict []
def pyL : List D → List PyData
  | [] => []
  | d :: r => py d :: pyL r
end
def plain (d : D) : Bool := SeqAt.shaped (py d)
def deq (a b : D) : Bool := PyData.eqv (py a) (py b)
def eqD (a b : D) : Res Bool := if isDk1 a then deqD a b else if plain a && plain b then .ok (deq a b) else .bad
def isNon : D → Bool
  | .non => true
  | _ => false
def cmpI (p : Int → Int → Bool) : D → D → Res Bool
  | .int i, .int j => .ok (p i j)
  | _, _ => .bad
def isD : D → D → Res Bool
  | a, .non => .ok (isNon a)
  | _, _ => .bad
def notR : Res Bool → Res Bool
  | .ok b => .ok (!b)
  | .exc x => .exc x
  | .bad => .bad
def flatD : D → Bool
  | .non => true
  | .bl _ => true
  | .int _ => true
  | .str _ => true
  | _ => false
def isL : D → Bool
  | .lst _ _ => true
  | _ => false
/-- x in y, y a list or a tuple -/
def inOk (a b : D) (l : List D) : Bool := (flatD a && l.all flatD) || (isL b && plain a && plain b)
def inD (a b : D) : Res Bool := match b with
  | .lst m l => if inOk a (.lst m l) l then .ok (l.any fun z => deq z a) else .bad
  | .tup l => if inOk a (.tup l) l then .ok (l.any fun z => deq z a) else .bad
  | d => dinD a d
def cmpD : CmpOp → D → D → Res Bool
  | .Eq => eqD
  | .NotEq => fun a b => notR (eqD a b)
  | .Lt => cmpI fun i j => decide (i < j)
  | .LtE => cmpI fun i j => decide (i ≤ j)
  | .Gt => cmpI fun i j => decide (j < i)
  | .GtE => cmpI fun i j => decide (j ≤ i)
  | .Is => isD
  | .IsNot => fun a b => notR (isD a b)
  | .In => inD
  | .NotIn => fun a b => notR (inD a b)
def truthD : D → Res Bool
  | .bl b => .ok b
  | _ => .bad
def ixD : D → D → Res D
  | .tup l, .int i => match atI l i with | some d => .ok (fz d) | none => .bad
  | .lst _ l, .int i => match atI l i with | some d => .ok (fz d) | none => .bad
  | .str z, .int i => if lineOk z.length then (match atI z.cps.toList i with | some ch => .ok (.str ⟨#[ch]⟩) | none => .bad) else .bad
  | d, y => dixD d y
def cutD (l : List D) (lo hi : Option Int) : List D := (l.drop (HT.sIx l.length 0 lo)).take (HT.sIx l.length l.length hi - HT.sIx l.length 0 lo)
def slD : D → Option Int → Option Int → Res D
  | .lst _ l, lo, hi => .ok (.lst .own (mpL fzM (cutD l lo hi)))
  | .str z, lo, hi => if lineOk z.length then .ok (.str (cutS z lo hi)) else .bad
  | _, _, _ => .bad
def intsOf : List D → Option (List Int)
  | [] => some []
  | .int i :: r => (intsOf r).map (i :: ·)
  | _ :: _ => none
def sortInt (l : List Int) : List Int := l.mergeSort fun a b => decide (a ≤ b)
/-- texts by their signs -/
def strLt (a b : Str) : Bool := decide (a.cps.toList < b.cps.toList)
/-- rows of texts, the first unlike one says -/
def rowLt : List Str → List Str → Bool
  | [], [] => false
  | [], _ :: _ => true
  | _ :: _, [] => false
  | a :: x, b :: y => if a = b then rowLt x y else strLt a b
def sortRow (l : List (List Str)) : List (List Str) := l.mergeSort fun a b => !rowLt b a
def rowOf : List Key → Option (List Str)
  | [] => some []
  | .inr s :: r => (rowOf r).map (s :: ·)
  | .inl _ :: _ => none
def rowsOf : List (List Key) → Option (List (List Str))
  | [] => some []
  | k :: r => match rowOf k with
    | some x => (rowsOf r).map (x :: ·)
    | none => none
def rowD (r : List Str) : D := .tup (r.map .str)
/-- all rows have n + 1 texts -/
def evenR (l : List (List Str)) : Bool := match l with
  | [] => true
  | r :: q => decide (r ≠ []) && q.all fun x => decide (x.length = r.length)
/-- sorted(d), the keys tuples of texts -/
def srtT (kvs : List (List Key × D)) : Res D := match rowsOf (kvs.map (·.1)) with
  | some rs => if evenR rs && decide (rs.length < 1000) then .ok (.lst .own ((sortRow rs).map rowD)) else .bad
  | none => .bad
def bltD : Blt → List D → Res D
  | .len, [.lst _ l] => .ok (.int l.length)
  | .len, [.tup l] => .ok (.int l.length)
  | .len, [.str s] => if lineOk s.length then .ok (.int s.length) else .bad
  | .abs, [.int i] => .ok (.int (if i < 0 then -i else i))
  | .sum, [.lst _ l] => match intsOf l with | some ns => .ok (.int ns.sum) | none => .bad
  | .sorted, [.lst _ l] => match intsOf l with | some ns => .ok (.lst .own ((sortInt ns).map .int)) | none => .bad
  | .sorted, [.dt _ kvs] => srtT kvs
  | .list, [.lst _ l] => .ok (.lst .own (mpL fzM l))
  | .list, [.tup l] => .ok (.lst .own (mpL fzM l))
  | .list, [.dk _ kvs] => .ok (.lst .own (kvs.map fun kv => keyO kv.1))
  | .int, [.int i] => .ok (.int i)
  | .int, [.bl b] => .ok (.int (if b then 1 else 0))
  | .max2, [.int i, .int j] => .ok (.int (if j > i then j else i))
  | .min2, [.int i, .int j] => .ok (.int (if j < i then j else i))
  | _, _ => .bad
/-- the built-in types of data -/
def tyD : D → String
  | .non => "NoneType" | .bl _ => "bool" | .int _ => "int" | .str _ => "str" | .tup _ => "tuple" | .lst _ _ => "list" | .dk _ _ => "dict" | .dt _ _ => "dict" | .ins _ _ _ => ""
def isiS (a t : String) : Bool := a == t || (a == "bool" && t == "int")
def tysOk : List String := ["bool", "int", "str", "tuple", "list", "dict"]
def isiD (d : D) (t : String) : Res Bool := match d with
  | .ins _ _ _ => .bad
  | .lst .kon _ => .bad
  | d => if tysOk.contains t then .ok (isiS (tyD d) t) else .bad
/-- a call: what is handed in, what comes back -/
def callD (F : Fm) (ds : List D) : Res D :=
  if ds.length ≤ F.ar ∧ F.ar ≤ ds.length + F.dfl.length then
    match F.m (mpL shM ds ++ F.dfl.drop (ds.length + F.dfl.length - F.ar)) with
    | .ok r => if amL noBrwM ds || clean r then .ok r else .bad
    | .exc x => if amL noBrwM ds || amF isOwn x.fs then .exc x else .bad
    | .bad => .bad
  else .bad
def getE (env : Env) (i : Nat) : Res D := match env[i]? with
  | some (some d) => .ok d
  | _ => .bad
/-- a comprehension's items -/
def lcD (f : D → Res (Option D)) : List D → Res (List D)
  | [] => .ok []
  | d :: r => do
    let o ← f d
    let l ← lcD f r
    match o with
    | some x => return x :: l
    | none => return l
def rngD (n : Int) : List D := (List.range n.toNat).map fun (k : Nat) => .int (k : Int)
/-- a slot that holds nothing of one's own -/
def freeE (env : Env) (j : Nat) : Bool := match env[j]? with
  | some (some d) => noOwn d
  | _ => true
def okO {α : Type} : Res α → Res α
  | .ok a => .ok a
  | _ => .bad
def oneOpt : List D → Res (Option Int)
  | [] => .ok none
  | [.int i] => .ok (some i)
  | _ => .bad

/-! texts joined, dicts -/
def strsOf : List D → Option (List Str)
  | [] => some []
  | .str s :: r => (strsOf r).map (s :: ·)
  | _ :: _ => none
def joinD (s : Str) : D → Res D
  | .lst _ l => match strsOf l with
    | some ys => if decide ((ys.map (·.length)).sum + ys.length * s.length ≤ 16777216) then .ok (.str (Txt.join s ys)) else .bad
    | none => .bad
  | _ => .bad
def isDk : D → Res D
  | .dk m l => .ok (.dk m l)
  | .dt m l => .ok (.dt m l)
  | _ => .bad
def dgetD (x y w : D) : Res D := match dgetO x y with
  | some (some v) => .ok (fz v)
  | some none => .ok (fz w)
  | none => .bad
def ditmD : D → Res D
  | .dk _ kvs => if lineOk kvs.length then .ok (.lst .own (kvs.map fun kv => .tup [keyO kv.1, fz kv.2])) else .bad
  | _ => .bad
def lrevD : D → Res D
  | .lst _ l => .ok (.lst .own (mpL fzM l.reverse))
  | _ => .bad
def pairsOf : List D → Option (List (Key × D))
  | [] => some []
  | .tup [k, v] :: r => match keyD k with
    | some kk => (pairsOf r).map ((kk, fz v) :: ·)
    | none => none
  | _ :: _ => none
def dlstD : D → Res D
  | .lst _ l => match pairsOf l with
    | some kvs => .ok (.dk .own (kvs.foldl (fun acc kv => putKD acc kv.1 kv.2) []))
    | none => .bad
  | .dk _ kvs => .ok (.dk .own (mpK fzM kvs))
  | _ => .bad
def tup2 : D → Option (D × D)
  | .tup [x, y] => some (x, y)
  | _ => none
/-- isinstance of the exception at hand -/
def isxD (T : Tb) (n : Nat) : D → Res Bool
  | .ins .exn m _ => .ok (T.sub m n)
  | _ => .bad
/-- all errors here are ValueErrors -/
def isvD : D → Res Bool
  | .ins .exn _ _ => .ok true
  | _ => .bad
def isxsD (T : Tb) (ns : List Nat) : D → Res Bool
  | .ins .exn m _ => .ok (ns.any (T.sub m))
  | _ => .bad
/-- a def that is called within an except suite: nothing may be raised -/
def hotF (F : Fm) : Fm := ⟨F.ar, F.dfl, fun ds => okO (F.m ds)⟩

mutual
def evE (T : Tb) : E → Env → Res D
  | .var i, env => do return bo (← getE env i)
  | .int n, _ => .ok (.int n)
  | .str s, _ => .ok (.str s)
  | .bl b, _ => .ok (.bl b)
  | .non, _ => .ok .non
  | .bin o a b, env => do
    let x ← evE T a env
    let y ← evE T b env
    binD o x y
  | .neg a, env => do negD (← evE T a env)
  | .cmp o a b, env => do
    let x ← evE T a env
    let y ← evE T b env
    return .bl (← cmpD o x y)
  | .nt a, env => do return .bl (!(← truthD (← evE T a env)))
  | .and es, env => do return .bl (← evAV T es env)
  | .or es, env => do return .bl (← evOV T es env)
  | .ife c a b, env => do if (← evT T c env) then evE T a env else evE T b env
  | .tup es, env => do
    let l ← evL T es env
    if lineOk l.length then return .tup (mpL fzM l) else .bad
  | .lst es, env => do
    let l ← evL T es env
    if lineOk l.length then return .lst .own (mpL fzM l) else .bad
  | .nil, _ => .bad
  | .cons _ _, _ => .bad
  | .ix a i, env => do
    let x ← evE T a env
    let y ← evE T i env
    ixD x y
  | .sl a lo hi, env => do
    let x ← evE T a env
    let l ← oneOpt (← evL T lo env)
    let h ← oneOpt (← evL T hi env)
    slD x l h
  | .call i es, env => do callD (T.f i) (← evL T es env)
  | .blt f es, env => do bltD f (← evL T es env)
  | .isi a t, env => do return .bl (← isiD (← evE T a env) t)
  | .lc j src c e, env => do
    match (← evE T src env) with
    | .lst m l =>
      let r ← okO (lcD (fun d => do if (← evC T c (env.set j (some d))) then return some (fz (← evE T e (env.set j (some d)))) else return none) (mpL fzM l))
      if amL noBrwM l && lineOk l.length && freeE env j then return .lst .own r else .bad
    | _ => .bad
  | .lcr j n c e, env => do
    match (← evE T n env) with
    | .int k =>
      let r ← okO (lcD (fun d => do if (← evC T c (env.set j (some d))) then return some (fz (← evE T e (env.set j (some d)))) else return none) (rngD k))
      if decide (k.natAbs < 1000000) && freeE env j then return .lst .own r else .bad
    | _ => .bad
  | .isx i n, env => do return .bl (← isxD T n (← getE env i))
  | .isv i, env => do return .bl (← isvD (← getE env i))
  | .isxs i ns, env => do return .bl (← isxsD T ns (← getE env i))
  | .callH i es, env => do callD (hotF (T.f i)) (← evL T es env)
  | .join s e, env => do joinD s (← evE T e env)
  | .dct, _ => .ok (.dk .own [])
  | .dget d k z, env => do
    let x ← isDk (← evE T d env)
    let y ← evE T k env
    let w ← evE T z env
    dgetD x y w
  | .ditm d, env => do ditmD (← evE T d env)
  | .lrev e, env => do lrevD (← evE T e env)
  | .dlst e, env => do dlstD (← evE T e env)
  | .lct i j src c e, env => do
    match (← evE T src env) with
    | .lst m l =>
      let r ← okO (lcD (fun d => match tup2 d with | some p => (do if (← evC T c ((env.set i (some p.1)).set j (some p.2))) then return some (fz (← evE T e ((env.set i (some p.1)).set j (some p.2)))) else return none) | none => .bad) (mpL fzM l))
      if amL noBrwM l && lineOk l.length && freeE env i && freeE env j && decide (i ≠ j) then return .lst .own r else .bad
    | _ => .bad
  | .glo n, _ => .ok (T.gl n)
  | .dtt, _ => .ok (.dt .own [])
def evL (T : Tb) : E → Env → Res (List D)
  | .nil, _ => .ok []
  | .cons e es, env => do
    let x ← evE T e env
    let l ← evL T es env
    return x :: l
  | _, _ => .bad
def evT (T : Tb) : E → Env → Res Bool
  | .and es, env => evA T es env
  | .or es, env => evO T es env
  | .nt a, env => do return !(← evT T a env)
  | .cmp o a b, env => do
    let x ← evE T a env
    let y ← evE T b env
    cmpD o x y
  | .var i, env => do truthD (← getE env i)
  | .bl b, _ => .ok b
  | .call i es, env => do truthD (← callD (T.f i) (← evL T es env))
  | .isi a t, env => do isiD (← evE T a env) t
  | .isx i n, env => do isxD T n (← getE env i)
  | .isv i, env => do isvD (← getE env i)
  | .isxs i ns, env => do isxsD T ns (← getE env i)
  | .callH i es, env => do truthD (← callD (hotF (T.f i)) (← evL T es env))
  | _, _ => .bad
def evC (T : Tb) : E → Env → Res Bool
  | .nil, _ => .ok true
  | .cons e .nil, env => evT T e env
  | _, _ => .bad
def evA (T : Tb) : E → Env → Res Bool
  | .cons e es, env => do
    if (← evT T e env) then (match es with | .nil => return true | es => evA T es env) else return false
  | _, _ => .bad
def evO (T : Tb) : E → Env → Res Bool
  | .cons e es, env => do
    if (← evT T e env) then return true else (match es with | .nil => return false | es => evO T es env)
  | _, _ => .bad
def evAV (T : Tb) : E → Env → Res Bool
  | .cons e es, env => do
    if (← truthD (← evE T e env)) then (match es with | .nil => return true | es => evAV T es env) else return false
  | _, _ => .bad
def evOV (T : Tb) : E → Env → Res Bool
  | .cons e es, env => do
    if (← truthD (← evE T e env)) then return true else (match es with | .nil => return false | es => evOV T es env)
  | _, _ => .bad
end

/-! ### statements -/
inductive S where
  | nop | seq (a b : S)
  | asg (i : Nat) (e : E) | asgT (is : List Nat) (e : E)
  | exp (e : E) | app (i : Nat) (e : E)
  | aug (i : Nat) (o : Operator) (e : E)
  | ret (e : E) | retN | retV (i : Nat)
  | ife (c : E) (a b : S)
  | forL (is : List Nat) (src : E) (b : S)
  | forR (j : Nat) (n : E) (b : S)
  | whl (n : Nat) (c : E) (b : S)
  | brk | cnt
  | rse (c : Nat)
  | tryX (b : S) (c i : Nat) (h : S)
  | ins (i : Nat) (k v : E) | clr (i : Nat) | setk (i : Nat) (k v : E)
  | stuck | setl (i : Nat) (k v : E)
  | forE (i j : Nat) (src : E) (b : S) | setd (i : Nat) (k v : E)
  | fz (i : Nat)
inductive Out where
  | nx (env : Env) | ret (d : D) | brk (env : Env) | cnt (env : Env) | exc (x : Xc) (env : Env) | bad
def Out.thn : Out → (Env → Out) → Out
  | .nx e, f => f e
  | o, _ => o
def Res.out {α : Type} (r : Res α) (env : Env) (f : α → Out) : Out := match r with
  | .ok a => f a
  | .exc x => .exc x env
  | .bad => .bad
def putE (env : Env) (i : Nat) (d : D) : Out := if noBrw d && decide (i < env.length) then .nx (env.set i (some d)) else .bad
def putEs : Env → List Nat → List D → Out
  | env, [], [] => .nx env
  | env, i :: is, d :: ds => (putE env i d).thn fun e => putEs e is ds
  | _, _, _ => .bad
/-- a loop's target: one name, or names for a tuple's items -/
def tgE (env : Env) : List Nat → D → Out
  | [i], d => putE env i d
  | i :: j :: is, .tup l => putEs env (i :: j :: is) l
  | _, _ => .bad
def loopD (f : Env → Out) (t : Env → D → Out) : List D → Env → Out
  | [], env => .nx env
  | d :: r, env => match t env d with
    | .nx e1 => (match f e1 with
      | .nx e2 => loopD f t r e2
      | .cnt e2 => loopD f t r e2
      | .brk e2 => .nx e2
      | o => o)
    | _ => .bad
def whlD (c : Env → Res Bool) (f : Env → Out) : Nat → Env → Out
  | 0, _ => .bad
  | n + 1, env => match c env with
    | .ok true => (match f env with
      | .nx e2 => whlD c f n e2
      | .cnt e2 => whlD c f n e2
      | .brk e2 => .nx e2
      | o => o)
    | .ok false => .nx env
    | .exc x => .exc x env
    | .bad => .bad
/-- behind a handler its name is gone -/
def noExnO : Option D → Bool
  | some d => noExn d
  | none => true
def clrO (o : Out) (i : Nat) : Out := match o with
  | .nx e => if freeE e i && (e.set i none).all noExnO then .nx (e.set i none) else .bad
  | .ret d => if noExn d then .ret d else .bad
  | _ => .bad
/-- the pairs of enumerate -/
def enumD : Nat → List D → List D
  | _, [] => []
  | n, d :: r => .tup [.int (n : Int), d] :: enumD (n + 1) r
def evS (T : Tb) : S → Env → Out
  | .nop, env => .nx env
  | .seq a b, env => (evS T a env).thn (evS T b)
  | .asg i e, env => (evE T e env).out env (putE env i)
  | .asgT is e, env => (evE T e env).out env fun d => match d with
    | .tup l => if is.length == 1 || !amL noBrwM l then .bad else putEs env is (mpL fzM l)
    | _ => .bad
  | .exp e, env => (evE T e env).out env fun _ => .nx env
  | .app i e, env => match env[i]? with
    | some (some (.lst .own l)) => (evE T e env).out env fun d => if noBrw d && lineOk l.length then .nx (env.set i (some (.lst .own (l ++ [Pv.fz d])))) else .bad
    | _ => .bad
  | .aug i o e, env => (getE env i).out env fun x => (evE T e env).out env fun y => (match o, x, y with
    | .Add, .int a, .int b => putE env i (.int (a + b))
    | .Sub, .int a, .int b => putE env i (.int (a - b))
    | _, _, _ => .bad)
  | .ret e, env => (evE T e env).out env fun d => .ret (Pv.rt d)
  | .retN, _ => .ret .non
  | .retV i, env => (getE env i).out env .ret
  | .ife c a b, env => (evT T c env).out env fun k => if k then evS T a env else evS T b env
  | .forL is src b, env => (evE T src env).out env fun d => match d with
    | .lst _ l => if amL noBrwM l && noBrw d then loopD (evS T b) (fun e x => tgE e is x) (mpL fzM l) env else .bad
    | _ => .bad
  | .forR j n b, env => (evE T n env).out env fun d => match d with
    | .int k => if decide (k.natAbs < 1000000) then loopD (evS T b) (fun e x => tgE e [j] x) (rngD k) env else .bad
    | _ => .bad
  | .whl n c b, env => whlD (evT T c) (evS T b) n env
  | .brk, env => .brk env
  | .cnt, env => .cnt env
  | .rse c, env => .exc ⟨c, []⟩ env
  | .tryX b c i h, env => match evS T b env with
    | .exc x e1 => if T.xs.contains x.c && x.fs.isEmpty && freeE e1 i && decide (i < e1.length) then (if T.sub x.c c then clrO (evS T h (e1.set i (some (.ins .exn x.c [])))) i else .exc x e1) else .bad
    | o => o
  | .ins i k v, env => match env[i]? with
    | some (some (.lst .own l)) => (evE T k env).out env fun x => (evE T v env).out env fun d => (match x with
      | .int n => if decide (0 ≤ n) && decide (n.natAbs < 1000000) && noBrw d && lineOk l.length && amL noOwnM l then .nx (env.set i (some (.lst .own (l.take n.toNat ++ [Pv.fz d] ++ l.drop n.toNat)))) else .bad
      | _ => .bad)
    | _ => .bad
  | .clr i, env => match env[i]? with
    | some (some (.lst .own _)) => .nx (env.set i (some (.lst .own [])))
    | _ => .bad
  | .stuck, _ => .bad
  | .setl i k v, env => match env[i]? with
    | some (some (.lst .own l)) => (evE T v env).out env fun d => (evE T k env).out env fun y => (match y with
      | .int n => (match ixN l.length n with
        | some j => if noBrw d && amL noOwnM l then .nx (env.set i (some (.lst .own (l.set j (Pv.fz d))))) else .bad
        | none => .bad)
      | _ => .bad)
    | _ => .bad
  | .setk i k v, env => match env[i]? with
    | some (some (.dk .own kvs)) => (evE T v env).out env fun d => (evE T k env).out env fun y => (match keyD y with
      | some kk => if noBrw d && lineOk kvs.length && amK noOwnM kvs then .nx (env.set i (some (.dk .own (putKD kvs kk (Pv.fz d))))) else .bad
      | none => .bad)
    | some (some (.dt .own kvs)) => (evE T v env).out env fun d => (evE T k env).out env fun y => (match y with
      | .tup l => (match keysD l with
        | some kk => if noBrw d && lineOk kvs.length && amT noOwnM kvs then .nx (env.set i (some (.dt .own (putKD kvs kk (Pv.fz d))))) else .bad
        | none => .bad)
      | _ => .bad)
    | _ => .bad
  | .fz i, env => match env[i]? with
    | some (some d) => .nx (env.set i (some (Pv.fz d)))
    | _ => .bad
  | .forE i j src b, env => (evE T src env).out env fun d => match d with
    | .lst _ l => if amL noBrwM l && noBrw d then loopD (evS T b) (fun e x => tgE e [i, j] x) (enumD 0 (mpL fzM l)) env else .bad
    | _ => .bad
  | .setd i k v, env => match env[i]? with
    | some (some (.dk .own kvs)) => (evE T k env).out env fun y => (evE T v env).out env fun d => (match keyD y with
      | some kk => if noBrw d && lineOk kvs.length && amK noOwnM kvs then (match getKD kvs kk with
        | some _ => .nx env
        | none => .nx (env.set i (some (.dk .own (putKD kvs kk (Pv.fz d)))))) else .bad
      | none => .bad)
    | _ => .bad
end Pv
/-! Pv3: what is wished of a value; the operations' rules. -/
namespace Pv
open PySem L2 PySem.Spec
open PyProof.Rows (floordiv_int)

/-- the frame's slots hold the data; fp: their own addresses -/
inductive EnvR (C : Kc) (B H : Hp) : St → Env → List Addr → Prop
  | nil : EnvR C B H [] [] []
  | skip {o : Option V} {σ : St} {env : Env} {fp : List Addr} : EnvR C B H σ env fp → EnvR C B H (o :: σ) (none :: env) fp
  | put {v : V} {d : D} {fq : List Addr} {σ : St} {env : Env} {fp : List Addr} : Rl C B H [] v d fq → EnvR C B H σ env fp → EnvR C B H (some v :: σ) (some d :: env) (fq ++ fp)
theorem EnvR.mono {C : Kc} {B B' H H' : Hp} (hB : Same B B') (hH : Same H H') : ∀ {σ : St} {env : Env} {fp : List Addr}, EnvR C B H σ env fp → EnvR C B' H' σ env fp
  | _, _, _, .nil => .nil
  | _, _, _, .skip h => .skip (EnvR.mono hB hH h)
  | _, _, _, .put r h => .put (r.mono hB hH) (EnvR.mono hB hH h)
theorem EnvR.get {C : Kc} {B H : Hp} : ∀ {σ : St} {env : Env} {fp : List Addr} {i : Nat} {d : D}, EnvR C B H σ env fp → env[i]? = some (some d) → ∃ v fq, σ[i]? = some (some v) ∧ Rl C B H [] v d fq ∧ ∀ a ∈ fq, a ∈ fp
  | _, _, _, i, d, .nil, h => by simp at h
  | _, _, _, 0, d, .skip _, h => by simp at h
  | _, _, _, i + 1, d, .skip r, h => by
    obtain ⟨v, fq, h1, h2, h3⟩ := EnvR.get (i := i) (d := d) r (by simpa using h)
    exact ⟨v, fq, by simpa using h1, h2, h3⟩
  | _, _, _, 0, d, .put r _, h => by
    simp at h
    subst h
    exact ⟨_, _, rfl, r, fun a ha => List.mem_append_left _ ha⟩
  | _, _, _, i + 1, d, .put _ r, h => by
    obtain ⟨v, fq, h1, h2, h3⟩ := EnvR.get (i := i) (d := d) r (by simpa using h)
    exact ⟨v, fq, by simpa using h1, h2, fun a ha => List.mem_append_right _ (h3 a ha)⟩
theorem EnvR.mutb {C : Kc} {B H : Hp} : ∀ {σ : St} {env : Env} {fp : List Addr}, EnvR C B H σ env fp → ∀ a ∈ fp, ∃ o, H a = some o ∧ Mutb o
  | _, _, _, .nil, a, h => nomatch h
  | _, _, _, .skip r, a, h => EnvR.mutb r a h
  | _, _, _, .put x r, a, h => (List.mem_append.mp h).elim (x.mutb a) (EnvR.mutb r a)
theorem EnvR.len {C : Kc} {B H : Hp} : ∀ {σ : St} {env : Env} {fp : List Addr}, EnvR C B H σ env fp → σ.length = env.length
  | _, _, _, .nil => rfl
  | _, _, _, .skip r => by simp [EnvR.len r]
  | _, _, _, .put _ r => by simp [EnvR.len r]
/-! nothing is seen where nothing may be borrowed -/
mutual
theorem Rl.nb {C : Kc} {B H : Hp} : ∀ {v : V} {d : D} {fp : List Addr}, Rl C B H [] v d fp → noBrw d = true
  | _, _, _, .non => rfl
  | _, _, _, .bl _ => rfl
  | _, _, _, .int _ => rfl
  | _, _, _, .str _ => rfl
  | _, _, _, .tup _ l => RlL.nb l
  | _, _, _, .lstK _ l => by simp [noBrw, am, noBrwM]; exact RlL.nb l
  | _, _, _, .lstS _ l => by simp [noBrw, am, noBrwM]; exact RlL.nb l
  | _, _, _, .lstB w _ l => nomatch w
  | _, _, _, .lstO _ l => by simp [noBrw, am, noBrwM]; exact RlL.nb l
  | _, _, _, .dkS _ l => by simp [noBrw, am, noBrwM]; exact RlP.nbK l
  | _, _, _, .dkB w _ l => nomatch w
  | _, _, _, .dkO _ l => by simp [noBrw, am, noBrwM]; exact RlP.nbK l
  | _, _, _, .dtS _ l => by simp [noBrw, am, noBrwM]; exact RlP.nbT l
  | _, _, _, .dtB w _ l => nomatch w
  | _, _, _, .dtO _ l => by simp [noBrw, am, noBrwM]; exact RlP.nbT l
  | _, _, _, .insS _ l => by simp [noBrw, am, noBrwM]; exact RlP.nbF l
  | _, _, _, .insB w _ l => nomatch w
  | _, _, _, .insO _ l => by simp [noBrw, am, noBrwM]; exact RlP.nbF l
  | _, _, _, .insX _ => rfl
theorem RlL.nb {C : Kc} {B H : Hp} : ∀ {v : List V} {d : List D} {fp : List Addr}, RlL C B H [] v d fp → amL noBrwM d = true
  | _, _, _, .nil => rfl
  | _, _, _, .cons h l => by simp only [amL, Bool.and_eq_true]; exact ⟨Rl.nb h, RlL.nb l⟩
theorem RlP.nbK {C : Kc} {B H : Hp} : ∀ {v : List (Key × V)} {d : List (Key × D)} {fp : List Addr}, RlP C B H [] Key v d fp → amK noBrwM d = true
  | _, _, _, .nil => rfl
  | _, _, _, .cons h l => by simp only [amK, Bool.and_eq_true]; exact ⟨Rl.nb h, RlP.nbK l⟩
theorem RlP.nbT {C : Kc} {B H : Hp} : ∀ {v : List (List Key × V)} {d : List (List Key × D)} {fp : List Addr}, RlP C B H [] (List Key) v d fp → amT noBrwM d = true
  | _, _, _, .nil => rfl
  | _, _, _, .cons h l => by simp only [amT, Bool.and_eq_true]; exact ⟨Rl.nb h, RlP.nbT l⟩
theorem RlP.nbF {C : Kc} {B H : Hp} : ∀ {v : List (Str × V)} {d : List (Str × D)} {fp : List Addr}, RlP C B H [] Str v d fp → amF noBrwM d = true
  | _, _, _, .nil => rfl
  | _, _, _, .cons h l => by simp only [amF, Bool.and_eq_true]; exact ⟨Rl.nb h, RlP.nbF l⟩
end

structure OkF (C : Kc) (O : List Addr) (env : Env) (σ : St) (H : Hp) (fp : List Addr) : Prop where
  rel : EnvR C (cut H (fp ++ O)) H σ env fp
  nd : fp.Nodup
  dj : ∀ a ∈ fp, a ∉ O
  od : ∀ a ∈ O, ∃ o, H a = some o ∧ Mutb o
section
variable {C : Kc} {O os os' W W' fp fq : List Addr} {env : Env} {σ : St} {H H' H2 : Hp}
theorem OkF.fd (h : OkF C O env σ H fp) : ∀ a ∈ fp, ∃ o, H a = some o := fun a ha => let ⟨o, e, _⟩ := h.rel.mutb a ha; ⟨o, e⟩
theorem OkF.osm (h : OkF C O env σ H fp) : ∀ a ∈ fp ++ O, ∃ o, H a = some o ∧ Mutb o := fun a ha => (List.mem_append.mp ha).elim (h.rel.mutb a) (h.od a)
theorem OkF.osd (h : OkF C O env σ H fp) : ∀ a ∈ fp ++ O, ∃ o, H a = some o := fun a ha => let ⟨o, e, _⟩ := h.osm a ha; ⟨o, e⟩
theorem OkF.grow (h : OkF C O env σ H fp) (e : Same H H') : OkF C O env σ H' fp :=
  ⟨h.rel.mono (cut_mono e) e, h.nd, h.dj, fun a ha => let ⟨o, q, m⟩ := h.od a ha; ⟨o, e a o q, m⟩⟩
theorem OkF.wide (h : OkF C O env σ H fp) (e : Same H H') (hf : ∀ a ∈ fq, H a = none) (hd : ∀ a ∈ fq, ∃ o, H' a = some o ∧ Mutb o) : OkF C (fq ++ O) env σ H' fp where
  rel := h.rel.mono (fun a o q => by
    obtain ⟨q1, q2⟩ := cut_some q
    rw [cut_out]
    · exact e a o q1
    · intro z
      rcases List.mem_append.mp z with z | z
      · exact q2 (List.mem_append_left _ z)
      · rcases List.mem_append.mp z with z | z
        · rw [hf a z] at q1; cases q1
        · exact q2 (List.mem_append_right _ z)) e
  nd := h.nd
  dj := fun a ha z => by
    rcases List.mem_append.mp z with z | z
    · obtain ⟨o, q⟩ := h.fd a ha
      rw [hf a z] at q; cases q
    · exact h.dj a ha z
  od := fun a ha => by
    rcases List.mem_append.mp ha with z | z
    · exact hd a z
    · obtain ⟨o, q, m⟩ := h.od a z
      exact ⟨o, e a o q, m⟩
end

/-- an exception's data -/
def RlX (C : Kc) (B : Hp) (cls : Value) (dx : Option Addr) (x : Xc) : Prop :=
  cls = .ref (C.cl x.c) ∧ ((x.fs = [] ∧ dx = none) ∨ ∃ a vs, x.fs ≠ [] ∧ dx = some a ∧ B a = some (.xd vs) ∧ RlP C B (fun _ => none) [] Str vs x.fs [])
theorem RlX.mono {C : Kc} {B B' : Hp} {cls : Value} {dx : Option Addr} {x : Xc} (e : Same B B') (h : RlX C B cls dx x) : RlX C B' cls dx x := by
  obtain ⟨h1, h2⟩ := h
  refine ⟨h1, h2.imp id fun ⟨a, vs, q0, q1, q2, q3⟩ => ⟨a, vs, q0, q1, e _ _ q2, q3.mono e fun _ _ z => z⟩⟩

/-- a value that comes: of data d, its own addresses new -/
def VR (C : Kc) (os W : List Addr) (H : Hp) (d : D) (Q : VK) : Prop := ∀ v H' fq, Same H H' → Rl C (cut H' (fq ++ os)) H' W v d fq → fq.Nodup → (∀ a ∈ fq, H a = none) → Q v H'
def VRL (C : Kc) (os W : List Addr) (H : Hp) (d : List D) (Q : List V → Hp → Prop) : Prop := ∀ v H' fq, Same H H' → RlL C (cut H' (fq ++ os)) H' W v d fq → fq.Nodup → (∀ a ∈ fq, H a = none) → Q v H'
def XR (C : Kc) (os : List Addr) (H : Hp) (x : Xc) (Wx : WX) (σ : St) : Prop := ∀ cls dx H', Same H H' → RlX C (cut H' os) cls dx x → Wx cls dx σ H'
def WG (C : Kc) (os : List Addr) (Wx : WX) (σ : St) (H : Hp) {α : Type} (r : Res α) (P : α → Prop) : Prop := match r with
  | .ok a => P a
  | .exc x => XR C os H x Wx σ
  | .bad => False
section
variable {C : Kc} {os os' W : List Addr} {H H' : Hp} {d : D} {Q : VK} {Wx : WX} {σ : St}
theorem fresh_b (e : Same H H') {a : Addr} (h : H' a = none) : H a = none := Same.free e h
theorem VR.weak (h : VR C os W H d Q) (e : Same H H') (ho : ∀ a ∈ os, a ∈ os') : VR C os' W H' d Q := fun v H2 fq e2 r nd hf =>
  h v H2 fq (e.trans e2) (r.mono (cut_sub fun a ha => (List.mem_append.mp ha).elim (List.mem_append_left _) fun z => List.mem_append_right _ (ho a z)) fun _ _ q => q) nd fun a ha => fresh_b e (hf a ha)
theorem XR.weak {x : Xc} (h : XR C os H x Wx σ) (e : Same H H') (ho : ∀ a ∈ os, a ∈ os') : XR C os' H' x Wx σ := fun cls dx H2 e2 r => h cls dx H2 (e.trans e2) (r.mono (cut_sub ho))
theorem WG.bind {α β : Type} {r : Res α} {f : α → Res β} {P : β → Prop} {P' : α → Prop} (h : WG C os Wx σ H (r >>= f) P) (e : Same H H') (ho : ∀ a ∈ os, a ∈ os') (k : ∀ a, r = .ok a → WG C os Wx σ H (f a) P → P' a) : WG C os' Wx σ H' r P' := by
  cases r with
  | ok a => exact k a rfl h
  | exc x => exact XR.weak h e ho
  | bad => exact h
theorem WG.ret {α β : Type} {r : Res α} {g : α → β} {P : β → Prop} {P' : α → Prop} (h : WG C os Wx σ H (do return g (← r)) P) (e : Same H H') (ho : ∀ a ∈ os, a ∈ os') (k : ∀ a, r = .ok a → P (g a) → P' a) : WG C os' Wx σ H' r P' := h.bind e ho fun a ha q => k a ha q
theorem WG.ok {α : Type} {r : Res α} {P : α → Prop} (h : WG C os Wx σ H r P) (ne : ∀ x, r ≠ .exc x) : ∃ a, r = .ok a ∧ P a := by
  cases r with
  | ok a => exact ⟨a, rfl, h⟩
  | exc x => exact absurd rfl (ne x)
  | bad => exact h.elim
/-- what is cut less, in a greater heap -/
theorem cutS {os1 os2 : List Addr} (e : Same H H') (h : ∀ a ∈ os2, a ∈ os1 ∨ H a = none) : Same (cut H os1) (cut H' os2) := fun a o q => by
  obtain ⟨q1, q2⟩ := cut_some q
  rw [cut_out]
  · exact e a o q1
  · intro z
    rcases h a z with z | z
    · exact q2 z
    · rw [z] at q1; cases q1
theorem VR.sc (h : VR C os W H d Q) {v : V} (r : ∀ B, Rl C B H W v d []) : Q v H := h v H [] (fun _ _ q => q) (r _) List.nodup_nil (fun _ z => nomatch z)
theorem VR.int {i : Int} (h : VR C os W H (.int i) Q) : Q (.int i) H := h.sc fun _ => .int i
theorem VR.bl {i : Bool} (h : VR C os W H (.bl i) Q) : Q (.bl i) H := h.sc fun _ => .bl i
theorem VR.str {i : Str} (h : VR C os W H (.str i) Q) : Q (.str i) H := h.sc fun _ => .str i
theorem VR.non (h : VR C os W H .non Q) : Q .non H := h.sc fun _ => .non
end

/-! ### inversions -/
section
variable {C : Kc} {B H : Hp} {W : List Addr} {v : V} {vs : List V} {f : List Addr}
theorem Rl.int_inv {i : Int} (h : Rl C B H W v (.int i) f) : v = .int i ∧ f = [] := by cases h; exact ⟨rfl, rfl⟩
theorem Rl.bl_inv {i : Bool} (h : Rl C B H W v (.bl i) f) : v = .bl i ∧ f = [] := by cases h; exact ⟨rfl, rfl⟩
theorem Rl.str_inv {i : Str} (h : Rl C B H W v (.str i) f) : v = .str i ∧ f = [] := by cases h; exact ⟨rfl, rfl⟩
theorem Rl.non_inv (h : Rl C B H W v .non f) : v = .non ∧ f = [] := by cases h; exact ⟨rfl, rfl⟩
theorem RlL.len : ∀ {vs : List V} {ds : List D} {f : List Addr}, RlL C B H W vs ds f → vs.length = ds.length
  | _, _, _, .nil => rfl
  | _, _, _, .cons _ l => by simp [RlL.len l]
theorem RlL.get : ∀ {vs : List V} {ds : List D} {f : List Addr} {j : Nat} {d : D}, RlL C B H W vs ds f → ds[j]? = some d → ∃ v g, vs[j]? = some v ∧ Rl C B H W v d g ∧ ∀ a ∈ g, a ∈ f
  | _, _, _, j, d, .nil, h => by simp at h
  | _, _, _, 0, d, .cons r _, h => by
    simp at h
    subst h
    exact ⟨_, _, rfl, r, fun a ha => List.mem_append_left _ ha⟩
  | _, _, _, j + 1, d, .cons _ l, h => by
    obtain ⟨v, g, h1, h2, h3⟩ := RlL.get (j := j) (d := d) l (by simpa using h)
    exact ⟨v, g, by simpa using h1, h2, fun a ha => List.mem_append_right _ (h3 a ha)⟩
theorem RlL.app : ∀ {vs ws : List V} {ds es : List D} {f g : List Addr}, RlL C B H W vs ds f → RlL C B H W ws es g → RlL C B H W (vs ++ ws) (ds ++ es) (f ++ g)
  | _, _, _, _, _, _, .nil, h => h
  | _, _, _, _, _, _, .cons (fp := fp) (fq := fq) r l, h => by
    rw [List.append_assoc]
    exact .cons r (RlL.app l h)
theorem RlL.take0 : ∀ (n : Nat) {vs : List V} {ds : List D}, RlL C B H W vs ds [] → RlL C B H W (vs.take n) (ds.take n) []
  | 0, _, _, _ => .nil
  | n + 1, [], [], _ => .nil
  | n + 1, v :: vs, d :: ds, h => by
    generalize hf : ([] : List Addr) = f at h
    cases h with
    | cons r l =>
      obtain ⟨e1, e2⟩ := List.append_eq_nil_iff.mp hf.symm
      subst e1 e2
      exact .cons (fp := []) (fq := []) r (RlL.take0 n l)
theorem RlL.drop0 : ∀ (n : Nat) {vs : List V} {ds : List D}, RlL C B H W vs ds [] → RlL C B H W (vs.drop n) (ds.drop n) []
  | 0, _, _, h => h
  | n + 1, [], [], h => .nil
  | n + 1, v :: vs, d :: ds, h => by
    generalize hf : ([] : List Addr) = f at h
    cases h with
    | cons r l =>
      obtain ⟨e1, e2⟩ := List.append_eq_nil_iff.mp hf.symm
      subst e1 e2
      exact RlL.drop0 n l
end
section
variable {C : Kc} {H : Hp} {os W : List Addr} {v : V} {f : List Addr}
theorem sqT_cut {K : Frag} {a : Addr} {xs : List V} (h : SqT K (cut H os) a xs) : SqT K H a xs := Same.sqT (same_cut H os) h
theorem sqL_cut {K : Frag} {a : Addr} {xs : List V} (h : SqL K (cut H os) a xs) : SqL K H a xs := Same.sqL (same_cut H os) h
theorem Rl.tup_inv {ds : List D} (h : Rl C (cut H os) H W v (.tup ds) f) : ∃ a vs, v = .ref a ∧ SqT C.K H a vs ∧ SqT C.K (cut H os) a vs ∧ RlL C (cut H os) H W vs ds f := by
  cases h with
  | tup t l => exact ⟨_, _, rfl, SqT.of (cut_some t).1, SqT.of t, l⟩
theorem Rl.tup_inv2 {ds : List D} (h : Rl C (cut H os) H W v (.tup ds) f) : ∃ a vs, v = .ref a ∧ H a = some (.tup vs) ∧ cut H os a = some (.tup vs) ∧ RlL C (cut H os) H W vs ds f := by
  cases h with
  | tup t l => exact ⟨_, _, rfl, (cut_some t).1, t, l⟩
theorem Rl.lst_inv {m : Md} {ds : List D} (h : Rl C (cut H os) H W v (.lst m ds) f) : ∃ a vs g, v = .ref a ∧ SqL C.K H a vs ∧ (notKon m = true → H a = some (.lst vs)) ∧ RlL C (cut H os) H W vs ds g ∧ ∀ b ∈ g, b ∈ f := by
  cases h with
  | lstK t l => exact ⟨_, _, _, rfl, sqL_cut t, (fun z => nomatch z), l, fun _ z => z⟩
  | lstS t l => exact ⟨_, _, _, rfl, SqL.of (cut_some t).1, fun _ => (cut_some t).1, l, fun _ z => z⟩
  | lstB w t l => exact ⟨_, _, _, rfl, SqL.of t, fun _ => t, l, fun _ z => z⟩
  | lstO t l => exact ⟨_, _, _, rfl, SqL.of t, fun _ => t, l, fun _ z => List.mem_cons_of_mem _ z⟩
end
/-! ### making new things -/
section
variable {C : Kc} {H H' : Hp} {os os' W : List Addr} {Q : VK}
/-- the frozen items of what was met, under a new heap that shows them -/
theorem RlL.froze {vs : List V} {ds : List D} {g fq : List Addr} (l : RlL C (cut H os) H W vs ds g) (e : Same H H') (hs : ∀ a ∈ os', a ∈ os) (hg : ∀ a ∈ g, a ∉ os') (hq : ∀ a ∈ fq, H a = none) : RlL C (cut H' (fq ++ os')) H' W vs (mpL fzM ds) [] := by
  refine l.fz (fun a o q => ?_) e fun a ha o q => ?_
  · obtain ⟨q1, q2⟩ := cut_some q
    rw [cut_out]
    · exact e a o q1
    · intro z
      rcases List.mem_append.mp z with z | z
      · rw [hq a z] at q1; cases q1
      · exact q2 (hs a z)
  · rw [cut_out]
    · exact e a o q
    · intro z
      rcases List.mem_append.mp z with z | z
      · rw [hq a z] at q; cases q
      · exact hg a ha z
theorem Rl.froze {v : V} {d : D} {g fq : List Addr} (l : Rl C (cut H os) H W v d g) (e : Same H H') (hs : ∀ a ∈ os', a ∈ os) (hg : ∀ a ∈ g, a ∉ os') (hq : ∀ a ∈ fq, H a = none) : Rl C (cut H' (fq ++ os')) H' W v (Pv.fz d) [] := by
  refine l.fz (fun a o q => ?_) e fun a ha o q => ?_
  · obtain ⟨q1, q2⟩ := cut_some q
    rw [cut_out]
    · exact e a o q1
    · intro z
      rcases List.mem_append.mp z with z | z
      · rw [hq a z] at q1; cases q1
      · exact q2 (hs a z)
  · rw [cut_out]
    · exact e a o q
    · intro z
      rcases List.mem_append.mp z with z | z
      · rw [hq a z] at q; cases q
      · exact hg a ha z
theorem same_new {p : Addr} {o : HO} (h : H p = none) : Same H (upd H p o) := fun b u e => by
  rw [upd_ne (ne_of_none e h)]
  exact e
/-- a new list of frozen items -/
theorem VR.newL {p : Addr} {vs : List V} {ds : List D} {g : List Addr} (h : VR C os' W H (.lst .own (mpL fzM ds)) Q) (l : RlL C (cut H os) H W vs ds g) (hs : ∀ a ∈ os', a ∈ os) (hg : ∀ a ∈ g, a ∉ os') (hp : H p = none) : Q (.ref p) (upd H p (.lst vs)) :=
  h (.ref p) _ [p] (same_new hp) (.lstO (fp := []) upd_same (l.froze (same_new hp) hs hg fun a ha => by simp at ha; subst ha; exact hp)) (by simp) fun a ha => by simp at ha; subst ha; exact hp
theorem VR.newL' {p : Addr} {vs : List V} {ds : List D} (h : VR C os' W H (.lst .own ds) Q) (hp : H p = none) (l : RlL C (cut (upd H p (.lst vs)) ([p] ++ os')) (upd H p (.lst vs)) W vs ds []) : Q (.ref p) (upd H p (.lst vs)) :=
  h (.ref p) _ [p] (same_new hp) (.lstO (fp := []) upd_same l) (by simp) fun a ha => by simp at ha; subst ha; exact hp
theorem VR.newT {p : Addr} {vs : List V} {ds : List D} {g : List Addr} (h : VR C os' W H (.tup (mpL fzM ds)) Q) (l : RlL C (cut H os) H W vs ds g) (hs : ∀ a ∈ os', a ∈ os) (hg : ∀ a ∈ g, a ∉ os') (hp : H p = none) (ho : p ∉ os') : Q (.ref p) (upd H p (.tup vs)) := by
  refine h (.ref p) _ [] (same_new hp) (.tup (fp := []) ?_ (l.froze (fq := []) (same_new hp) hs hg fun a ha => nomatch ha)) List.nodup_nil fun a ha => nomatch ha
  show cut _ os' p = _
  rw [cut_out ho]
  exact upd_same
end
theorem line_le {n : Nat} (h : lineOk n = true) : n ≤ sizeLine := Nat.le_of_lt (of_decide_eq_true h)
theorem line_lt {n : Nat} (h : lineOk n = true) : n < sizeLine := of_decide_eq_true h

/-! ### the operations -/
def rB (C : Kc) (o : Operator) : R2 := fun x y H Q => ∃ os os' W d1 d2 f1 f2 d, Rl C (cut H os) H W x d1 f1 ∧ Rl C (cut H os) H W y d2 f2 ∧ (∀ a ∈ os', a ∈ os) ∧ (∀ a ∈ f1 ++ f2, a ∉ os') ∧ binD o d1 d2 = .ok d ∧ VR C os' W H d Q
theorem op_fdivW2 {X : Cx} : OpR X (binaryOp .FloorDiv) (rI (fun _ j => divOk j = true) fun i j => .int (i.fdiv j)) := opI fun i j _ _ _ _ _ hc q => by
  unfold divOk at hc
  simp only [Bool.and_eq_true, decide_eq_true_eq] at hc
  exact floordiv_int hc.1 q (.inl (PyProof.noPylong_of_log2 hc.2))
theorem op_bin {X : Cx} {C : Kc} {o : Operator} (ho : o = .Add ∨ o = .Sub ∨ o = .Mult ∨ o = .FloorDiv ∨ o = .Mod ∨ o = .Pow) : OpR X (binaryOp o) (rB C o) := by
  intro pins s σ H x y v u Q I rx ry h
  obtain ⟨os, os', W, d1, d2, f1, f2, d, r1, r2, hs, hf, hd, q⟩ := h
  rcases ho with rfl | rfl | rfl | rfl | rfl | rfl
  · change addD d1 d2 = .ok d at hd
    unfold addD at hd
    split at hd
    · obtain ⟨rfl, _⟩ := r1.int_inv
      obtain ⟨rfl, _⟩ := r2.int_inv
      cases hd
      exact op_add pins s σ H _ _ v u Q I rx ry ⟨_, _, rfl, rfl, q.int⟩
    · obtain ⟨rfl, _⟩ := r1.str_inv
      obtain ⟨rfl, _⟩ := r2.str_inv
      split at hd
      · rename_i hl
        cases hd
        exact op_add_str pins s σ H _ _ v u Q I rx ry ⟨_, _, rfl, rfl, line_le hl, q.str⟩
      · cases hd
    · obtain ⟨a, vs, g1, rfl, _, ha, l1, s1⟩ := r1.lst_inv
      obtain ⟨b, ws, g2, rfl, _, hb, l2, s2⟩ := r2.lst_inv
      split at hd
      · rename_i hl
        simp only [Bool.and_eq_true] at hl
        obtain ⟨⟨m1, m2⟩, hl⟩ := hl
        cases hd
        refine op_cat pins s σ H _ _ v u Q I rx ry ⟨a, b, vs, ws, rfl, rfl, ha m1, hb m2, ?_, fun p hp => ?_⟩
        · rw [l1.len, l2.len]; exact line_le hl
        · refine VR.newL (g := g1 ++ g2) (os := os) (ds := _ ++ _) (by rw [mpL_eq, List.map_append, ← mpL_eq, ← mpL_eq]; exact q) (l1.app l2) hs (fun c hc => hf c ?_) hp
          exact (List.mem_append.mp hc).elim (fun z => List.mem_append_left _ (s1 c z)) fun z => List.mem_append_right _ (s2 c z)
      · cases hd
    · cases hd
  · change subD d1 d2 = .ok d at hd
    unfold subD at hd
    split at hd
    · obtain ⟨rfl, _⟩ := r1.int_inv
      obtain ⟨rfl, _⟩ := r2.int_inv
      cases hd
      exact op_sub pins s σ H _ _ v u Q I rx ry ⟨_, _, rfl, rfl, q.int⟩
    · cases hd
  · change mulD d1 d2 = .ok d at hd
    unfold mulD at hd
    split at hd
    · obtain ⟨rfl, _⟩ := r1.int_inv
      obtain ⟨rfl, _⟩ := r2.int_inv
      split at hd
      · rename_i hl
        cases hd
        exact op_mulX pins s σ H _ _ v u Q I rx ry ⟨_, _, rfl, rfl, (by unfold mulOk at hl; show _ ≤ _; exact of_decide_eq_true hl), q.int⟩
      · cases hd
    · cases hd
  · change fdivD d1 d2 = .ok d at hd
    unfold fdivD at hd
    split at hd
    · obtain ⟨rfl, _⟩ := r1.int_inv
      obtain ⟨rfl, _⟩ := r2.int_inv
      split at hd
      · rename_i hl
        cases hd
        exact op_fdivW2 pins s σ H _ _ v u Q I rx ry ⟨_, _, rfl, rfl, hl, q.int⟩
      · cases hd
    · cases hd
  · change modD d1 d2 = .ok d at hd
    unfold modD at hd
    split at hd
    · obtain ⟨rfl, _⟩ := r1.int_inv
      obtain ⟨rfl, _⟩ := r2.int_inv
      split at hd
      · rename_i hl
        cases hd
        exact op_modN pins s σ H _ _ v u Q I rx ry ⟨_, _, rfl, rfl, of_decide_eq_true hl, q.int⟩
      · cases hd
    · cases hd
  · change powD d1 d2 = .ok d at hd
    unfold powD at hd
    split at hd
    · obtain ⟨rfl, _⟩ := r1.int_inv
      obtain ⟨rfl, _⟩ := r2.int_inv
      split at hd
      · rename_i hl
        cases hd
        unfold powOk at hl
        simp only [Bool.and_eq_true, decide_eq_true_eq] at hl
        exact op_pow pins s σ H _ _ v u Q I rx ry ⟨_, _, rfl, rfl, ⟨hl.1.1, hl.1.2, hl.2⟩, q.int⟩
      · cases hd
    · cases hd
/-! dicts -/
theorem RlP.len {C : Kc} {B H : Hp} {W : List Addr} {κ : Type} : ∀ {v : List (κ × V)} {d : List (κ × D)} {fp : List Addr}, RlP C B H W κ v d fp → v.length = d.length
  | _, _, _, .nil => rfl
  | _, _, _, .cons _ l => congrArg Nat.succ (RlP.len l)
theorem RlP.find {C : Kc} {B H : Hp} {W : List Addr} {κ : Type} [DecidableEq κ] (k : κ) : ∀ {v : List (κ × V)} {d : List (κ × D)} {fp : List Addr}, RlP C B H W κ v d fp → (getKD d k = none ∧ valV v k = none) ∨ ∃ x u g, getKD d k = some x ∧ valV v k = some u ∧ Rl C B H W u x g ∧ ∀ a ∈ g, a ∈ fp
  | _, _, _, .nil => .inl ⟨rfl, rfl⟩
  | _, _, _, .cons (k := j) (d := x) (v := u) (fp := f1) (fq := f2) (vs := vs) (ds := ds) h l => by
    by_cases e : j = k
    · refine .inr ⟨x, u, f1, ?_, valV_pos (p := (j, u)) e, h, fun a ha => List.mem_append_left _ ha⟩
      simp [getKD, List.find?_cons, e]
    · rw [valV_neg (p := (j, u)) e]
      have e2 : getKD ((j, x) :: ds) k = getKD ds k := by simp [getKD, List.find?_cons, e]
      rw [e2]
      exact (RlP.find k l).imp (fun z => z) fun ⟨x, u, g, q1, q2, q3, q4⟩ => ⟨x, u, g, q1, q2, q3, fun a ha => List.mem_append_right _ (q4 a ha)⟩
theorem keyD_ok {d : D} {k : Key} (h : keyD d = some k) {C : Kc} {B H : Hp} {W : List Addr} {v : V} {f : List Addr} (r : Rl C B H W v d f) : v = kV k := by
  unfold keyD at h
  split at h
  · cases h
    obtain ⟨rfl, _⟩ := r.int_inv
    rfl
  · cases h
    obtain ⟨rfl, _⟩ := r.str_inv
    rfl
  · cases h
theorem keysD_ok {C : Kc} {B H : Hp} {W : List Addr} : ∀ {l : List D} {ks : List Key} {vs : List V} {f : List Addr}, keysD l = some ks → RlL C B H W vs l f → vs = ks.map kV
  | [], ks, vs, f, h, r => by
    cases h
    cases r
    rfl
  | d :: l, ks, vs, f, h, r => by
    unfold keysD at h
    cases e : keyD d with
    | none => rw [e] at h; cases h
    | some k =>
      rw [e] at h
      cases e2 : keysD l with
      | none => rw [e2] at h; cases h
      | some zs =>
        rw [e2] at h
        cases h
        cases r with
        | cons r1 rr =>
          rw [keyD_ok e r1, keysD_ok e2 rr]
          rfl
theorem Rl.dk_inv {C : Kc} {H : Hp} {os W : List Addr} {m : Md} {ds : List (Key × D)} {v : V} {f : List Addr} (h : Rl C (cut H os) H W v (.dk m ds) f) : ∃ a vs g, v = .ref a ∧ H a = some (.dK vs) ∧ RlP C (cut H os) H W Key vs ds g ∧ ∀ b ∈ g, b ∈ f := by
  cases h with
  | dkS t l => exact ⟨_, _, _, rfl, (cut_some t).1, l, fun _ z => z⟩
  | dkB w t l => exact ⟨_, _, _, rfl, t, l, fun _ z => z⟩
  | dkO t l => exact ⟨_, _, _, rfl, t, l, fun _ z => List.mem_cons_of_mem _ z⟩
theorem Rl.dt_inv {C : Kc} {H : Hp} {os W : List Addr} {m : Md} {ds : List (List Key × D)} {v : V} {f : List Addr} (h : Rl C (cut H os) H W v (.dt m ds) f) : ∃ a vs g, v = .ref a ∧ H a = some (.dT vs) ∧ RlP C (cut H os) H W (List Key) vs ds g ∧ ∀ b ∈ g, b ∈ f := by
  cases h with
  | dtS t l => exact ⟨_, _, _, rfl, (cut_some t).1, l, fun _ z => z⟩
  | dtB w t l => exact ⟨_, _, _, rfl, t, l, fun _ z => z⟩
  | dtO t l => exact ⟨_, _, _, rfl, t, l, fun _ z => List.mem_cons_of_mem _ z⟩
/-- what a dict holds at a key: two heaps, for the key may be made behind the dict -/
theorem Rl.dget {C : Kc} {H H2 : Hp} {os os2 W W2 : List Addr} {x y : V} {dx dy : D} {f1 f2 : List Addr} {o : Option D} (r1 : Rl C (cut H os) H W x dx f1) (r2 : Rl C (cut H2 os2) H2 W2 y dy f2) (e : Same H H2) (h : dgetO dx dy = some o) :
    ∃ a ov, x = .ref a ∧ DGet H2 a y ov ∧ ((o = none ∧ ov = none) ∨ ∃ d u g, o = some d ∧ ov = some u ∧ Rl C (cut H os) H W u d g ∧ ∀ b ∈ g, b ∈ f1) := by
  unfold dgetO at h
  split at h
  · rename_i m kvs
    cases hk : keyD dy with
    | none => rw [hk] at h; cases h
    | some k =>
      rw [hk] at h
      cases h
      obtain ⟨a, vs, g, rfl, h1, l, hs⟩ := r1.dk_inv
      have ey := keyD_ok hk r2
      subst ey
      refine ⟨a, valV vs k, rfl, DGet.k (e _ _ h1), ?_⟩
      rcases l.find k with ⟨z1, z2⟩ | ⟨d, u, g', z1, z2, z3, z4⟩
      · exact .inl ⟨z1, z2⟩
      · exact .inr ⟨d, u, g', z1, z2, z3, fun b hb => hs b (z4 b hb)⟩
  · rename_i m kvs l0
    cases hk : keysD l0 with
    | none => rw [hk] at h; cases h
    | some k =>
      rw [hk] at h
      cases h
      obtain ⟨a, vs, g, rfl, h1, l, hs⟩ := r1.dt_inv
      obtain ⟨b, ws, rfl, hb, _, lw⟩ := r2.tup_inv2
      have ew := keysD_ok hk lw
      subst ew
      refine ⟨a, valV vs k, rfl, DGet.t (e _ _ h1) hb, ?_⟩
      rcases l.find k with ⟨z1, z2⟩ | ⟨d, u, g', z1, z2, z3, z4⟩
      · exact .inl ⟨z1, z2⟩
      · exact .inr ⟨d, u, g', z1, z2, z3, fun b hb => hs b (z4 b hb)⟩
  · cases h
theorem Rl.flatEq {C : Kc} {B H : Hp} {W : List Addr} {v w : V} {d e : D} {f g : List Addr} (r : Rl C B H W v d f) (s : Rl C B H W w e g) (h : flatEq d e = true) : v = w ∧ flatB v = true := by
  unfold Pv.flatEq at h
  split at h
  · obtain ⟨rfl, _⟩ := r.non_inv
    obtain ⟨rfl, _⟩ := s.non_inv
    exact ⟨rfl, rfl⟩
  · obtain ⟨rfl, _⟩ := r.bl_inv
    obtain ⟨rfl, _⟩ := s.bl_inv
    exact ⟨by rw [of_decide_eq_true h], rfl⟩
  · obtain ⟨rfl, _⟩ := r.int_inv
    obtain ⟨rfl, _⟩ := s.int_inv
    exact ⟨by rw [of_decide_eq_true h], rfl⟩
  · obtain ⟨rfl, _⟩ := r.str_inv
    obtain ⟨rfl, _⟩ := s.str_inv
    exact ⟨by rw [of_decide_eq_true h], rfl⟩
  · cases h
theorem RlP.dkEq {C : Kc} {B H : Hp} {W : List Addr} : ∀ {v w : List (Key × V)} {d e : List (Key × D)} {f g : List Addr}, RlP C B H W Key v d f → RlP C B H W Key w e g → dkEq d e = true → v = w ∧ (∀ p ∈ v, flatB p.2 = true) ∧ v.map (·.1) = d.map (·.1)
  | _, _, _, _, _, _, .nil, .nil, _ => ⟨rfl, fun _ z => (List.not_mem_nil z).elim, rfl⟩
  | _, _, _, _, _, _, .nil, .cons _ _, h => by cases h
  | _, _, _, _, _, _, .cons _ _, .nil, h => by cases h
  | _, _, _, _, _, _, .cons r l, .cons s m, h => by
    unfold Pv.dkEq at h
    simp only [Bool.and_eq_true, decide_eq_true_eq] at h
    obtain ⟨⟨rfl, h2⟩, h3⟩ := h
    obtain ⟨rfl, q2⟩ := r.flatEq s h2
    obtain ⟨rfl, q3, q4⟩ := RlP.dkEq l m h3
    exact ⟨rfl, List.forall_mem_cons.mpr ⟨q2, q3⟩, by rw [List.map_cons, List.map_cons, q4]⟩
/-! comparisons -/
mutual
theorem Rl.dp {C : Kc} {H : Hp} {os W : List Addr} : ∀ {v : V} {d : D} {f : List Addr}, Rl C (cut H os) H W v d f → (py d).canLay0 = true → (∀ m l, d ≠ .dk m l) → Dp C.K H v (py d)
  | _, _, _, .non, _, _ => .non
  | _, _, _, .bl _, _, _ => .bl _
  | _, _, _, .int _, _, _ => .int _
  | _, _, _, .str _, _, _ => .str _
  | _, _, _, .tup t l, n, _ => .tup (SqT.of (cut_some t).1) (RlL.dp l (by simpa [py, PyData.canLay0] using n))
  | _, _, _, .lstK t l, n, _ => .lst (sqL_cut t) (RlL.dp l (by simpa [py, PyData.canLay0] using n))
  | _, _, _, .lstS t l, n, _ => .lst (SqL.of (cut_some t).1) (RlL.dp l (by simpa [py, PyData.canLay0] using n))
  | _, _, _, .lstB w t l, n, _ => .lst (SqL.of t) (RlL.dp l (by simpa [py, PyData.canLay0] using n))
  | _, _, _, .lstO t l, n, _ => .lst (SqL.of t) (RlL.dp l (by simpa [py, PyData.canLay0] using n))
  | _, _, _, .dkS t l, n, _ => by simp [py, PyData.canLay0] at n
  | _, _, _, .dkB w t l, n, _ => by simp [py, PyData.canLay0] at n
  | _, _, _, .dkO t l, n, _ => by simp [py, PyData.canLay0] at n
  | _, _, _, .dtS t l, n, _ => by simp [py, PyData.canLay0] at n
  | _, _, _, .dtB w t l, n, _ => by simp [py, PyData.canLay0] at n
  | _, _, _, .dtO t l, n, _ => by simp [py, PyData.canLay0] at n
  | _, _, _, .insS t l, n, _ => by simp [py, PyData.canLay0] at n
  | _, _, _, .insB w t l, n, _ => by simp [py, PyData.canLay0] at n
  | _, _, _, .insO t l, n, _ => by simp [py, PyData.canLay0] at n
  | _, _, _, .insX _, n, _ => by simp [py, PyData.canLay0] at n
theorem RlL.dp {C : Kc} {H : Hp} {os W : List Addr} : ∀ {v : List V} {d : List D} {f : List Addr}, RlL C (cut H os) H W v d f → PyData.canLayAll0 (pyL d) = true → DpAll C.K H v (pyL d)
  | _, _, _, .nil, _ => .nil
  | _, _, _, .cons h l, n => by
    simp only [pyL, PyData.canLayAll0, Bool.and_eq_true] at n
    exact .cons (Rl.dp h n.1 (fun m l e => by rw [e] at n; simp [py, PyData.canLay0] at n)) (RlL.dp l n.2)
end
theorem Rl.dpP {C : Kc} {H : Hp} {os W : List Addr} {v : V} {d : D} {f : List Addr} (r : Rl C (cut H os) H W v d f) (h : plain d = true) : Dp C.K H v (py d) := by
  have n := SeqAt.canLay_of_shaped h
  exact r.dp n fun m l e => by rw [e] at n; simp [py, PyData.canLay0] at n
def rC (C : Kc) (o : CmpOp) : R2 := fun x y H Q => ∃ os W d1 d2 f1 f2 b, Rl C (cut H os) H W x d1 f1 ∧ Rl C (cut H os) H W y d2 f2 ∧ cmpD o d1 d2 = .ok b ∧ Q (.bl b) H
theorem eqD_ok {a b : D} {k : Bool} (h : eqD a b = .ok k) : (deqD a b = .ok k) ∨ (plain a = true ∧ plain b = true ∧ k = deq a b) := by
  unfold eqD at h
  split at h
  · exact .inl h
  right
  split at h
  · rename_i hp
    simp only [Bool.and_eq_true] at hp
    cases h
    exact ⟨hp.1, hp.2, rfl⟩
  · cases h
theorem cmpI_ok {p : Int → Int → Bool} {a b : D} {k : Bool} (h : cmpI p a b = .ok k) : ∃ i j, a = .int i ∧ b = .int j ∧ k = p i j := by
  unfold cmpI at h
  split at h
  · cases h
    exact ⟨_, _, rfl, rfl, rfl⟩
  · cases h
theorem isD_ok {a b : D} {k : Bool} (h : isD a b = .ok k) : b = .non ∧ k = isNon a := by
  unfold isD at h
  split at h
  · cases h
    exact ⟨rfl, rfl⟩
  · cases h
theorem Rl.isN {C : Kc} {B H : Hp} {W : List Addr} {v : V} {d : D} {f : List Addr} (h : Rl C B H W v d f) : isNon d = decide (v = .non) := by
  cases h <;> rfl
theorem Rl.flat {C : Kc} {B H : Hp} {W : List Addr} {v : V} {d : D} {f : List Addr} (r : Rl C B H W v d f) (h : flatD d = true) : flatV v = true := by
  cases r <;> first | rfl | (cases h; done)
theorem Rl.eqv {C : Kc} {B H : Hp} {W : List Addr} {v w : V} {d e : D} {f g : List Addr} (r : Rl C B H W v d f) (s : Rl C B H W w e g) (h : flatD d = true) (k : flatD e = true) : eqV v w = deq d e := by
  cases r <;> first | (cases h; done) | skip
  all_goals cases s <;> first | rfl | (cases k; done)
theorem RlL.flats {C : Kc} {B H : Hp} {W : List Addr} {v : V} {d : D} {f : List Addr} (r : Rl C B H W v d f) (h : flatD d = true) : ∀ {vs : List V} {ds : List D} {g : List Addr}, RlL C B H W vs ds g → ds.all flatD = true → vs.all flatV = true ∧ inV v vs = ds.any fun z => deq z d
  | _, _, _, .nil, _ => ⟨rfl, rfl⟩
  | _, _, _, .cons (v := v1) (d := d1) (vs := vs) (ds := ds) r1 l, k => by
    simp only [List.all_cons, Bool.and_eq_true] at k
    obtain ⟨h1, h2⟩ := RlL.flats r h l k.2
    refine ⟨by simp only [List.all_cons, Bool.and_eq_true]; exact ⟨r1.flat k.1, h1⟩, ?_⟩
    show (eqV v1 v || vs.any fun y => eqV y v) = (deq d1 d || ds.any fun z => deq z d)
    rw [r1.eqv r k.1 h]
    exact congrArg _ h2
theorem pyL_any (d : D) : ∀ l : List D, ((pyL l).any fun z => PyData.eqv z (py d)) = l.any fun z => deq z d
  | [] => rfl
  | x :: l => by
    show (PyData.eqv (py x) (py d) || (pyL l).any fun z => PyData.eqv z (py d)) = (deq x d || l.any fun z => deq z d)
    rw [pyL_any d l]
    rfl
/-- x in y: two roads -/
theorem inD_ok {C : Kc} {H : Hp} {os W : List Addr} {x y : V} {d1 d2 : D} {f1 f2 : List Addr} {b : Bool} (r1 : Rl C (cut H os) H W x d1 f1) (r2 : Rl C (cut H os) H W y d2 f2) (h : inD d1 d2 = .ok b) :
    (∃ p xs, y = .ref p ∧ (SqL C.K H p xs ∨ SqT C.K H p xs) ∧ flatV x = true ∧ xs.all flatV = true ∧ inV x xs = b) ∨ (∃ d ds, Dp C.K H x d ∧ Dp C.K H y (.list ds) ∧ SeqAt.shaped d = true ∧ SeqAt.shaped (.list ds) = true ∧ (ds.any fun z => PyData.eqv z d) = b) ∨ (∃ a o, y = .ref a ∧ DGet H a x o ∧ o.isSome = b) := by
  have go : ∀ {l : List D} {vs : List V} {g : List Addr}, RlL C (cut H os) H W vs l g → (flatD d1 && l.all flatD) = true → flatV x = true ∧ vs.all flatV = true ∧ inV x vs = l.any fun z => deq z d1 := fun ll k => by
    simp only [Bool.and_eq_true] at k
    obtain ⟨h1, h2⟩ := RlL.flats r1 k.1 ll k.2
    exact ⟨r1.flat k.1, h1, h2⟩
  unfold inD at h
  split at h <;> first | (cases h; done) | skip
  · rename_i m l
    split at h <;> first | (cases h; done) | skip
    rename_i hc
    cases h
    unfold inOk at hc
    rcases Bool.or_eq_true_iff.mp hc with k | k
    · obtain ⟨a, vs, g, rfl, hS, _, ll, _⟩ := r2.lst_inv
      obtain ⟨q1, q2, q3⟩ := go ll k
      exact .inl ⟨a, vs, rfl, .inl hS, q1, q2, q3⟩
    · simp only [Bool.and_eq_true] at k
      exact .inr (.inl ⟨py d1, pyL l, r1.dpP k.1.2, r2.dpP k.2, k.1.2, k.2, pyL_any d1 l⟩)
  · rename_i l
    split at h <;> first | (cases h; done) | skip
    rename_i hc
    cases h
    unfold inOk at hc
    rcases Bool.or_eq_true_iff.mp hc with k | k
    · obtain ⟨a, vs, rfl, hS, _, ll⟩ := r2.tup_inv
      obtain ⟨q1, q2, q3⟩ := go ll k
      exact .inl ⟨a, vs, rfl, .inr hS, q1, q2, q3⟩
    · simp [isL] at k
  · unfold dinD at h
    split at h <;> first | (cases h; done) | skip
    rename_i o ho
    cases h
    obtain ⟨a, ov, rfl, q1, q2⟩ := r2.dget r1 (Same.refl H) ho
    refine .inr (.inr ⟨a, ov, rfl, q1, ?_⟩)
    rcases q2 with ⟨rfl, rfl⟩ | ⟨d, u, g, rfl, rfl, _⟩ <;> rfl
/-- dicts alike -/
theorem deqD_ok {C : Kc} {H : Hp} {os W : List Addr} {x y : V} {d1 d2 : D} {f1 f2 : List Addr} {b : Bool} (r1 : Rl C (cut H os) H W x d1 f1) (r2 : Rl C (cut H os) H W y d2 f2) (h : deqD d1 d2 = .ok b) :
    ∃ a c ks, x = .ref a ∧ y = .ref c ∧ b = true ∧ H a = some (.dK ks) ∧ H c = some (.dK ks) ∧ (∀ p ∈ ks, valV ks p.1 = some p.2 ∧ flatB p.2 = true) := by
  unfold deqD at h
  split at h <;> first | (cases h; done) | skip
  split at h <;> first | (cases h; done) | skip
  rename_i hc
  cases h
  simp only [Bool.and_eq_true, decide_eq_true_eq] at hc
  obtain ⟨a, vs, g, rfl, h1, l1, _⟩ := r1.dk_inv
  obtain ⟨c, ws, g', rfl, h2, l2, _⟩ := r2.dk_inv
  obtain ⟨rfl, q1, q2⟩ := l1.dkEq l2 hc.1
  refine ⟨a, c, vs, rfl, rfl, rfl, h1, h2, fun p hp => ⟨?_, q1 p hp⟩⟩
  have nd : (vs.map (·.1)).Nodup := by rw [q2]; exact hc.2
  have key : ∀ vs : List (Key × V), (vs.map (·.1)).Nodup → p ∈ vs → valV vs p.1 = some p.2 := by
    intro vs
    induction vs with
    | nil => intro _ z; cases z
    | cons w vs ih =>
      intro nd hp
      rw [List.map_cons, List.nodup_cons] at nd
      rcases List.mem_cons.mp hp with e | hp
      · subst e
        exact valV_pos rfl
      · rw [valV_neg]
        · exact ih nd.2 hp
        · intro z
          exact nd.1 (z ▸ List.mem_map_of_mem hp)
  exact key vs nd hp
theorem op_cmp {X : Cx} {C : Kc} (hK : X.K = C.K) (hu1 : X.A.units + 65 < cLine) {o : CmpOp} : OpR X (compareOp o) (rC C o) := by
  have hu : X.A.units + 64 < cLine := by omega
  intro pins s σ H x y v u Q I rx ry h
  obtain ⟨os, W, d1, d2, f1, f2, b, r1, r2, hd, q⟩ := h
  have hIn : o = .Eq ∨ o = .NotEq ∨ o = .Lt ∨ o = .LtE ∨ o = .Gt ∨ o = .GtE ∨ o = .Is ∨ o = .IsNot ∨ o = .In ∨ o = .NotIn := by cases o <;> simp
  rcases hIn with rfl | rfl | rfl | rfl | rfl | rfl | rfl | rfl | rfl | rfl
  · rcases eqD_ok (show eqD d1 d2 = .ok b from hd) with hq | ⟨p1, p2, rfl⟩
    · obtain ⟨a, c, ks, rfl, rfl, rfl, h1, h2, h3⟩ := deqD_ok r1 r2 hq
      exact op_eq_dictA (by omega) pins s σ H _ _ v u Q I rx ry ⟨a, c, ks, ks, rfl, rfl, h1, h2, rfl, h3, q⟩
    exact op_eqD hu pins s σ H _ _ v u Q I rx ry ⟨py d1, py d2, by rw [hK]; exact r1.dpP p1, by rw [hK]; exact r2.dpP p2, p1, p2, q⟩
  · change notR (eqD d1 d2) = Res.ok b at hd
    cases e : eqD d1 d2 with
    | ok k =>
      rw [e] at hd
      cases hd
      rcases eqD_ok e with hq | ⟨p1, p2, rfl⟩
      · obtain ⟨a, c, ks, rfl, rfl, rfl, h1, h2, h3⟩ := deqD_ok r1 r2 hq
        exact op_ne_dictA (by omega) pins s σ H _ _ v u Q I rx ry ⟨a, c, ks, ks, rfl, rfl, h1, h2, rfl, h3, q⟩
      exact op_neD hu pins s σ H _ _ v u Q I rx ry ⟨py d1, py d2, by rw [hK]; exact r1.dpP p1, by rw [hK]; exact r2.dpP p2, p1, p2, q⟩
    | exc z => rw [e] at hd; cases hd
    | bad => rw [e] at hd; cases hd
  · obtain ⟨i, j, e1, e2, e3⟩ := cmpI_ok hd
    subst e1 e2 e3
    obtain ⟨rfl, _⟩ := r1.int_inv; obtain ⟨rfl, _⟩ := r2.int_inv; exact op_lt pins s σ H _ _ v u Q I rx ry ⟨_, _, rfl, rfl, q⟩
  · obtain ⟨i, j, e1, e2, e3⟩ := cmpI_ok hd
    subst e1 e2 e3
    obtain ⟨rfl, _⟩ := r1.int_inv; obtain ⟨rfl, _⟩ := r2.int_inv; exact op_le pins s σ H _ _ v u Q I rx ry ⟨_, _, rfl, rfl, q⟩
  · obtain ⟨i, j, e1, e2, e3⟩ := cmpI_ok hd
    subst e1 e2 e3
    obtain ⟨rfl, _⟩ := r1.int_inv; obtain ⟨rfl, _⟩ := r2.int_inv; exact op_gt pins s σ H _ _ v u Q I rx ry ⟨_, _, rfl, rfl, q⟩
  · obtain ⟨i, j, e1, e2, e3⟩ := cmpI_ok hd
    subst e1 e2 e3
    obtain ⟨rfl, _⟩ := r1.int_inv; obtain ⟨rfl, _⟩ := r2.int_inv; exact op_ge pins s σ H _ _ v u Q I rx ry ⟨_, _, rfl, rfl, q⟩
  · obtain ⟨e2, e3⟩ := isD_ok hd
    subst e2 e3
    obtain ⟨rfl, _⟩ := r2.non_inv
    exact op_isN pins s σ H _ _ v u Q I rx ry ⟨rfl, by rw [← r1.isN]; exact q⟩
  · change notR (isD d1 d2) = Res.ok b at hd
    cases e : isD d1 d2 with
    | ok k =>
      rw [e] at hd
      obtain ⟨e2, e3⟩ := isD_ok e
      subst e2 e3
      cases hd
      obtain ⟨rfl, _⟩ := r2.non_inv
      exact op_notN pins s σ H _ _ v u Q I rx ry ⟨rfl, by rw [← r1.isN]; exact q⟩
    | exc z => rw [e] at hd; cases hd
    | bad => rw [e] at hd; cases hd
  · rcases inD_ok r1 r2 hd with ⟨p, xs, rfl, z1, z2, z3, rfl⟩ | ⟨d, ds, z1, z2, z3, z4, rfl⟩ | ⟨a, o, rfl, z1, rfl⟩
    rotate_left 2
    · obtain rfl : u = Value.ref a := ry
      exact d_in (by omega) I z1 rx fun s' I' => ⟨V.bl o.isSome, H, I', rfl, q⟩
    · exact op_in_seq pins s σ H _ _ v u Q I rx ry ⟨p, xs, rfl, by rw [hK]; exact z1, z2, z3, q⟩
    · exact op_inD hu1 pins s σ H _ _ v u Q I rx ry ⟨d, ds, by rw [hK]; exact z1, by rw [hK]; exact z2, z3, z4, q⟩
  · change notR (inD d1 d2) = Res.ok b at hd
    cases e : inD d1 d2 with
    | ok k =>
      rw [e] at hd
      cases hd
      rcases inD_ok r1 r2 e with ⟨p, xs, rfl, z1, z2, z3, rfl⟩ | ⟨d, ds, z1, z2, z3, z4, rfl⟩ | ⟨a, o, rfl, z1, rfl⟩
      rotate_left 2
      · obtain rfl : u = Value.ref a := ry
        exact d_notIn (by omega) I z1 rx fun s' I' => ⟨V.bl (!o.isSome), H, I', rfl, q⟩
      · exact op_notIn_seq pins s σ H _ _ v u Q I rx ry ⟨p, xs, rfl, by rw [hK]; exact z1, z2, z3, q⟩
      · exact op_notInD hu1 pins s σ H _ _ v u Q I rx ry ⟨d, ds, by rw [hK]; exact z1, by rw [hK]; exact z2, z3, z4, q⟩
    | exc z => rw [e] at hd; cases hd
    | bad => rw [e] at hd; cases hd
end Pv
/-! Pv24: sorted(d), the keys of d tuples of texts. -/
namespace Pv
open PySem L2 PySem.Spec PyProof.Rows
/-! ### the order of rows -/
theorem strLt_irr (a : PySem.Str) : strLt a a = false := decide_eq_false (List.lt_irrefl _)
theorem strLt_asym {a b : PySem.Str} (h : strLt a b = true) : strLt b a = false := by
  unfold strLt at *
  rw [decide_eq_true_eq] at h
  exact decide_eq_false (List.lt_asymm h)
theorem strLt_tr {a b c : PySem.Str} (h1 : strLt b a = false) (h2 : strLt c b = false) : strLt c a = false := by
  unfold strLt at *
  rw [decide_eq_false_iff_not] at *
  exact List.not_lt.mpr (List.le_trans (List.not_lt.mp h1) (List.not_lt.mp h2))
theorem strLt_tot {a b : PySem.Str} (h1 : strLt b a = false) (h2 : strLt a b = false) : a = b := by
  unfold strLt at *
  rw [decide_eq_false_iff_not] at *
  have e := List.le_antisymm (List.not_lt.mp h1) (List.not_lt.mp h2)
  cases a with
  | mk x =>
    cases b with
    | mk y =>
      congr 1
      exact Array.toList_inj.mp e
theorem rowLt_asym : ∀ x y : List PySem.Str, rowLt x y = true → rowLt y x = false
  | [], [], h => by cases h
  | [], _ :: _, _ => rfl
  | _ :: _, [], h => by cases h
  | a :: x, b :: y, h => by
    unfold rowLt at *
    by_cases e : a = b
    · rw [if_pos e] at h
      rw [if_pos e.symm]
      exact rowLt_asym x y h
    · rw [if_neg e] at h
      rw [if_neg fun z => e z.symm]
      exact strLt_asym h
theorem rowLt_tr : ∀ x y z : List PySem.Str, rowLt y x = false → rowLt z y = false → rowLt z x = false
  | [], [], _, _, h => h
  | [], _ :: _, [], _, _ => rfl
  | [], b :: y, c :: z, h1, h2 => by
    unfold rowLt
    rfl
  | a :: x, [], _, h, _ => by cases h
  | a :: x, b :: y, [], _, h => by cases h
  | a :: x, b :: y, c :: z, h1, h2 => by
    unfold rowLt at *
    by_cases e1 : b = a
    · rw [if_pos e1] at h1
      by_cases e2 : c = b
      · rw [if_pos e2] at h2
        rw [if_pos (e2.trans e1)]
        exact rowLt_tr x y z h1 h2
      · rw [if_neg e2] at h2
        subst e1
        rw [if_neg e2]
        exact h2
    · rw [if_neg e1] at h1
      by_cases e2 : c = b
      · subst e2
        rw [if_neg e1]
        exact h1
      · rw [if_neg e2] at h2
        have h3 := strLt_tr h1 h2
        by_cases e3 : c = a
        · subst e3
          exact absurd (strLt_tot h1 h2) fun z => e1 z.symm
        · rw [if_neg e3]
          exact h3
theorem rowLt_tot : ∀ {x y : List PySem.Str}, rowLt y x = false → rowLt x y = false → x = y
  | [], [], _, _ => rfl
  | [], _ :: _, _, h => by cases h
  | _ :: _, [], h, _ => by cases h
  | a :: x, b :: y, h1, h2 => by
    unfold rowLt at *
    by_cases e : a = b
    · rw [if_pos e.symm] at h1
      rw [if_pos e] at h2
      rw [e, rowLt_tot h1 h2]
    · rw [if_neg fun z => e z.symm] at h1
      rw [if_neg e] at h2
      exact absurd (strLt_tot h1 h2) e
theorem sortRow_perm (l : List (List PySem.Str)) : (sortRow l).Perm l := List.mergeSort_perm _ _
theorem sortRow_srt (l : List (List PySem.Str)) : (sortRow l).Pairwise fun x y => rowLt y x = false := by
  have h := List.pairwise_mergeSort (le := fun a b => !rowLt b a) (fun a b c h1 h2 => by
    simp only [Bool.not_eq_true'] at *
    exact rowLt_tr a b c h1 h2) (fun a b => by
    cases e : rowLt b a with
    | false => rfl
    | true => rw [rowLt_asym b a e]; rfl) l
  exact h.imp fun h => by simpa using h
theorem sorted_unique : ∀ {x y : List (List PySem.Str)}, x.Perm y → x.Pairwise (fun a b => rowLt b a = false) → y.Pairwise (fun a b => rowLt b a = false) → x = y
  | [], y, p, _, _ => (List.nil_perm.mp p).symm
  | a :: x, [], p, _, _ => by simp at p
  | a :: x, b :: y, p, h1, h2 => by
    rw [List.pairwise_cons] at h1 h2
    have e : a = b := by
      have m1 : a ∈ b :: y := p.mem_iff.mp List.mem_cons_self
      have m2 : b ∈ a :: x := p.mem_iff.mpr List.mem_cons_self
      rcases List.mem_cons.mp m1 with e | m1
      · exact e
      rcases List.mem_cons.mp m2 with e | m2
      · exact e.symm
      exact rowLt_tot (h1.1 b m2) (h2.1 a m1)
    subst e
    rw [sorted_unique (List.Perm.cons_inv p) h1.2 h2.2]
theorem sortRow_eq {ys l : List (List PySem.Str)} (p : ys.Perm l) (h : ys.Pairwise fun x y => rowLt y x = false) : sortRow l = ys :=
  sorted_unique ((sortRow_perm l).trans p.symm) (sortRow_srt l) h
/-! ### rows in the heap -/
/-- v is a tuple of the texts r -/
def IsRow (h : Heap) (v : Value) (r : List PySem.Str) : Prop := ∃ a o its n, v = Value.ref a ∧ h.get? a = some o ∧ o.cls = .type "tuple" ∧ o.data = .seq its n ∧ StrsAre its.toList r
def strOf : Value → PySem.Str
  | .str x _ => x
  | _ => ⟨#[]⟩
theorem strsAre_of : ∀ {vs : List Value} {r : List PySem.Str}, StrsAre vs r → vs.map strOf = r
  | _, _, .nil => rfl
  | _, _, .cons y t h => by rw [List.map_cons, strsAre_of h]; rfl
theorem strsAre_len : ∀ {vs : List Value} {r : List PySem.Str}, StrsAre vs r → vs.length = r.length
  | _, _, .nil => rfl
  | _, _, .cons y t h => congrArg Nat.succ (strsAre_len h)
/-- the row at a value -/
def rowAt (h : Heap) (v : Value) : List PySem.Str := match v with
  | .ref a => (match h.get? a with
    | some o => (match o.data with
      | .seq its _ => its.toList.map strOf
      | _ => [])
    | none => [])
  | _ => []
theorem IsRow.at_ {h : Heap} {v : Value} {r : List PySem.Str} (x : IsRow h v r) : rowAt h v = r := by
  obtain ⟨a, o, its, n, rfl, h1, h2, h3, h4⟩ := x
  unfold rowAt
  simp only [h1, h3]
  exact strsAre_of h4
theorem IsRow.keeps {h h' : Heap} {v : Value} {r : List PySem.Str} (x : IsRow h v r) (k : ∀ b o, h.get? b = some o → o.cls = .type "tuple" → h'.get? b = some o) : IsRow h' v r := by
  obtain ⟨a, o, its, n, e, h1, h2, h3, h4⟩ := x
  exact ⟨a, o, its, n, e, k a o h1 h2, h2, h3, h4⟩
section
variable {prog : Program} {w : World} {A : Around} {E : Value → Shared → Prop} {s : Shared}
theorem lex_rows {b : Bool} {Q : Bool → Shared → Prop} : ∀ {p q : List Value} {r t : List PySem.Str} (i : Nat), StrsAre p r → StrsAre q t → r.length = t.length → Q (rowLt r t) s → PySem.W.KatLex prog w A b false Q (p.zip q) i s
  | _, _, _, _, i, .nil, .nil, _, h => PySem.W.kat_nil h
  | _, _, _, _, i, .nil, .cons _ _ _, hl, h => by simp at hl
  | _, _, _, _, i, .cons _ _ _, .nil, hl, h => by simp at hl
  | _, _, _, _, i, .cons x t (vs := vs) (ys := r) hp, .cons y u (vs := us) (ys := q) hq, hl, h => by
    have ih := fun hh => lex_rows (b := b) (Q := Q) (i + 1) hp hq (by simpa using hl) hh
    show PySem.W.KatLex prog w A b false Q ((Value.str x t, Value.str y u) :: vs.zip us) i s
    refine PySem.W.kat_cons (SeqAt.EqAt.str_str x t y u prog w _ _ ?_)
    unfold rowLt at h
    refine PySem.W.kat_go (fun e1 => ?_) (fun e1 => ?_)
    · have ex : x = y := by simpa using e1
      rw [if_pos ex] at h
      exact PySem.W.kat_yes (ih h)
    · have ex : ¬ x = y := by simpa using e1
      rw [if_neg ex] at h
      exact PySem.W.kat_no (oneLt_any_str h)
theorem row_cmp {vs : List Value} {m : Nat} (hp : ∀ v ∈ vs, ∃ r, IsRow s.heap v r ∧ r.length = m) : SrtO.Cmp prog w A s (tuples' true) (fun p => p.1 ∈ vs) (SrtO.lt2 fun v u => rowLt (rowAt s.heap v) (rowAt s.heap u)) := by
  intro p q hm hm'
  obtain ⟨r, h1, l1⟩ := hp _ hm
  obtain ⟨t, h2, l2⟩ := hp _ hm'
  show wpAny (model prog w) A (keyLt' (tuples' true) p.1 q.1) (fun b s' => s' = s ∧ b = rowLt (rowAt s.heap p.1) (rowAt s.heap q.1)) (fun _ _ => False) s
  rw [h1.at_, h2.at_]
  obtain ⟨a, o, its, n, e, ho, hc, hd, hs⟩ := h1
  obtain ⟨a', o', its', n', e', ho', hc', hd', hs'⟩ := h2
  rw [e, e']
  refine PySem.W.kat_lt ho hd ho' hd' ?_
  have hf : decide (its.size < its'.size) = false := by
    have q1 := strsAre_len hs
    have q2 := strsAre_len hs'
    rw [Array.length_toList] at q1 q2
    exact decide_eq_false (by omega)
  rw [hf]
  exact lex_rows 0 hs hs' (l1.trans l2.symm) ⟨rfl, rfl⟩
theorem rows_firsts {h : Heap} {m : Nat} : ∀ {vs : List Value}, (∀ v ∈ vs, ∃ r, IsRow h v r ∧ r.length = m + 1) → ∃ fs, PySem.W.KatTups h vs fs ∧ fs.length = vs.length ∧ ∀ f ∈ fs, ∃ x t, f = Value.str x t
  | [], _ => ⟨[], PySem.W.KatTups.nil, rfl, fun f hf => by simp at hf⟩
  | v :: vs, hv => by
    obtain ⟨fs, k, hl, hi⟩ := rows_firsts fun u hu => hv u (List.mem_cons_of_mem _ hu)
    obtain ⟨r, ⟨a, o, its, n, rfl, ho, hc, hd, hs⟩, hr⟩ := hv v List.mem_cons_self
    cases hi0 : its.toList with
    | nil =>
      rw [hi0] at hs
      cases hs
      simp at hr
    | cons w0 ws =>
      rw [hi0] at hs
      cases hs with
      | cons y t hs =>
        refine ⟨.str y t :: fs, PySem.W.KatTups.cons ho hc hd (by rw [← Array.getElem?_toList, hi0]; rfl) k, by rw [List.length_cons, List.length_cons, hl], fun f hf => ?_⟩
        rcases List.mem_cons.mp hf with rfl | hf
        · exact ⟨y, t, rfl⟩
        · exact hi f hf
theorem rows_sortable {a : Addr} {vs : List Value} {m : Nat} (h0 : 0 < vs.length) (hp : ∀ v ∈ vs, ∃ r, IsRow s.heap v r ∧ r.length = m + 1) (ha : ∀ o, s.heap.get? a = some o → o.cls ≠ .type "tuple") : SrtO.SortableO prog w A s a vs fun v u => rowLt (rowAt s.heap v) (rowAt s.heap u) := by
  intro h' keep
  have kp : ∀ {v : Value} {r : List PySem.Str}, IsRow s.heap v r → IsRow h' v r := fun x => x.keeps fun b o e c => keep b o (fun z => by subst z; exact ha o e c) e
  have hp' : ∀ v ∈ vs, ∃ r, IsRow h' v r ∧ r.length = m + 1 := fun v hm => let ⟨r, q1, q2⟩ := hp v hm; ⟨r, kp q1, q2⟩
  obtain ⟨fs, h1, h2, h3⟩ := rows_firsts hp'
  refine ⟨tuples' true, fun Q E hq => ?_, ?_⟩
  · refine PySem.W.kat_kind (T := .type "str") h1 (by omega) (fun f hm => ?_) (by rfl) ?_
    · obtain ⟨x, t, rfl⟩ := h3 f hm
      exact PySem.W.Looks.now
    · have e : (Value.type "str" != Value.type "tuple") = true := by first | decide +kernel | rfl | decide
      rw [e]
      exact hq
  · have c := row_cmp (prog := prog) (w := w) (A := A) (s := { s with heap := h' }) hp'
    intro p q hm hm'
    have e := c p q hm hm'
    obtain ⟨r, q1, _⟩ := hp _ hm
    obtain ⟨t, q2, _⟩ := hp _ hm'
    refine wpAny_mono e (fun b s' hb => ⟨hb.1, hb.2.trans ?_⟩) fun _ _ z => z
    show rowLt (rowAt h' p.1) (rowAt h' q.1) = rowLt (rowAt s.heap p.1) (rowAt s.heap q.1)
    rw [(kp q1).at_, (kp q2).at_, q1.at_, q2.at_]
/-! ### the keys of a dict, collected -/
theorem walks_raw (hh : A.handled = none) (I d : Addr) (hne : d ≠ I) (es : Array DictEntry) (ep : Nat) :
    Walks prog w A I [I, d] [I] es.size (fun i v => ∃ en, es[i]? = some en ∧ en.key = v) (fun i h => h.IsKeyIter I d i es.size ep ∧ DT.Raw h d es ep) where
  sub := fun b hb => by simp at hb; simp [hb]
  frame := fun _ _ _ st hk => ⟨st.1.at fun o e => hk I (by simp) o e, st.2.at' fun o e => hk d (by simp) o e⟩
  item := fun i s Q E hi st hQ => by
    obtain ⟨o, ho, hx, hd⟩ := st.2
    have hen : es[i]? = some es[i] := Array.getElem?_eq_getElem hi
    refine next_key_item st.1 ho hd rfl hen fun h' hit' sb => ?_
    exact hQ _ h' s.toks ⟨_, hen, rfl⟩ ⟨hit', st.2.at' fun o e => (sb.2 d hne).trans e⟩ fun b o hb e => (sb.2 b (fun z => hb (by simp [z]))).trans e
  done := fun s Q E st hQ => by
    obtain ⟨o, ho, hx, hd⟩ := st.2
    exact next_key_end hh st.1 ho hd rfl (Nat.le_refl _) fun h' he' => hQ h' s.toks fun b o hb e => he' b o (fun z => hb (by simp [z])) e
  self := fun _ _ _ _ st hQ => wpAny_pyIter_keyiter st.1 hQ
theorem src_raw {d : Addr} {es : Array DictEntry} {ep : Nat} (lo : (d == sysModules) = false) : PySem.W.KdlSrc prog w "dict" d d es.size (fun i v => ∃ en, es[i]? = some en ∧ en.key = v) (fun h => DT.Raw h d es ep) where
  type := fun _ hm => hm.typeIs
  there := fun _ hm => ⟨hm.lt, hm.lt⟩
  keep := fun _ _ hm hk => hm.at' fun o e => hk d (.inl rfl) o e
  notList := by decide
  notTuple := by decide
  hint := fun _ _ _ _ hm hq => PySem.W.kdl_hint_dict hm.typeIs hq
  iter := fun A s hh hm => by
    obtain ⟨o, ho, hx, hd⟩ := id hm
    exact ⟨_, _, (fun _ _ hq => iter_keys lo ho hx hd hq), walks_raw hh _ d (Nat.ne_of_lt hm.lt) es ep, ⟨⟨_, Heap.get?_push_size _ rfl, rfl, rfl⟩, hm.push _⟩⟩
end
/-! ### the rule -/
section
variable {X : Cx}
theorem row_of {P : Program} {w : World} {H : Hp} {h : Heap} {q : Addr} {r : List PySem.Str} (ok : HOk P w H h) (e : H q = some (.tup (r.map V.str))) : IsRow h (.ref q) r := by
  obtain ⟨_, its, rv, o, ho, hc, n, hd⟩ := (show ObjOk P w H h q (.tup (r.map V.str)) from ok q _ e)
  have key : ∀ {its : List Value} {r : List PySem.Str}, Vals (r.map V.str) its → StrsAre its r := by
    intro its r
    induction r generalizing its with
    | nil => intro h; cases h; exact .nil
    | cons y r ih =>
      intro h
      cases h with
      | cons r1 rr =>
        obtain ⟨t, rfl⟩ := r1
        exact .cons y t (ih rr)
  exact ⟨q, o, its.toArray, n, rfl, ho, hc, hd, by simpa using key rv⟩
/-- sorted(d): the rows of d's keys; each key's own tuple -/
def rSortT : List V → Hp → VK → Prop := fun xs H Q => ∃ (a : Addr) (kvs : List (List L2.Key × V)) (rs : List (List PySem.Str)) (m : Nat), xs = [.ref a] ∧ H a = some (.dT kvs) ∧ kvs.map (·.1) = rs.map (List.map Sum.inr) ∧ (∀ r ∈ rs, r.length = m + 1) ∧
  ∀ (qs : List Addr) (ys : List (List PySem.Str)) (p : Addr), ys.Perm rs → ys.Pairwise (fun x y => rowLt y x = false) → Paired (fun q r => H q = some (.tup (r.map V.str))) qs ys → H p = none → Q (.ref p) (upd H p (.lst (qs.map V.ref)))
theorem paired_of {α β : Type} {F : α → β → Prop} : ∀ {as : List α} {bs : List β}, as.length = bs.length → (∀ (i : Nat) (a : α) (b : β), as[i]? = some a → bs[i]? = some b → F a b) → Paired F as bs
  | [], [], _, _ => .nil
  | a :: as, b :: bs, hl, h => .cons (h 0 a b rfl rfl) (paired_of (F := F) (as := as) (bs := bs) (by simpa using hl) fun i x y hx hy => h (i + 1) x y (by simpa using hx) (by simpa using hy))
  | [], _ :: _, hl, _ => by simp at hl
  | _ :: _, [], hl, _ => by simp at hl
theorem call_sortT (hcalm : X.calm = true) : CallR X (.builtin "sorted") rSortT := by
  intro pins s σ H xs us Q I r q
  obtain ⟨a, kvs, rs, m, rfl, ha, hks, hm, q⟩ := q
  obtain rfl := Vals.ref1 r
  obtain ⟨z, lo, xs', rel, o, es, ep, ho, hx, hdat, hes, his, hn⟩ := dt_of I.hok ha
  have raw : DT.Raw s.heap a es ep := ⟨o, ho, hx, hdat⟩
  have l1 : kvs.length = xs'.length := Paired.length rel
  have l2 : es.size = xs'.length := size_of_entries hes
  have l3 : kvs.length = rs.length := by
    have e := congrArg List.length hks
    rw [List.length_map, List.length_map] at e
    exact e
  -- each key's own tuple
  have kq : ∀ (i : Nat) (en : DictEntry), es[i]? = some en → ∃ (r : List PySem.Str) (b : Addr), rs[i]? = some r ∧ en.key = Value.ref b ∧ H b = some (.tup (r.map V.str)) := by
    intro i en hen
    rw [entry_at hes i] at hen
    cases hxi : xs'[i]? with
    | none => rw [hxi] at hen; cases hen
    | some x =>
      rw [hxi] at hen
      have een : entryOfKey (tupleKind (mixKind X.prog X.w)) x = en := Option.some.inj hen
      obtain ⟨e0, he0, r1, r2, r3⟩ := L2.DX.pget rel hxi
      have e1 : (kvs.map (·.1))[i]? = some e0.1 := by rw [List.getElem?_map, he0]; rfl
      rw [hks, List.getElem?_map] at e1
      cases hr : rs[i]? with
      | none => rw [hr] at e1; cases e1
      | some r =>
        rw [hr] at e1
        have e2 : r.map Sum.inr = e0.1 := Option.some.inj e1
        refine ⟨r, x.2.1, rfl, by rw [← een]; rfl, ?_⟩
        rw [r2, ← e2, List.map_map]
        rfl
  refine Calls.call_function_entry kind_sorted plain_sorted entry_sorted (args_sorted1 _) ?_
  unfold Builtin.«sorted»
  refine wpAny_bind (m := checkCount "sorted" 1 1 _) (wpAny_pure ?_)
  refine wpAny_bind (PySem.W.kdu_collect (A := X.A.in1) (src_raw (prog := X.prog) (w := X.w) lo) (I.ok.hd hcalm) raw (by omega) fun h' tk acc hk hacc => ?_)
  have hal : acc.toList.length = rs.length := by rw [Array.length_toList, hacc.1]; omega
  -- the addresses
  have hac : ∀ (i : Nat) (v : Value), acc.toList[i]? = some v → ∃ (r : List PySem.Str) (b : Addr), rs[i]? = some r ∧ v = Value.ref b ∧ H b = some (.tup (r.map V.str)) := fun i v e => by
    obtain ⟨en, e1, e2⟩ := hacc.2 i v (by rw [← Array.getElem?_toList]; exact e)
    obtain ⟨r, b, q1, q2, q3⟩ := kq i en e1
    exact ⟨r, b, q1, e2.symm.trans q2, q3⟩
  have I1 : Inv X pins σ H { s with heap := h', toks := tk } := I.kept hk
  have hz : acc.toList.length ≤ sizeLine := by omega
  refine wpAny_bind (wpAny_newList ?_ hz)
  have hoL : (h'.push (seqObj "list" acc.toList.toArray 0)).get? h'.objs.size = some (seqObj "list" acc.toList.toArray 0) := Heap.get?_push_size _ rfl
  have hrow : ∀ v ∈ acc.toList, ∃ r, IsRow (h'.push (seqObj "list" acc.toList.toArray 0)) v r ∧ r.length = m + 1 := fun v hv => by
    obtain ⟨i, hi⟩ := List.getElem?_of_mem hv
    obtain ⟨r, b, q1, q2, q3⟩ := hac i v hi
    subst q2
    exact ⟨r, (row_of I1.hok q3).keeps fun b o e _ => Heap.get?_push_of_some _ e, hm r (List.mem_of_getElem? q1)⟩
  have hrw : ∀ (i : Nat) (v : Value) (r : List PySem.Str), acc.toList[i]? = some v → rs[i]? = some r → rowAt (h'.push (seqObj "list" acc.toList.toArray 0)) v = r := fun i v r e1 e2 => by
    obtain ⟨r', b, q1, q2, q3⟩ := hac i v e1
    subst q2
    rw [e2] at q1
    cases q1
    exact ((row_of I1.hok q3).keeps fun b o e _ => Heap.get?_push_of_some _ e).at_
  show wpAny _ _ _ _ _ { s with heap := h'.push (seqObj "list" acc.toList.toArray 0), toks := tk }
  have O : SrtO.Swo fun v u => rowLt (rowAt (h'.push (seqObj "list" acc.toList.toArray 0)) v) (rowAt (h'.push (seqObj "list" acc.toList.toArray 0)) u) := ⟨fun x y h => rowLt_asym _ _ h, fun x y z h1 h2 => rowLt_tr _ _ _ h1 h2⟩
  refine wpAny_bind (wpAny_holding (wpAny_call_entry slot_list_sort ⟨_, hoL, rfl⟩ entry_list_sort
    (SrtO.list_sort_ord (s := { s with heap := h'.push (seqObj "list" acc.toList.toArray 0), toks := tk }) O hoL hz (fun h2 => rows_sortable (by omega) hrow fun o e => by
      have e' : some o = some (seqObj "list" acc.toList.toArray 0) := e.symm.trans hoL
      cases e'
      intro c
      exact absurd (Value.type.inj c) (by decide)) fun out hs hb => ⟨_, rfl, ?_⟩) (args_list_sort _)))
  obtain ⟨e', he'⟩ := sortedHeap_at (vs := acc.toList) (out := out.toArray) hoL
  have pm : out.Perm acc.toList := hb.perm
  -- the sorted rows
  have allr : acc.toList.map (rowAt (h'.push (seqObj "list" acc.toList.toArray 0))) = rs := by
    apply List.ext_getElem?
    intro i
    rw [List.getElem?_map]
    cases e : acc.toList[i]? with
    | none =>
      have : rs.length ≤ i := by
        have := List.getElem?_eq_none_iff.mp e
        omega
      rw [List.getElem?_eq_none this]
      rfl
    | some v =>
      obtain ⟨r, b, q1, q2, q3⟩ := hac i v e
      rw [q1, Option.map_some, hrw i v r e q1]
  have outr : ∀ v ∈ out, ∃ b, v = Value.ref b ∧ H b = some (.tup ((rowAt (h'.push (seqObj "list" acc.toList.toArray 0)) v).map V.str)) := fun v hv => by
    obtain ⟨i, hi⟩ := List.getElem?_of_mem (pm.mem_iff.mp hv)
    obtain ⟨r, b, q1, q2, q3⟩ := hac i v hi
    exact ⟨b, q2, by rw [hrw i v r hi q1]; exact q3⟩
  have adO : ∀ v ∈ out, v = Value.ref (match v with | .ref b => b | _ => 0) := fun v hv => by
    obtain ⟨b, rfl, _⟩ := outr v hv
    rfl
  have eo : out = (out.map fun v => match v with | .ref b => b | _ => 0).map Value.ref := by
    rw [List.map_map]
    conv => lhs; rw [← List.map_id out]
    exact List.map_congr_left fun v hv => adO v hv
  generalize hqs : (out.map fun v => match v with | .ref b => b | _ => 0) = qs at eo
  have hlen : (qs.map V.ref).length ≤ sizeLine := by
    rw [List.length_map, ← hqs, List.length_map, pm.length_eq]
    exact hz
  have hvals : Vals (qs.map V.ref) out := by
    rw [eo]
    have : ∀ qs : List Addr, Vals (qs.map V.ref) (qs.map Value.ref) := fun qs => by
      induction qs with
      | nil => exact .nil
      | cons q qs ih => exact .cons rfl ih
    exact this qs
  refine wpAny_pure ⟨_, rfl, .ref h'.objs.size, upd H h'.objs.size (.lst (qs.map V.ref)), I1.laid (t' := tk) (fun b u e => ?_) (Nat.le_refl _)
    (show ObjOk X.prog X.w _ _ _ (.lst (qs.map V.ref)) from ⟨hlen, out, e', hvals, he'⟩), rfl, q qs (out.map (rowAt (h'.push (seqObj "list" acc.toList.toArray 0)))) _ ?_ ?_ ?_ (I1.hok.fresh (Nat.le_refl _))⟩
  · have hb : b < h'.objs.size := Heap.lt_size e
    rw [sortedHeap_old (Nat.ne_of_lt hb) (by rw [size_push']; exact Nat.lt_succ_of_lt hb)]
    exact Heap.get?_push_of_some _ e
  · rw [← allr]
    exact pm.map _
  · exact List.pairwise_map.mpr hs
  · refine paired_of (by rw [← hqs, List.length_map, List.length_map]) fun i c y hc hy => ?_
    rw [← hqs, List.getElem?_map] at hc
    rw [List.getElem?_map] at hy
    cases ev : out[i]? with
    | none => rw [ev] at hc; cases hc
    | some v =>
      rw [ev] at hc hy
      obtain ⟨b, rfl, hb⟩ := outr v (List.mem_of_getElem? ev)
      cases hc
      cases hy
      exact hb
end
end Pv
/-! Pv4: built-ins, places, slices by their rules; the text against the language. -/
namespace Pv
open PySem L2 PySem.Spec

theorem intsOf_map : ∀ {ds : List D} {ns : List Int}, intsOf ds = some ns → ds = ns.map .int
  | [], ns, h => by cases h; rfl
  | d :: r, ns, h => by
    cases d with
    | int i =>
      unfold intsOf at h
      cases e : intsOf r with
      | none => rw [e] at h; cases h
      | some l =>
        rw [e] at h
        cases h
        rw [intsOf_map e]; rfl
    | _ => cases h
theorem RlL.ints {C : Kc} {B H : Hp} {W : List Addr} : ∀ {vs : List V} {ns : List Int} {f : List Addr}, RlL C B H W vs (ns.map .int) f → vs = ns.map V.int
  | [], [], _, _ => rfl
  | v :: vs, n :: ns, _, h => by
    cases h with
    | cons r l =>
      obtain ⟨rfl, _⟩ := r.int_inv
      rw [RlL.ints l]; rfl
  | [], n :: ns, _, h => by cases h
  | v :: vs, [], _, h => by cases h
theorem sortInt_eq {a b : List Int} (h : a.Perm b) (s : a.Pairwise (· ≤ ·)) : a = sortInt b := by
  refine List.Perm.eq_of_pairwise (le := (· ≤ ·)) (fun x y _ _ h1 h2 => Int.le_antisymm h1 h2) s ?_ (h.trans (List.mergeSort_perm b _).symm)
  have := List.pairwise_mergeSort (le := fun a b : Int => decide (a ≤ b)) (fun a b c h1 h2 => by simp only [decide_eq_true_eq] at *; omega) (fun a b => by simp only [Bool.or_eq_true, decide_eq_true_eq]; omega) b
  exact this.imp fun h => of_decide_eq_true h
theorem RlL.ofInts {C : Kc} {B H : Hp} {W : List Addr} : ∀ ns : List Int, RlL C B H W (ns.map V.int) (ns.map .int) []
  | [] => .nil
  | n :: ns => .cons (fp := []) (fq := []) (.int n) (RlL.ofInts ns)
theorem mpL_ints (f : Md → Md) (ns : List Int) : mpL f (ns.map .int) = ns.map .int := by
  rw [mpL_eq, List.map_map]
  rfl
theorem RlL.one {C : Kc} {B H : Hp} {W : List Addr} {vs : List V} {d : D} {f : List Addr} (h : RlL C B H W vs [d] f) : ∃ v g, vs = [v] ∧ Rl C B H W v d g ∧ ∀ a ∈ g, a ∈ f := by
  cases h with
  | cons r l =>
    cases l
    exact ⟨_, _, rfl, r, fun a ha => List.mem_append_left _ ha⟩
theorem RlL.two {C : Kc} {B H : Hp} {W : List Addr} {vs : List V} {d e : D} {f : List Addr} (h : RlL C B H W vs [d, e] f) : ∃ v u g g', vs = [v, u] ∧ Rl C B H W v d g ∧ Rl C B H W u e g' ∧ (∀ a ∈ g, a ∈ f) ∧ ∀ a ∈ g', a ∈ f := by
  cases h with
  | cons r l =>
    obtain ⟨u, g', rfl, r2, hg⟩ := l.one
    exact ⟨_, _, _, _, rfl, r, r2, fun a ha => List.mem_append_left _ ha, fun a ha => List.mem_append_right _ (hg a ha)⟩

/-! ### built-ins -/
def rBl (C : Kc) (f : Blt) : List V → Hp → VK → Prop := fun vs H Q => ∃ os os' W ds fs d, RlL C (cut H os) H W vs ds fs ∧ (∀ a ∈ os', a ∈ os) ∧ (∀ a ∈ fs, a ∉ os') ∧ bltD f ds = .ok d ∧ (∀ a ∈ os', ∃ o, H a = some o ∧ Mutb o) ∧ VR C os' W H d Q
def bltV : Blt → Value
  | .len => .builtin "len" | .abs => .builtin "abs" | .sum => .builtin "sum" | .sorted => .builtin "sorted" | .list => .type "list" | .int => .type "int" | .str => .type "str" | .max2 => .builtin "max" | .min2 => .builtin "min"
section
variable {X : Cx} {C : Kc}
theorem mpL_keys {α : Type} (f : Md → Md) (k : α → Key) : ∀ l : List α, mpL f (l.map fun x => keyO (k x)) = l.map fun x => keyO (k x)
  | [] => rfl
  | x :: l => by
    rw [List.map_cons, mpL, mpL_keys f k l]
    cases k x <;> rfl
theorem keyO_rl {C : Kc} {B H : Hp} {W : List Addr} (k : Key) : Rl C B H W (kV k) (keyO k) [] := by
  cases k
  · exact .int _
  · exact .str _
theorem RlP.keysR {C : Kc} {B H : Hp} {W : List Addr} : ∀ {v : List (Key × V)} {d : List (Key × D)} {fp : List Addr}, RlP C B H W Key v d fp → RlL C B H W (v.map fun kv => kV kv.1) (d.map fun kv => keyO kv.1) []
  | _, _, _, .nil => .nil
  | _, _, _, .cons _ l => .cons (fp := []) (fq := []) (keyO_rl _) (RlP.keysR l)
theorem rowOf_map : ∀ {k : List Key} {r : List PySem.Str}, rowOf k = some r → k = r.map Sum.inr
  | [], r, h => by cases h; rfl
  | .inr s :: k, r, h => by
    unfold rowOf at h
    cases e : rowOf k with
    | none => rw [e] at h; cases h
    | some x =>
      rw [e] at h
      cases h
      rw [rowOf_map e]
      rfl
  | .inl _ :: _, _, h => by cases h
theorem rowsOf_map : ∀ {ks : List (List Key)} {rs : List (List PySem.Str)}, rowsOf ks = some rs → ks = rs.map (List.map Sum.inr)
  | [], rs, h => by cases h; rfl
  | k :: ks, rs, h => by
    unfold rowsOf at h
    cases e : rowOf k with
    | none => rw [e] at h; cases h
    | some x =>
      rw [e] at h
      cases e2 : rowsOf ks with
      | none => rw [e2] at h; cases h
      | some y =>
        rw [e2] at h
        cases h
        rw [rowOf_map e, rowsOf_map e2]
        rfl
theorem RlP.keys {C : Kc} {B H : Hp} {W : List Addr} {κ : Type} : ∀ {v : List (κ × V)} {d : List (κ × D)} {fp : List Addr}, RlP C B H W κ v d fp → v.map (·.1) = d.map (·.1)
  | _, _, _, .nil => rfl
  | _, _, _, .cons _ l => by rw [List.map_cons, List.map_cons, RlP.keys l]
theorem RlL.ofStrs {C : Kc} {B H : Hp} {W : List Addr} : ∀ r : List PySem.Str, RlL C B H W (r.map V.str) (r.map D.str) []
  | [] => .nil
  | y :: r => .cons (fp := []) (fq := []) (.str y) (RlL.ofStrs r)
theorem RlL.ofRows {C : Kc} {H : Hp} {B H' : Hp} {W : List Addr} (hB : ∀ q r, H q = some (.tup r) → B q = some (.tup r)) : ∀ {qs : List Addr} {ys : List (List PySem.Str)}, Paired (fun q r => H q = some (.tup (r.map V.str))) qs ys → RlL C B H' W (qs.map V.ref) (ys.map rowD) []
  | _, _, .nil => .nil
  | _, _, .cons h t => .cons (fp := []) (fq := []) (.tup (hB _ _ h) (RlL.ofStrs _)) (RlL.ofRows hB t)
theorem mpL_rows (f : Md → Md) : ∀ ys : List (List PySem.Str), mpL f (ys.map rowD) = ys.map rowD
  | [] => rfl
  | r :: ys => by
    have e : ∀ r : List PySem.Str, mpL f (r.map D.str) = r.map D.str := fun r => by
      induction r with
      | nil => rfl
      | cons y r ih => rw [List.map_cons, mpL, ih]; rfl
    rw [List.map_cons, mpL, mpL_rows f ys]
    show D.tup (mpL f (r.map D.str)) :: _ = _
    rw [e]
    rfl
/-- sorted(d), d's keys tuples of texts -/
theorem sortT_D (hK : X.K = C.K) (hc : X.calm = true) : CallR X (.builtin "sorted") (fun vs H Q => ∃ os os' W ds fs d, RlL C (cut H os) H W vs ds fs ∧ (∀ a ∈ os', a ∈ os) ∧ (∀ a ∈ fs, a ∉ os') ∧ (∃ m kvs, ds = [.dt m kvs] ∧ srtT kvs = .ok d) ∧ (∀ a ∈ os', ∃ o, H a = some o ∧ Mutb o) ∧ VR C os' W H d Q) := by
  intro pins s σ H vs us Q I r h
  obtain ⟨os, os', W, ds, fs, d, rl, hs, hf, ⟨m, kvs, rfl, hd⟩, hm, q⟩ := h
  obtain ⟨v, g, rfl, r1, hg⟩ := rl.one
  obtain ⟨a, ws, _, rfl, h1, l, _⟩ := r1.dt_inv
  unfold srtT at hd
  cases hr : rowsOf (kvs.map (·.1)) with
  | none => rw [hr] at hd; cases hd
  | some rs =>
    rw [hr] at hd
    simp only at hd
    split at hd <;> first | (cases hd; done) | skip
    rename_i hc2
    cases hd
    simp only [Bool.and_eq_true, decide_eq_true_eq] at hc2
    have hk := rowsOf_map hr
    have ev : ∃ n, ∀ r ∈ rs, r.length = n + 1 := by
      cases rs with
      | nil => exact ⟨0, fun _ z => (List.not_mem_nil z).elim⟩
      | cons x rs =>
        have h2 := hc2.1
        unfold evenR at h2
        simp only [Bool.and_eq_true, decide_eq_true_eq, List.all_eq_true] at h2
        cases x with
        | nil => exact absurd rfl h2.1
        | cons y x =>
          refine ⟨x.length, fun r hr => ?_⟩
          rcases List.mem_cons.mp hr with rfl | hr
          · rfl
          · exact h2.2 r hr
    obtain ⟨n, hn⟩ := ev
    refine call_sortT hc pins s σ H _ us Q I r ⟨a, ws, rs, n, rfl, h1, l.keys.trans hk, hn, fun qs ys p hp hw hpr hpn => ?_⟩
    rw [sortRow_eq hp hw] at q
    refine VR.newL' q hpn (RlL.ofRows (fun b t hb => ?_) hpr)
    rw [cut_out]
    · rw [upd_ne (ne_of_none hb hpn)]
      exact hb
    · intro z
      rcases List.mem_append.mp z with z | z
      · have e : b = p := by simpa using z
        subst e
        rw [hpn] at hb
        cases hb
      · obtain ⟨o, ho, hm'⟩ := hm b z
        rw [hb] at ho
        cases ho
        exact hm'
theorem call_blt (hK : X.K = C.K) (hc : X.calm = true) (f : Blt) : CallR X (bltV f) (rBl C f) := by
  intro pins s σ H vs us Q I r h
  obtain ⟨os, os', W, ds, fs, d, rl, hs, hf, hd, hmu, q⟩ := h
  cases f with
  | len =>
    unfold bltD at hd
    split at hd <;> first | cases hd | skip
    all_goals first | contradiction | skip
    · obtain ⟨v, g, rfl, r1, _⟩ := rl.one
      obtain ⟨a, ws, _, rfl, hl, _, l, _⟩ := r1.lst_inv
      exact call_len pins s σ H _ us Q I r ⟨_, ws.length, rfl, .inl ⟨ws, by rw [hK]; exact hl, rfl⟩, by rw [l.len]; exact q.int⟩
    · obtain ⟨v, g, rfl, r1, _⟩ := rl.one
      obtain ⟨a, ws, rfl, hl, _, l⟩ := r1.tup_inv
      exact call_len pins s σ H _ us Q I r ⟨_, ws.length, rfl, .inr ⟨ws, by rw [hK]; exact hl, rfl⟩, by rw [l.len]; exact q.int⟩
    · split at hd
      · rename_i hl
        cases hd
        obtain ⟨v, g, rfl, r1, _⟩ := rl.one
        obtain ⟨rfl, _⟩ := r1.str_inv
        exact call_len pins s σ H _ us Q I r ⟨_, _, rfl, ⟨line_le hl, rfl⟩, q.int⟩
      · cases hd
  | abs =>
    unfold bltD at hd
    split at hd <;> first | cases hd | skip
    all_goals first | contradiction | skip
    obtain ⟨v, g, rfl, r1, _⟩ := rl.one
    obtain ⟨rfl, _⟩ := r1.int_inv
    exact call_abs pins s σ H _ us Q I r ⟨_, rfl, q.int⟩
  | sum =>
    unfold bltD at hd
    split at hd <;> first | cases hd | skip
    all_goals first | contradiction | skip
    split at hd <;> first | cases hd | skip
    rename_i ns hns
    obtain ⟨v, g, rfl, r1, _⟩ := rl.one
    obtain ⟨a, ws, _, rfl, hl, _, l, _⟩ := r1.lst_inv
    have e := intsOf_map hns
    subst e
    rw [l.ints] at hl
    exact cr_sum hc pins s σ H _ us Q I r ⟨a, ns, rfl, by rw [hK]; exact hl, q.int⟩
  | sorted =>
    unfold bltD at hd
    split at hd <;> first | (cases hd; done) | skip
    all_goals first | contradiction | skip
    rotate_left
    · exact sortT_D hK hc pins s σ H vs us Q I r ⟨os, os', W, _, fs, d, rl, hs, hf, ⟨_, _, rfl, hd⟩, hmu, q⟩
    split at hd <;> first | cases hd | skip
    rename_i ns hns
    obtain ⟨v, g, rfl, r1, _⟩ := rl.one
    obtain ⟨a, ws, _, rfl, hl, _, l, _⟩ := r1.lst_inv
    have e := intsOf_map hns
    subst e
    rw [l.ints] at hl
    refine cr_sortedI pins s σ H _ us Q I r ⟨a, ns, rfl, by rw [hK]; exact hl, fun ns' p hp hw hn => ?_⟩
    rw [sortInt_eq hp hw]
    refine VR.newL (ds := (sortInt ns).map .int) (g := []) (by rw [mpL_ints]; exact q) (RlL.ofInts _) hs (fun _ z => nomatch z) hn
  | list =>
    unfold bltD at hd
    split at hd <;> first | cases hd | skip
    all_goals first | contradiction | skip
    · obtain ⟨v, g, rfl, r1, hg⟩ := rl.one
      obtain ⟨a, ws, g1, rfl, hl, _, l, hg1⟩ := r1.lst_inv
      exact call_list_of pins s σ H _ us Q I r ⟨a, ws, rfl, .inl (by rw [hK]; exact hl), fun p hp => VR.newL q l hs (fun b hb => hf b (hg b (hg1 b hb))) hp⟩
    · obtain ⟨v, g, rfl, r1, hg⟩ := rl.one
      obtain ⟨a, ws, rfl, hl, _, l⟩ := r1.tup_inv
      exact call_list_of pins s σ H _ us Q I r ⟨a, ws, rfl, .inr (by rw [hK]; exact hl), fun p hp => VR.newL q l hs (fun b hb => hf b (hg b hb)) hp⟩
    · obtain ⟨v, g, rfl, r1, hg⟩ := rl.one
      obtain ⟨a, ws, _, rfl, h1, l, _⟩ := r1.dk_inv
      refine call_listD hc pins s σ H _ us Q I r ⟨a, ws, rfl, .inl h1, fun p hp => ?_⟩
      refine VR.newL (g := []) (by rw [mpL_keys]; exact q) l.keysR hs (fun _ z => nomatch z) hp
  | int =>
    unfold bltD at hd
    split at hd <;> first | cases hd | skip
    all_goals first | contradiction | skip
    · obtain ⟨v, g, rfl, r1, _⟩ := rl.one
      obtain ⟨rfl, _⟩ := r1.int_inv
      exact call_int1 pins s σ H _ us Q I r (.inl ⟨_, rfl, q.int⟩)
    · obtain ⟨v, g, rfl, r1, _⟩ := rl.one
      obtain ⟨rfl, _⟩ := r1.bl_inv
      exact call_int1 pins s σ H _ us Q I r (.inr ⟨_, rfl, q.int⟩)
  | str =>
    unfold bltD at hd
    split at hd <;> first | contradiction | cases hd
  | max2 =>
    unfold bltD at hd
    split at hd <;> first | cases hd | skip
    all_goals first | contradiction | skip
    obtain ⟨v, u, g, g', rfl, r1, r2, _⟩ := rl.two
    obtain ⟨rfl, _⟩ := r1.int_inv
    obtain ⟨rfl, _⟩ := r2.int_inv
    exact call_max2 hc pins s σ H _ us Q I r ⟨_, _, rfl, q.int⟩
  | min2 =>
    unfold bltD at hd
    split at hd <;> first | cases hd | skip
    all_goals first | contradiction | skip
    obtain ⟨v, u, g, g', rfl, r1, r2, _⟩ := rl.two
    obtain ⟨rfl, _⟩ := r1.int_inv
    obtain ⟨rfl, _⟩ := r2.int_inv
    exact call_min2 hc pins s σ H _ us Q I r ⟨_, _, rfl, q.int⟩
/-! isinstance -/
theorem kit_all {K : Frag} {a t : String} (ha : a ∈ ["NoneType", "bool", "int", "str", "tuple", "list", "dict"]) (ht : t ∈ tysOk) : PySem.W.kitOne K (.type a) (.type t) = some (isiS a t) := by
  simp only [List.mem_cons, List.not_mem_nil, or_false] at ha
  simp only [tysOk, List.mem_cons, List.not_mem_nil, or_false] at ht
  rcases ha with rfl | rfl | rfl | rfl | rfl | rfl | rfl <;> rcases ht with rfl | rfl | rfl | rfl | rfl | rfl <;> rfl
def rIs (C : Kc) (t : String) : List V → Hp → VK → Prop := fun vs H Q => ∃ os W d x f b, vs = [x, .ty t] ∧ Rl C (cut H os) H W x d f ∧ isiD d t = .ok b ∧ Q (.bl b) H
theorem Rl.tyOf {H : Hp} {os W : List Addr} {x : V} {d : D} {f : List Addr} {t : String} {b : Bool} (r : Rl C (cut H os) H W x d f) (h : isiD d t = .ok b) : TyOf C.K H x (.type (tyD d)) ∨ (∃ xs, d = .tup xs) := by
  cases r with
  | non => exact .inl .non
  | bl b => exact .inl (.bl b)
  | int b => exact .inl (.int b)
  | str b => exact .inl (.str b)
  | tup _ _ => exact .inr ⟨_, rfl⟩
  | lstK _ _ => cases h
  | lstS t _ => exact .inl (.lst (cut_some t).1)
  | lstB _ t _ => exact .inl (.lst t)
  | lstO t _ => exact .inl (.lst t)
  | dkS t _ => exact .inl (.dK (cut_some t).1)
  | dkB _ t _ => exact .inl (.dK t)
  | dkO t _ => exact .inl (.dK t)
  | dtS t _ => exact .inl (.dT (cut_some t).1)
  | dtB _ t _ => exact .inl (.dT t)
  | dtO t _ => exact .inl (.dT t)
  | insS _ _ => cases h
  | insB _ _ _ => cases h
  | insO _ _ => cases h
  | insX _ => cases h
theorem isiD_ok {d : D} {t : String} {b : Bool} (h : isiD d t = .ok b) : t ∈ tysOk ∧ tyD d ∈ ["NoneType", "bool", "int", "str", "tuple", "list", "dict"] ∧ b = isiS (tyD d) t := by
  unfold isiD at h
  split at h
  · cases h
  · cases h
  · rename_i hn1 hn2
    split at h
    · rename_i ht
      cases h
      refine ⟨by simpa using ht, ?_, rfl⟩
      cases d with
      | ins m c l => exact absurd rfl (hn1 m c l)
      | _ => simp [tyD]
    · cases h
theorem call_isD (hK : X.K = C.K) (t : String) : CallR X (.builtin "isinstance") (rIs C t) := by
  intro pins s σ H vs us Q I r h
  obtain ⟨os, W, d, x, f, b, rfl, r1, hd, q⟩ := h
  obtain ⟨h1, h2, rfl⟩ := isiD_ok hd
  have k := kit_all (K := X.K) h2 h1
  rcases r1.tyOf hd with z | ⟨xs, rfl⟩
  · exact call_isi pins s σ H _ us Q I r ⟨x, .ty t, _, _, _, rfl, .ty t, .base (by rw [hK]; exact z), k, q⟩
  · obtain ⟨a, ws, rfl, hl, _, l⟩ := r1.tup_inv
    rcases hl with (hl | ⟨o, hl⟩) | ⟨o, its, n, hl, hc, _⟩
    · exact call_isi pins s σ H _ us Q I r ⟨_, .ty t, _, _, _, rfl, .ty t, .base (.tup hl), k, q⟩
    · exact call_isi pins s σ H _ us Q I r ⟨_, .ty t, _, _, _, rfl, .ty t, .fTuple hl, k, q⟩
    · exact call_isi pins s σ H _ us Q I r ⟨_, .ty t, _, _, _, rfl, .ty t, .kTuple (by rw [hK]; exact hl) hc, k, q⟩
/-! places, slices -/
def rIxD (C : Kc) : R2 := fun x y H Q => ∃ os os' W d1 d2 f1 f2 d, Rl C (cut H os) H W x d1 f1 ∧ Rl C (cut H os) H W y d2 f2 ∧ (∀ a ∈ os', a ∈ os) ∧ (∀ a ∈ f1, a ∉ os') ∧ ixD d1 d2 = .ok d ∧ VR C os' W H d Q
theorem atI_map {α β : Type} {xs : List α} {ys : List β} (h : xs.length = ys.length) {i : Int} {y : β} (e : atI ys i = some y) : ∃ j : Nat, ys[j]? = some y ∧ ∀ x, xs[j]? = some x → atI xs i = some x := by
  unfold atI at e ⊢
  rw [h]
  cases q : ixN ys.length i with
  | none => rw [q] at e; cases e
  | some j =>
    rw [q] at e
    exact ⟨j, e, fun x hx => hx⟩
theorem VR.fz {os os' W : List Addr} {H : Hp} {v : V} {d : D} {g : List Addr} {Q : VK} (q : VR C os' W H (fz d) Q) (r : Rl C (cut H os) H W v d g) (hs : ∀ a ∈ os', a ∈ os) (hg : ∀ a ∈ g, a ∉ os') : Q v H :=
  q v H [] (fun _ _ z => z) (r.froze (fun _ _ z => z) hs hg fun _ z => nomatch z) List.nodup_nil fun _ z => nomatch z
open PyProof.Rows in
theorem ix_dict (hu : X.A.units + 1 < cLine) : IxR X (fun x y H Q => ∃ a v, x = .ref a ∧ DGet H a y (some v) ∧ Q v H) := by
  intro value slice pins s σ H x y v u Q I rx ry h hs
  obtain ⟨a, w, rfl, g, q⟩ := h
  obtain rfl : v = Value.ref a := rx
  have hT := dict_typeIs I g
  unfold subscriptTail
  refine wpAny_bind ?_
  rw [getitemInPython_of_ne hT.not_modules]
  refine wpAny_bind (wpAny_specialOf hT PySem.F.slot_dict_getitem.lookup ?_)
  have fin : wpAny (model X.prog X.w) X.A (subscripted slice false (.ref a) u >>= fun r => letTemporaryGo value (.ref a) r >>= fun _ => pure r) (EP X pins σ Q) X.xe s := by
    rw [hs]
    exact wpAny_bind (wpAny_operating (d_getItem hu I g ry fun w' s3 I3 rw' => wpAny_bind (wpAny_letTemporaryGo (wpAny_pure ⟨w, H, I3, rw', q⟩))))
  exact wpAny_pure fin
theorem ix_D (hK : X.K = C.K) (hu : X.A.units + 1 < cLine) : IxR X (rIxD C) := by
  intro value slice pins s σ H x y v u Q I rx ry h hp
  obtain ⟨os, os', W, d1, d2, f1, f2, d, r1, r2, hs, hf, hd, q⟩ := h
  unfold ixD at hd
  split at hd <;> first | (cases hd; done) | skip
  rotate_left 2
  rotate_left
  · unfold dixD at hd
    split at hd <;> first | (cases hd; done) | skip
    rename_i w ho
    cases hd
    obtain ⟨a, ov, rfl, g, z⟩ := r1.dget r2 (Same.refl H) ho
    rcases z with ⟨z, _⟩ | ⟨d0, u0, g0, z1, rfl, z3, z4⟩
    · cases z
    · cases z1
      exact ix_dict hu value slice pins s σ H _ _ v u Q I rx ry ⟨a, u0, rfl, g, VR.fz q z3 hs fun b hb => hf b (z4 b hb)⟩ hp
  rotate_left 2
  · rename_i z i
    obtain ⟨rfl, _⟩ := r2.int_inv
    split at hd <;> first | (cases hd; done) | skip
    rename_i e
    split at hd <;> first | (cases hd; done) | skip
    rename_i ch hch
    cases hd
    obtain ⟨rfl, _⟩ := r1.str_inv
    exact ix_str value slice pins s σ H _ _ v u Q I rx ry ⟨_, i, ch, rfl, rfl, line_le e, hch, q.str⟩ hp
  all_goals
    rename_i l i
    split at hd <;> first | cases hd | skip
    rename_i e he
    obtain ⟨rfl, _⟩ := r2.int_inv
  · obtain ⟨a, ws, rfl, hl, _, l⟩ := r1.tup_inv
    obtain ⟨j, h1, h2⟩ := atI_map l.len he
    obtain ⟨w, g, hw, rw', hg⟩ := l.get h1
    exact ix_tup value slice pins s σ H _ _ v u Q I rx ry ⟨a, ws, i, w, rfl, rfl, by rw [hK]; exact hl, h2 w hw, VR.fz q rw' hs fun b hb => hf b (hg b hb)⟩ hp
  · obtain ⟨a, ws, g1, rfl, hl, _, l, hg1⟩ := r1.lst_inv
    obtain ⟨j, h1, h2⟩ := atI_map l.len he
    obtain ⟨w, g, hw, rw', hg⟩ := l.get h1
    exact ix_list value slice pins s σ H _ _ v u Q I rx ry ⟨a, ws, i, w, rfl, rfl, by rw [hK]; exact hl, h2 w hw, VR.fz q rw' hs fun b hb => hf b (hg1 b (hg b hb))⟩ hp
theorem cutD_fz (l : List D) (lo hi : Option Int) : mpL fzM (cutD l lo hi) = cutD (mpL fzM l) lo hi := by
  unfold cutD
  rw [mpL_eq, mpL_eq, List.map_take, List.map_drop, List.length_map]
theorem RlL.cutV {C : Kc} {B H : Hp} {W : List Addr} {vs : List V} {ds : List D} (h : RlL C B H W vs ds []) (lo hi : Option Int) : RlL C B H W (L2.cutV vs lo hi) (cutD ds lo hi) [] := by
  unfold L2.cutV cutD
  rw [h.len]
  exact RlL.take0 _ (RlL.drop0 _ h)
def rSlD (C : Kc) : V → Option Int → Option Int → Hp → VK → Prop := fun x lo hi H Q => ∃ os os' W d1 f1 d, Rl C (cut H os) H W x d1 f1 ∧ (∀ a ∈ os', a ∈ os) ∧ (∀ a ∈ f1, a ∉ os') ∧ slD d1 lo hi = .ok d ∧ VR C os' W H d Q
theorem sl_D (hK : X.K = C.K) : SlR X (rSlD C) := by
  intro pins s σ H x v vl vu lo hi sl Q I rx hS pl pu h
  obtain ⟨os, os', W, d1, f1, d, r1, hs, hf, hd, q⟩ := h
  unfold slD at hd
  split at hd <;> first | (cases hd; done) | skip
  rotate_left
  · split at hd <;> first | (cases hd; done) | skip
    rename_i e
    cases hd
    obtain ⟨rfl, _⟩ := r1.str_inv
    exact sl_str pins s σ H _ v vl vu lo hi sl Q I rx hS pl pu ⟨_, rfl, line_le e, q.str⟩
  cases hd
  obtain ⟨a, ws, g1, rfl, hl, _, l, hg1⟩ := r1.lst_inv
  refine sl_list pins s σ H _ v vl vu lo hi sl Q I rx hS pl pu ⟨a, ws, rfl, by rw [hK]; exact hl, fun p hp => ?_⟩
  -- the items, frozen, are cut
  rw [cutD_fz] at q
  have fr := l.froze (H' := upd H p (.lst (cutV ws lo hi))) (fq := [p]) (same_new hp) hs (fun b hb => hf b (hg1 b hb)) (fun b hb => by simp at hb; subst hb; exact hp)
  refine q (.ref p) _ [p] (same_new hp) (.lstO (fp := []) upd_same ?_) (by simp) fun b hb => by simp at hb; subst hb; exact hp
  exact fr.cutV lo hi
end
end Pv
/-! Pv5: the text of an expression against E, and that it is worth evE. -/
namespace Pv
open PySem L2 PySem.Spec

structure Gt where
  T : Tb
  fn : Nat → Str
  cn : Nat → Str
  gs : List Nat
  gn : Nat → Str
structure Gx extends Gt where
  P : Program
  w : World
  C : Kc
  mg : Str → Option Value
  base : Heap
instance : Coe Gx Gt := ⟨Gx.toGt⟩
/-- a def's promise -/
def spD (C : Kc) (F : Fm) : Sp := fun vs H Q E => ∃ O ds, RlL C (cut H O) H [] vs ds [] ∧ (∀ a ∈ O, ∃ o, H a = some o ∧ Mutb o) ∧ ds.length = F.ar ∧
  match F.m ds with
  | .ok r => VR C O [] H r Q
  | .exc x => ∀ cls dx H', Same H H' → RlX C (cut H' O) cls dx x → E cls dx H'
  | .bad => False
def scV : D → V
  | .int i => .int i
  | .bl b => .bl b
  | .str s => .str s
  | _ => .non
def isSc : D → Bool
  | .int _ => true
  | .bl _ => true
  | .str _ => true
  | .non => true
  | _ => false
theorem Rl.ofSc {C : Kc} {B H : Hp} {W : List Addr} {d : D} (h : isSc d = true) : Rl C B H W (scV d) d [] := by
  cases d with
  | non => exact .non
  | int i => exact .int i
  | bl i => exact .bl i
  | str i => exact .str i
  | _ => cases h
theorem RlL.ofSc {C : Kc} {B H : Hp} {W : List Addr} : ∀ {ds : List D}, ds.all isSc = true → RlL C B H W (ds.map scV) ds []
  | [], _ => .nil
  | d :: r, h => by
    simp only [List.all_cons, Bool.and_eq_true] at h
    exact .cons (fp := []) (fq := []) (Rl.ofSc h.1) (RlL.ofSc h.2)
/-- the def named nm keeps the promise of F, at level k -/
structure FnI (G : Gx) (k : Nat) (F : Fm) (nm : Str) : Prop where
  ex : ∃ f fd ps, FnOk G.P G.w G.C.K G.mg G.base (L2N.CX G.P G.w) k f fd ps (spD G.C F) ∧ G.mg nm = some (.ref f) ∧ PySem.W.keepIn G.C.K (.ref f) = true ∧ ps.length = F.ar ∧
    (∀ n, n ≤ F.dfl.length → ∃ us, Binds G.C.K fd ps us ∧ Vals ((F.dfl.drop n).map scV) us) ∧ F.dfl.all isSc = true
abbrev FnIs (G : Gx) (k i : Nat) : Prop := FnI G k (G.T.f i) (G.fn i)
/-- the object of the exception at hand: class m, no namespace -/
def ExO (G : Gt) (cl : Nat → Addr) (m : Nat) (oe : Obj) : Prop := m ∈ G.T.xs ∧ L2N.Zn (.ref (cl m)) none oe ∧ ∃ vs, oe.data = .fields vs
/-- the def named nm keeps the promise of F within an except suite, whatever exception is at hand -/
structure FnIH (G : Gx) (k : Nat) (F : Fm) (nm : Str) : Prop where
  ex : ∃ f fd ps, (∀ (m : Nat) (a : Addr) (oe : Obj) (base : Heap), ExO G.toGt G.C.cl m oe → (∀ b o, G.base.get? b = some o → base.get? b = some o) → base.get? a = some oe →
      L2H.FnH G.P G.w G.C.K G.mg base (L2N.CX G.P G.w) k f fd ps (spD ⟨G.C.K, G.C.cl, some (m, a)⟩ (hotF F))) ∧ G.mg nm = some (.ref f) ∧ PySem.W.keepIn G.C.K (.ref f) = true ∧ ps.length = F.ar ∧
    (∀ n, n ≤ F.dfl.length → ∃ us, Binds G.C.K fd ps us ∧ Vals ((F.dfl.drop n).map scV) us) ∧ F.dfl.all isSc = true
abbrev FnIHs (G : Gx) (k i : Nat) : Prop := FnIH G k (G.T.f i) (G.fn i)
/-- the exception at hand in the context -/
structure HotG (G : Gx) (k : Nat) (X : Cx) (m : Nat) (a : Addr) (oe : Obj) : Prop where
  ex : G.C.ex = some (m, a)
  ob : ExO G.toGt G.C.cl m oe
  at_ : ∀ {pins σ H s}, Inv X pins σ H s → s.heap.get? a = some oe ∧ H a = none ∧ a ∉ frs X.stack
  hc : L2H.HotC X
  room : L2H.RoomH k X.A
def isxE : E → Bool
  | .isx _ _ => true
  | .isv _ => true
  | .isxs _ _ => true
  | _ => false
structure Cn where
  N : List Str
  fs : List Nat
  hot : Bool
  rs : List Nat
  hs : List Nat
def bltNames : List Str := ["len", "abs", "sum", "sorted", "list", "int", "str", "max", "min", "isinstance", "range", "bool", "tuple", "dict", "ValueError", "reversed", "enumerate"]
/-! ### the text -/
def visB (sc : Scope) (x : Str) : Bool := match sc.names.lookup x with
  | some .local => true
  | some .cell => true
  | some .free => true
  | _ => false
def nmB (x : Str) : Bool := !(x == ("__debug__" : Str)) && !(x == ("__classdict__" : Str))
def glB (sc : Scope) (x : Str) : Bool := decide (sc.names.lookup x = some .globalImplicit) && !(x == ("__debug__" : Str)) && !(x == ("__name__" : Str))
def bltS : Blt → Str
  | .len => "len" | .abs => "abs" | .sum => "sum" | .sorted => "sorted" | .list => "list" | .int => "int" | .str => "str" | .max2 => "max" | .min2 => "min"
def binOk : Operator → Bool
  | .Add => true | .Sub => true | .Mult => true | .FloorDiv => true | .Mod => true | .Pow => true
  | _ => false
def cmpOk (_ : CmpOp) : Bool := true
/-- a tuple of own classes -/
def ckCs (G : Gt) (sc : Scope) : List Nat → List Expr → Bool
  | [], [] => true
  | n :: ns, .Name m _ :: ys => decide (n ∈ G.T.cs) && decide (m = G.cn n) && glB sc m && ckCs G sc ns ys
  | _, _ => false
mutual
def ckE (G : Gt) (c : Cn) : Scope → E → Expr → Bool
  | sc, .var i, .Name x _ => decide (c.N[i]? = some x) && visB sc x && nmB x
  | _, .int n, .Constant (.int m) _ _ => decide (n = m)
  | _, .str n, .Constant (.str m) _ _ => decide (n = m)
  | _, .bl n, .Constant (.bool m) _ _ => decide (n = m)
  | _, .non, .Constant .none _ _ => true
  | sc, .bin o a b, .BinOp x o' y _ => decide (o = o') && binOk o && ckE G c sc a x && ckE G c sc b y
  | sc, .neg a, .UnaryOp .USub x _ => ckE G c sc a x
  | sc, .cmp o a b, .Compare x [o'] [y] _ => decide (o = o') && cmpOk o && ckE G c sc a x && ckE G c sc b y
  | sc, .nt a, .UnaryOp .Not x _ => ckE G c sc a x
  | sc, .and es, .BoolOp .And (x :: xs) _ => ckL G c sc es (x :: xs)
  | sc, .or es, .BoolOp .Or (x :: xs) _ => ckL G c sc es (x :: xs)
  | sc, .ife t a b, .IfExp z x y _ => ckE G c sc t z && ckE G c sc a x && ckE G c sc b y
  | sc, .tup es, .Tuple xs _ _ => ckL G c sc es xs
  | sc, .lst es, .List xs _ => ckL G c sc es xs
  | sc, .ix a i, .Subscript x y _ => ckE G c sc a x && ckE G c sc i y
  | sc, .sl a lo hi, .Subscript x (.Slice l h none _) _ => ckE G c sc a x && ckO G c sc lo l && ckO G c sc hi h
  | sc, .call i es, .Call (.Name f _) (x :: xs) [] _ => !c.hot && decide (i ∈ c.fs) && decide (f = G.fn i) && glB sc f && ckL G c sc es (x :: xs)
  | sc, .blt f es, .Call (.Name n _) (x :: xs) [] _ => !c.hot && decide (n = bltS f) && glB sc n && ckL G c sc es (x :: xs)
  | sc, .isi a t, .Call (.Name n _) [x, .Name m _] [] _ => decide (n = ("isinstance" : Str)) && decide (m = Str.ofString t) && tysOk.contains t && glB sc n && glB sc m && ckE G c sc a x
  | sc, .lc j src t e, .ListComp elt [⟨.Name x _, iter, ifs, 0⟩] scope _ => !c.hot && ckE G c sc src iter && blkC c.N sc scope [(x, j)] && decide ((relS scope sc).names.lookup x = some .local) && ckL G c (relS scope sc) t ifs && decide (ifs.length ≤ 1) && ckE G c (relS scope sc) e elt
  | sc, .lcr j n t e, .ListComp elt [⟨.Name x _, .Call (.Name r _) [a] [] _, ifs, 0⟩] scope _ => !c.hot && decide (r = ("range" : Str)) && glB sc r && ckE G c sc n a && blkC c.N sc scope [(x, j)] && decide ((relS scope sc).names.lookup x = some .local) && ckL G c (relS scope sc) t ifs && decide (ifs.length ≤ 1) && ckE G c (relS scope sc) e elt
  | sc, .isx i n, .Call (.Name nm _) [.Name x _, .Name m _] [] _ => c.hot && decide (n ∈ G.T.cs) && decide (nm = ("isinstance" : Str)) && decide (c.N[i]? = some x) && decide (m = G.cn n) && glB sc nm && glB sc m && visB sc x && nmB x
  | sc, .isv i, .Call (.Name nm _) [.Name x _, .Name m _] [] _ => c.hot && decide (nm = ("isinstance" : Str)) && decide (c.N[i]? = some x) && decide (m = ("ValueError" : Str)) && glB sc nm && glB sc m && visB sc x && nmB x
  | sc, .isxs i ns, .Call (.Name nm _) [.Name x _, .Tuple ys _ _] [] _ => c.hot && lineOk ns.length && decide (nm = ("isinstance" : Str)) && decide (c.N[i]? = some x) && ckCs G sc ns ys && glB sc nm && visB sc x && nmB x
  | sc, .callH i es, .Call (.Name f _) (x :: xs) [] _ => c.hot && decide (i ∈ c.hs) && decide (f = G.fn i) && glB sc f && ckL G c sc es (x :: xs)
  | sc, .join s e, .Call (.Attribute (.Constant (.str s') _ _) m ap) [y] [] cp => decide (s = s') && decide (m = ("join" : Str)) && (ap.endLine == cp.line) && ckE G c sc e y
  | _, .dct, .Dict [] [] _ => true
  | sc, .dget d k z, .Call (.Attribute (.Name x p) m ap) [y, w] [] cp => decide (m = ("get" : Str)) && (ap.endLine == cp.line) && ckE G c sc d (.Name x p) && ckE G c sc k y && ckE G c sc z w
  | sc, .ditm d, .Call (.Name l _) [.Call (.Attribute (.Name x p) m ap) [] [] cp] [] _ => !c.hot && decide (l = ("list" : Str)) && glB sc l && decide (m = ("items" : Str)) && (ap.endLine == cp.line) && ckE G c sc d (.Name x p)
  | sc, .lrev e, .Call (.Name l _) [.Call (.Name r _) [y] [] _] [] _ => !c.hot && decide (l = ("list" : Str)) && glB sc l && decide (r = ("reversed" : Str)) && glB sc r && ckE G c sc e y
  | sc, .dlst e, .Call (.Name l _) [y] [] _ => !c.hot && decide (l = ("dict" : Str)) && glB sc l && ckE G c sc e y
  | sc, .lct i j src t e, .ListComp elt [⟨.Tuple [.Name x _, .Name y _] _ _, iter, ifs, 0⟩] scope _ => !c.hot && ckE G c sc src iter && blkC c.N sc scope [(x, i), (y, j)] && decide ((relS scope sc).names.lookup x = some .local) && decide ((relS scope sc).names.lookup y = some .local) && ckL G c (relS scope sc) t ifs && decide (ifs.length ≤ 1) && ckE G c (relS scope sc) e elt
  | sc, .glo n, .Name x _ => decide (n ∈ G.gs) && decide (x = G.gn n) && glB sc x
  | _, .dtt, .Dict [] [] _ => true
  | _, _, _ => false
def ckL (G : Gt) (c : Cn) : Scope → E → List Expr → Bool
  | _, .nil, [] => true
  | sc, .cons e es, x :: xs => ckE G c sc e x && ckL G c sc es xs
  | _, _, _ => false
def ckO (G : Gt) (c : Cn) : Scope → E → Option Expr → Bool
  | _, .nil, none => true
  | sc, .cons e .nil, some x => ckE G c sc e x
  | _, _, _ => false
end
def notSt : Expr → Bool
  | .Starred _ _ => false
  | _ => true
theorem ck_notSt {G : Gx} {c : Cn} {sc : Scope} {e : E} {x : Expr} (h : ckE G c sc e x = true) : notSt x = true := by
  cases x <;> first | rfl | (cases e <;> simp [ckE] at h)
theorem ck_nb {G : Gt} {c : Cn} {sc : Scope} {e : E} {x : Expr} {o : CmpOp} (h : ckE G c sc e x = true) : behindInMarks o x = false := by
  cases x <;> first | rfl | (cases e <;> simp [ckE] at h)
theorem star_cons {x : Expr} {es : List Expr} {env : PySem.Env} (h : notSt x = true) : starEach (x :: es) env = (false, eval x env) :: starEach es env := by
  cases x <;> first | rfl | cases h

def noSt (xs : List Expr) : Bool := xs.all notSt
theorem ckL_noSt {G : Gx} {c : Cn} {sc : Scope} : ∀ {e : E} {xs : List Expr}, ckL G c sc e xs = true → noSt xs = true
  | .nil, [], _ => rfl
  | .cons e es, x :: xs, h => by
    simp only [ckL, Bool.and_eq_true] at h
    simp only [noSt, List.all_cons, Bool.and_eq_true]
    exact ⟨ck_notSt h.1, ckL_noSt h.2⟩
theorem star_any {pos : Pos} {env : PySem.Env} : ∀ {xs : List Expr}, noSt xs = true → (backTo pos (starEach xs env)).any (·.1) = false
  | [], _ => rfl
  | x :: xs, h => by
    simp only [noSt, List.all_cons, Bool.and_eq_true] at h
    rw [star_cons h.1]
    show (false || (backTo pos (starEach xs env)).any (·.1)) = false
    rw [Bool.false_or]
    exact star_any h.2
/-! ### the readings -/
def tE (G : Gx) (Wx : WX) (e : E) : TE := fun σ H Q => ∃ env O fp, OkF G.C O env σ H fp ∧ WG G.C (fp ++ O) Wx σ H (evE G.T e env) fun d => VR G.C (fp ++ O) fp H d Q
def tL (G : Gx) (Wx : WX) (e : E) : TA := fun σ H Q => ∃ env O fp, OkF G.C O env σ H fp ∧ WG G.C (fp ++ O) Wx σ H (evL G.T e env) fun d => VRL G.C (fp ++ O) fp H d Q
def tO (G : Gx) (Wx : WX) (e : E) : TO := fun σ H Q => ∃ env O fp, OkF G.C O env σ H fp ∧ WG G.C (fp ++ O) Wx σ H (evL G.T e env >>= oneOpt) fun d => ∀ H', Same H H' → Q d H'
def tB1 (G : Gx) (Wx : WX) (f : Env → Res Bool) : TT := fun σ H Q => ∃ env O fp, OkF G.C O env σ H fp ∧ WG G.C (fp ++ O) Wx σ H (f env) fun d => ∀ H', Same H H' → Q d H'
def tBV (G : Gx) (Wx : WX) (f : Env → Res Bool) : TE := fun σ H Q => ∃ env O fp, OkF G.C O env σ H fp ∧ WG G.C (fp ++ O) Wx σ H (f env) fun d => ∀ H', Same H H' → Q (.bl d) H'
theorem PE.imp {X : Cx} {e : Expr} {t t' : TE} (h : PE X e t) (i : ∀ σ H Q, t' σ H Q → t σ H Q) : PE X e t' := ⟨fun pins s σ H Q I q => h.run pins s σ H Q I (i σ H Q q)⟩
theorem PT.imp {X : Cx} {e : Expr} {t t' : TT} (h : PT X e t) (i : ∀ σ H Q, t' σ H Q → t σ H Q) : PT X e t' := ⟨fun pins s σ H Q I q => h.run pins s σ H Q I (i σ H Q q)⟩
theorem PW.imp {X : Cx} {e : Expr} {t t' : TT} (h : PW X e t) (i : ∀ σ H Q, t' σ H Q → t σ H Q) : PW X e t' := ⟨fun wh pins s σ H Q I q => h.run wh pins s σ H Q I (i σ H Q q)⟩
theorem PA.imp {X : Cx} {e : List Expr} {t t' : TA} (h : PA X e t) (i : ∀ σ H Q, t' σ H Q → t σ H Q) : PA X e t' := ⟨fun p pins s σ H Q I q => h.run p pins s σ H Q I (i σ H Q q)⟩
theorem PO.imp {X : Cx} {e : Option Expr} {t t' : TO} (h : PO X e t) (i : ∀ σ H Q, t' σ H Q → t σ H Q) : PO X e t' := ⟨fun pins s σ H Q I q => h.run pins s σ H Q I (i σ H Q q)⟩
/-- a name of the module that is written once for all -/
def GlF (G : Gx) (n : Nat) : Prop := ∃ u v, G.mg (G.gn n) = some u ∧ RelV v u ∧ ∀ ex B H W, Rl ⟨G.C.K, G.C.cl, ex⟩ B H W v (G.T.gl n) []
structure Good (G : Gx) (c : Cn) (k : Nat) (sc : Scope) (Wx : WX) (X : Cx) : Prop where
  hP : X.prog = G.P
  hw : X.w = G.w
  hK : X.K = G.C.K
  hmg : X.mg = G.mg
  hb : X.base = G.base
  hN : X.N = c.N
  nd : c.N.Nodup
  hsc : X.env.scope = sc
  calm : c.hot = false → X.calm = true
  room : c.hot = false → Room k X.A
  units : X.A.units + 65 < cLine
  tk : L2N.Takes X Wx
  po : PassesOwn (model X.prog X.w) X.A X.env X.xe
  blt : ∀ x ∈ bltNames, G.mg x = none
  glo : ∀ n ∈ G.gs, GlF G n
  fns : ∀ i ∈ c.fs, FnIs G k i
  fnh : ∀ i ∈ c.hs, FnIHs G k i
  hotg : c.hot = true → ∃ m a oe, HotG G k X m a oe
  isx : c.hot = true → ∀ e x, isxE e = true → ckE G c sc e x = true → PE X x (tE G Wx e)

/-- what an expression is worth: as a value, a test, items, a slice's part, the operands of and, or -/
structure Snd (G : Gx) (c : Cn) (k : Nat) (e : E) : Prop where
  E : ∀ {sc Wx X x}, Good G c k sc Wx X → ckE G c sc e x = true → PE X x (tE G Wx e)
  T : ∀ {sc Wx X x}, Good G c k sc Wx X → ckE G c sc e x = true → PT X x (tB1 G Wx (evT G.T e))
  L : ∀ {sc Wx X xs}, Good G c k sc Wx X → ckL G c sc e xs = true → PA X xs (tL G Wx e)
  O : ∀ {sc Wx X o}, Good G c k sc Wx X → ckO G c sc e o = true → PO X o (tO G Wx e)
  I : ∀ {sc Wx X xs}, Good G c k sc Wx X → ckL G c sc e xs = true → xs.length ≤ 1 → PTs X xs (tB1 G Wx (evC G.T e))
  A : ∀ {sc Wx X x xs pos}, Good G c k sc Wx X → ckL G c sc e (x :: xs) = true → PW X (.BoolOp .And (x :: xs) pos) (tB1 G Wx (evA G.T e))
  R : ∀ {sc Wx X x xs pos}, Good G c k sc Wx X → ckL G c sc e (x :: xs) = true → PW X (.BoolOp .Or (x :: xs) pos) (tB1 G Wx (evO G.T e))
  AV : ∀ {sc Wx X x xs pos}, Good G c k sc Wx X → ckL G c sc e (x :: xs) = true → PE X (.BoolOp .And (x :: xs) pos) (tBV G Wx (evAV G.T e))
  RV : ∀ {sc Wx X x xs pos}, Good G c k sc Wx X → ckL G c sc e (x :: xs) = true → PE X (.BoolOp .Or (x :: xs) pos) (tBV G Wx (evOV G.T e))
/-- a test that is worth nothing -/
theorem pt_bad {X : Cx} {G : Gx} {Wx : WX} {x : Expr} {f : Env → Res Bool} (h : ∀ env, f env = .bad) : PT X x (tB1 G Wx f) := ⟨fun _ _ _ _ _ _ ⟨env, O, fp, _, z⟩ => by
  rw [h env] at z
  exact z.elim⟩
theorem pe_bad {X : Cx} {G : Gx} {Wx : WX} {x : Expr} {e : E} (h : ∀ env, evE G.T e env = .bad) : PE X x (tE G Wx e) := ⟨fun _ _ _ _ _ _ ⟨env, O, fp, _, z⟩ => by
  rw [h env] at z
  exact z.elim⟩
section
variable {C : Kc} {O os os' fp fq : List Addr} {env : Env} {σ : St} {H H' : Hp}
/-- fresh addresses are none of those that are there -/
theorem OkF.nf (h : OkF C O env σ H fp) (hf : ∀ a ∈ fq, H a = none) : ∀ a ∈ fq, a ∉ fp ++ O := fun a ha z => by
  obtain ⟨o, e⟩ := h.osd a z
  rw [hf a ha] at e
  cases e
end
/-- an own call, with defaults, by a wish at the slots -/
def tCallD (sp : Sp) (dvs : List V) (E : St → XK) (t : TA) : TE := fun σ H Q => t σ H fun vs H1 => sp (vs ++ dvs) H1 Q (E σ)
theorem pe_callD {X : Cx} {CX : CXT} {k : Nat} {f : Addr} {fd : FuncData} {ps : List Str} {sp : Sp} {dvs : List V} {ds : List Value} {E : St → XK} {x : Str} {p pos : Pos} {e : Expr} {es : List Expr} {t : TA}
    (F : FnOk X.prog X.w X.K X.mg X.base CX k f fd ps sp) (hr : Room k X.A) (hg : Gl X x) (hm : X.mg x = some (.ref f)) (hk : PySem.W.keepIn X.K (.ref f) = true)
    (hb : Binds X.K fd ps ds) (hd : Vals dvs ds) (hx : ∀ σ, PassesAt CX X σ (E σ)) (ha : PA X (e :: es) t) (hdb : (x == ("__debug__" : Str)) = false) (he : noSt (e :: es) = true) :
    PE X (.Call (.Name x p) (e :: es) [] pos) (tCallD sp dvs E t) := by
  refine ⟨fun pins s σ H Q I h => ?_⟩
  refine wpAny_Call_Name_kw (ld_glob I hg hm ?_ hdb)
  have h1 := he
  simp only [noSt, List.all_cons, Bool.and_eq_true] at h1
  refine PySem.W.callWith_K (h₀ := X.base) I.ok.mod.kin hk ?_ (star_cons h1.1) (star_any h1.2)
  refine thn (ha.run pos pins s σ H _ I h) fun us s1 ⟨vs, H1, I1, r, q⟩ => ?_
  refine ⟨I1.kIn, ?_⟩
  have r2 : Vals (vs ++ dvs) (us ++ ds) := r.append hd
  have hl : (us ++ ds).length = ps.length := r2.length.symm.trans (F.len _ _ _ _ q)
  have run := F.run X.A X.stack s1 H1 ⟨us, []⟩ (us ++ ds) (vs ++ dvs) Q (E σ) hr I1.env0 (hb s1 us I1.kIn hl) r2 q
  refine wpAny_call (codeAny_mono run fun r s' hq => ?_)
  match r, hq with
  | .error e, hq => exact hx σ pins H1 s1 e s' I1 hq
  | .ok (.ret u), hq => exact I1.after hq
  | .ok .next, hq => exact False.elim hq
  | .ok .brk, hq => exact False.elim hq
  | .ok .cont, hq => exact False.elim hq
end Pv
/-! Pv6: an expression is worth evE. -/
namespace Pv
open PySem L2 PySem.Spec
section
variable {G : Gx} {c : Cn} {k : Nat}
theorem snd_plain {e : E} (hE : ∀ {sc Wx X x}, Good G c k sc Wx X → ckE G c sc e x = true → PE X x (tE G Wx e)) (hT : ∀ {sc Wx X x}, Good G c k sc Wx X → ckE G c sc e x = true → PT X x (tB1 G Wx (evT G.T e)))
    (nl : ∀ sc xs, ckL G c sc e xs = false) (no : ∀ sc o, ckO G c sc e o = false) : Snd G c k e where
  E := hE
  T := hT
  L := fun _ h => by rw [nl] at h; cases h
  O := fun _ h => by rw [no] at h; cases h
  I := fun _ h _ => by rw [nl] at h; cases h
  A := fun _ h => by rw [nl] at h; cases h
  R := fun _ h => by rw [nl] at h; cases h
  AV := fun _ h => by rw [nl] at h; cases h
  RV := fun _ h => by rw [nl] at h; cases h
theorem getE_ok {env : Env} {i : Nat} {d : D} (h : getE env i = .ok d) : env[i]? = some (some d) := by
  unfold getE at h
  split at h
  · cases h; assumption
  · cases h
theorem getE_ne {env : Env} {i : Nat} (x : Xc) : getE env i ≠ .exc x := by
  unfold getE
  split <;> intro h <;> cases h
theorem truthD_ok {d : D} {b : Bool} (h : truthD d = .ok b) : d = .bl b := by
  unfold truthD at h
  split at h
  · cases h; rfl
  · cases h
theorem truthD_ne {d : D} (x : Xc) : truthD d ≠ .exc x := by
  unfold truthD
  split <;> intro h <;> cases h
/-- a value that is a bool, as a test -/
theorem WG.truth {C : Kc} {os W : List Addr} {Wx : WX} {σ : L2.St} {H : Hp} {r : Res D} {Q : Bool → Hp → Prop} (h : WG C os Wx σ H (r >>= truthD) fun d => ∀ H', Same H H' → Q d H') :
    WG C os Wx σ H r fun d => VR C os W H d fun x H1 => ∃ c, x = .bl c ∧ Q c H1 := by
  refine h.bind (Same.refl H) (fun _ z => z) fun d hd q => ?_
  obtain ⟨b, hb, q⟩ := q.ok truthD_ne
  have e := truthD_ok hb
  subst e
  intro v H1 fq e1 r1 _ _
  obtain ⟨rfl, _⟩ := r1.bl_inv
  exact ⟨b, rfl, q H1 e1⟩
theorem visB_ok {sc : Scope} {x : Str} (h : visB sc x = true) : Vis sc x := by
  unfold visB at h
  unfold Vis
  split at h
  · exact .inl (by assumption)
  · exact .inr (.inl (by assumption))
  · exact .inr (.inr (by assumption))
  · cases h
theorem nmB_ok {x : Str} (h : nmB x = true) : (x == ("__debug__" : Str)) = false ∧ (x == ("__classdict__" : Str)) = false := by
  unfold nmB at h
  simp only [Bool.and_eq_true, Bool.not_eq_true'] at h
  exact h
theorem glB_ok {sc : Scope} {x : Str} (h : glB sc x = true) : sc.names.lookup x = some .globalImplicit ∧ (x == ("__debug__" : Str)) = false ∧ x ≠ "__name__" := by
  unfold glB at h
  simp only [Bool.and_eq_true, Bool.not_eq_true', decide_eq_true_eq] at h
  exact ⟨h.1.1, h.1.2, fun e => by rw [e] at h; simp at h⟩
theorem Good.gl {sc : Scope} {Wx : WX} {X : Cx} (g : Good G c k sc Wx X) {x : Str} (h : glB sc x = true) : Gl X x := by
  show X.env.scope.names.lookup x = _
  rw [g.hsc]
  exact (glB_ok h).1
theorem Good.mgN {sc : Scope} {Wx : WX} {X : Cx} (g : Good G c k sc Wx X) {x : Str} (h : x ∈ bltNames) : X.mg x = none := by
  rw [g.hmg]
  exact g.blt x h
theorem refl_nil {H : Hp} : ∀ b o, H b = some o → H b = some o := fun _ _ e => e
theorem pe_varD {sc : Scope} {Wx : WX} {X : Cx} {i : Nat} {n : Str} {pos : Pos} (g : Good G c k sc Wx X) (h : (decide (c.N[i]? = some n) && visB sc n && nmB n) = true) : PE X (.Name n pos) (tE G Wx (.var i)) := by
  simp only [Bool.and_eq_true, decide_eq_true_eq] at h
  obtain ⟨⟨h1, h2⟩, h3⟩ := h
  obtain ⟨h4, h5⟩ := nmB_ok h3
  refine PE.imp (pe_var (i := i) (by rw [g.hN]; exact h1) (by rw [g.hsc]; exact visB_ok h2) h4 h5) ?_
  rintro σ H Q ⟨env, O, fp, ok, hw⟩
  simp only [evE] at hw
  obtain ⟨d, hd, q⟩ := (hw.ret (Same.refl H) (fun _ z => z) (P' := fun d => VR G.C (fp ++ O) fp H (bo d) Q) fun a _ q => q).ok getE_ne
  obtain ⟨v, fq, hv, r, hq⟩ := ok.rel.get (getE_ok hd)
  exact ⟨v, hv, q v H [] refl_nil (r.bw r.nb hq) List.nodup_nil fun _ z => nomatch z⟩
theorem snd_var (i : Nat) : Snd G c k (.var i) := by
  refine snd_plain (fun {sc Wx X x} g h => ?_) (fun {sc Wx X x} g h => ?_) (fun _ xs => by cases xs <;> rfl) (fun _ o => by cases o <;> rfl)
  · cases x <;> first | (exact pe_varD g h) | (simp [ckE] at h)
  · cases x <;> first | (simp [ckE] at h; done) | skip
    refine PT.imp (pt_val (pe_varD g h)) ?_
    rintro σ H Q ⟨env, O, fp, ok, hw⟩
    refine ⟨env, O, fp, ok, ?_⟩
    simp only [evE, evT] at hw ⊢
    have hw' : WG G.C (fp ++ O) Wx σ H ((do return bo (← getE env i)) >>= truthD) fun d => ∀ H', Same H H' → Q d H' := by
      cases e : getE env i with
      | ok d =>
        rw [e] at hw
        cases d <;> exact hw
      | exc x => rw [e] at hw; exact hw
      | bad => rw [e] at hw; exact hw
    exact hw'.truth
theorem snd_const {e : E} {d : D} {v : V} (hv : ∀ env, evE G.T e env = .ok d) (hr : ∀ {B H : Hp} {W : List Addr}, Rl G.C B H W v d []) (hp : ∀ {sc X x}, ckE G c sc e x = true → PE X x (tC v)) (ht : ∀ env, evT G.T e env = .bad)
    (nl : ∀ sc xs, ckL G c sc e xs = false) (no : ∀ sc o, ckO G c sc e o = false) : Snd G c k e := by
  refine snd_plain (fun {sc Wx X x} g h => ?_) (fun {sc Wx X x} g h => pt_bad ht) nl no
  refine PE.imp (hp h) ?_
  rintro σ H Q ⟨env, O, fp, ok, hw⟩
  rw [hv env] at hw
  exact hw v H [] refl_nil hr List.nodup_nil fun _ z => nomatch z
theorem snd_int (n : Int) : Snd G c k (.int n) := snd_const (d := .int n) (v := .int n) (fun _ => by simp only [evE]) (.int n) (fun {sc X x} h => by
  cases x <;> first | (simp [ckE] at h; done) | skip
  rename_i v _ _
  cases v <;> first | (simp [ckE] at h; done) | skip
  simp only [ckE, decide_eq_true_eq] at h
  subst h
  exact pe_int) (fun _ => by simp only [evT]) (fun _ xs => by cases xs <;> rfl) (fun _ o => by cases o <;> rfl)
theorem snd_str (n : Str) : Snd G c k (.str n) := snd_const (d := .str n) (v := .str n) (fun _ => by simp only [evE]) (.str n) (fun {sc X x} h => by
  cases x <;> first | (simp [ckE] at h; done) | skip
  rename_i v _ _
  cases v <;> first | (simp [ckE] at h; done) | skip
  simp only [ckE, decide_eq_true_eq] at h
  subst h
  exact pe_str) (fun _ => by simp only [evT]) (fun _ xs => by cases xs <;> rfl) (fun _ o => by cases o <;> rfl)
theorem snd_non : Snd G c k .non := snd_const (d := .non) (v := .non) (fun _ => by simp only [evE]) .non (fun {sc X x} h => by
  cases x <;> first | (simp [ckE] at h; done) | skip
  rename_i v _ _
  cases v <;> first | (simp [ckE] at h; done) | skip
  exact pe_non) (fun _ => by simp only [evT]) (fun _ xs => by cases xs <;> rfl) (fun _ o => by cases o <;> rfl)
theorem pe_blD {sc : Scope} {Wx : WX} {X : Cx} {b m : Bool} {j : Nat} {pos : Pos} (h : decide (b = m) = true) : PE X (.Constant (.bool m) j pos) (tE G Wx (.bl b)) := by
  simp only [decide_eq_true_eq] at h
  subst h
  refine PE.imp pe_bl ?_
  rintro σ H Q ⟨env, O, fp, ok, hw⟩
  simp only [evE] at hw
  exact hw (.bl b) H [] refl_nil (.bl b) List.nodup_nil fun _ z => nomatch z
theorem snd_bl (b : Bool) : Snd G c k (.bl b) := by
  refine snd_plain (fun {sc Wx X x} g h => ?_) (fun {sc Wx X x} g h => ?_) (fun _ xs => by cases xs <;> rfl) (fun _ o => by cases o <;> rfl)
  · cases x <;> first | (simp [ckE] at h; done) | skip
    rename_i v _ _
    cases v <;> first | (simp [ckE] at h; done) | skip
    exact pe_blD (sc := sc) h
  · cases x <;> first | (simp [ckE] at h; done) | skip
    rename_i v _ _
    cases v <;> first | (simp [ckE] at h; done) | skip
    refine PT.imp (pt_val (pe_blD (G := G) (Wx := Wx) (sc := sc) h)) ?_
    rintro σ H Q ⟨env, O, fp, ok, hw⟩
    refine ⟨env, O, fp, ok, ?_⟩
    simp only [evE, evT] at hw ⊢
    intro v H1 fq e1 r1 _ _
    obtain ⟨rfl, _⟩ := r1.bl_inv
    exact ⟨b, rfl, hw H1 e1⟩
/-- two operands -/
theorem two {a b : E} {O fp : List Addr} {env : Env} {σ : L2.St} {H : Hp} {Wx : WX} {α : Type} {f : D → D → Res α} {P : α → Prop} {K : V → V → Hp → Prop} (ok : OkF G.C O env σ H fp)
    (hw : WG G.C (fp ++ O) Wx σ H (evE G.T a env >>= fun x => evE G.T b env >>= fun y => f x y) P)
    (kk : ∀ x y v u H2 f1 f2, Same H H2 → Rl G.C (cut H2 (f2 ++ (fp ++ (f1 ++ O)))) H2 fp v x f1 → Rl G.C (cut H2 (f2 ++ (fp ++ (f1 ++ O)))) H2 fp u y f2 → (∀ a ∈ f1 ++ f2, H a = none) → WG G.C (fp ++ O) Wx σ H (f x y) P → K v u H2) :
    tE G Wx a σ H fun v H1 => tE G Wx b σ H1 fun u H2 => K v u H2 := by
  refine ⟨env, O, fp, ok, hw.bind (Same.refl H) (fun _ z => z) fun x hx q => ?_⟩
  intro v H1 f1 e1 r1 n1 g1
  have hd : ∀ a ∈ f1, ∃ o, H1 a = some o ∧ Mutb o := r1.mutb
  refine ⟨env, f1 ++ O, fp, ok.wide e1 g1 hd, q.bind e1 (fun z hz => ?_) fun y hy q2 => ?_⟩
  · rcases List.mem_append.mp hz with hz | hz
    · exact List.mem_append_left _ hz
    · exact List.mem_append_right _ (List.mem_append_right _ hz)
  · intro u H2 f2 e2 r2 n2 g2
    refine kk x y v u H2 f1 f2 (e1.trans e2) (r1.mono (cutS e2 fun z hz => ?_) e2) r2 (fun z hz => ?_) q2
    · rcases List.mem_append.mp hz with hz | hz
      · exact .inr (g2 z hz)
      · rcases List.mem_append.mp hz with hz | hz
        · exact .inl (List.mem_append_right _ (List.mem_append_left _ hz))
        · rcases List.mem_append.mp hz with hz | hz
          · exact .inl (List.mem_append_left _ hz)
          · exact .inl (List.mem_append_right _ (List.mem_append_right _ hz))
    · rcases List.mem_append.mp hz with hz | hz
      · exact g1 z hz
      · exact fresh_b e1 (g2 z hz)
theorem sub4 {f1 f2 fp O : List Addr} : ∀ a ∈ fp ++ O, a ∈ f2 ++ (fp ++ (f1 ++ O)) := fun a ha => by
  rcases List.mem_append.mp ha with h | h
  · exact List.mem_append_right _ (List.mem_append_left _ h)
  · exact List.mem_append_right _ (List.mem_append_right _ (List.mem_append_right _ h))
theorem binD_ne (o : Operator) (a b : D) (x : Xc) : binD o a b ≠ .exc x := by
  intro h
  unfold binD at h
  split at h
  all_goals first
    | (unfold addD at h; split at h <;> first | (cases h; done) | (split at h <;> cases h))
    | (unfold subD at h; split at h <;> cases h)
    | (unfold mulD at h; split at h <;> first | (cases h; done) | (split at h <;> cases h))
    | (unfold fdivD at h; split at h <;> first | (cases h; done) | (split at h <;> cases h))
    | (unfold modD at h; split at h <;> first | (cases h; done) | (split at h <;> cases h))
    | (unfold powD at h; split at h <;> first | (cases h; done) | (split at h <;> cases h))
    | cases h
theorem binOk_ok {o : Operator} (h : binOk o = true) : o = .Add ∨ o = .Sub ∨ o = .Mult ∨ o = .FloorDiv ∨ o = .Mod ∨ o = .Pow := by
  cases o <;> first | (cases h; done) | simp
theorem snd_bin {o : Operator} {a b : E} (ha : Snd G c k a) (hb : Snd G c k b) : Snd G c k (.bin o a b) := by
  refine snd_plain (fun {sc Wx X x} g h => ?_) (fun {sc Wx X x} g h => pt_bad fun _ => by simp only [evT]) (fun _ xs => by cases xs <;> rfl) (fun _ o => by cases o <;> rfl)
  cases x <;> first | (simp [ckE] at h; done) | skip
  simp only [ckE, Bool.and_eq_true, decide_eq_true_eq] at h
  obtain ⟨⟨⟨rfl, h2⟩, h3⟩, h4⟩ := h
  refine PE.imp (pe_op (op_bin (C := G.C) (binOk_ok h2)) (ha.E g h3) (hb.E g h4)) ?_
  rintro σ H Q ⟨env, O, fp, ok, hw⟩
  simp only [evE] at hw
  refine two ok hw fun x y v u H2 f1 f2 e r1 r2 hf q => ?_
  obtain ⟨d, hd, q⟩ := q.ok (binD_ne _ _ _)
  exact ⟨_, fp ++ O, fp, x, y, f1, f2, d, r1, r2, sub4, ok.nf hf, hd, q.weak e fun _ z => z⟩
theorem cmpI_ne {p : Int → Int → Bool} {a b : D} (x : Xc) : cmpI p a b ≠ .exc x := by
  intro h; unfold cmpI at h; split at h <;> cases h
theorem eqD_ne {a b : D} (x : Xc) : eqD a b ≠ .exc x := by
  intro h; unfold eqD deqD at h; split at h <;> first | (cases h; done) | (split at h <;> first | (cases h; done) | (split at h <;> cases h))
theorem isD_ne {a b : D} (x : Xc) : isD a b ≠ .exc x := by
  intro h; unfold isD at h; split at h <;> cases h
theorem notR_ne {r : Res Bool} (hr : ∀ x, r ≠ .exc x) (x : Xc) : notR r ≠ .exc x := by
  cases r with
  | exc y => exact absurd rfl (hr y)
  | ok _ => intro h; cases h
  | bad => intro h; cases h
theorem inD_ne {a b : Pv.D} (x : Xc) : inD a b ≠ .exc x := by
  unfold inD
  split
  · split <;> intro h <;> cases h
  · split <;> intro h <;> cases h
  · unfold dinD
    split <;> intro h <;> cases h
theorem cmpD_ne (o : CmpOp) (a b : D) (x : Xc) : cmpD o a b ≠ .exc x := by
  cases o with
  | Eq => exact eqD_ne x
  | NotEq => exact notR_ne eqD_ne x
  | Lt => exact cmpI_ne x
  | LtE => exact cmpI_ne x
  | Gt => exact cmpI_ne x
  | GtE => exact cmpI_ne x
  | Is => exact isD_ne x
  | IsNot => exact notR_ne isD_ne x
  | In => exact inD_ne x
  | NotIn => exact notR_ne inD_ne x
theorem snd_cmp {o : CmpOp} {a b : E} (ha : Snd G c k a) (hb : Snd G c k b) : Snd G c k (.cmp o a b) := by
  have key : ∀ {Wx : WX} {σ : L2.St} {H : Hp} {Q : Bool → Hp → Prop} {env : Env} {O fp : List Addr}, OkF G.C O env σ H fp → WG G.C (fp ++ O) Wx σ H (evE G.T a env >>= fun x => evE G.T b env >>= fun y => cmpD o x y) (fun d => ∀ H', Same H H' → Q d H') →
      tE G Wx a σ H fun v H1 => tE G Wx b σ H1 fun u H2 => rC G.C o v u H2 fun x H3 => ∃ k, x = .bl k ∧ Q k H3 := fun ok hw => two ok hw fun x y v u H2 f1 f2 e r1 r2 hf q => by
    obtain ⟨d, hd, q⟩ := q.ok (cmpD_ne _ _ _)
    exact ⟨_, _, x, y, f1, f2, d, r1, r2, hd, d, rfl, q H2 e⟩
  refine snd_plain (fun {sc Wx X x} g h => ?_) (fun {sc Wx X x} g h => ?_) (fun _ xs => by cases xs <;> rfl) (fun _ o => by cases o <;> rfl)
  all_goals
    cases x <;> first | (simp [ckE] at h; done) | skip
    rename_i x1 ops ys pos
    match ops, ys, h with
    | [o'], [y], h => ?_
  · simp only [ckE, Bool.and_eq_true, decide_eq_true_eq] at h
    obtain ⟨⟨⟨rfl, h2⟩, h3⟩, h4⟩ := h
    refine PE.imp (pe_cmpR (op_cmp (C := G.C) g.hK g.units) (ha.E g h3) (hb.E g h4) (ck_nb h4)) ?_
    rintro σ H Q ⟨env, O, fp, ok, hw⟩
    simp only [evE] at hw
    refine two ok (f := fun x y => do return D.bl (← cmpD o x y)) hw fun x y v u H2 f1 f2 e r1 r2 hf q => ?_
    obtain ⟨d, hd, q⟩ := (q.ret (Same.refl _) (fun _ z => z) fun _ _ q => q).ok (cmpD_ne _ _ _)
    exact ⟨_, _, x, y, f1, f2, d, r1, r2, hd, (q.weak e fun _ z => z).bl⟩
  · simp only [ckE, Bool.and_eq_true, decide_eq_true_eq] at h
    obtain ⟨⟨⟨rfl, h2⟩, h3⟩, h4⟩ := h
    refine PT.imp (pt_cmpR (op_cmp (C := G.C) g.hK g.units) (ha.E g h3) (hb.E g h4) (ck_nb h4)) ?_
    rintro σ H Q ⟨env, O, fp, ok, hw⟩
    simp only [evT] at hw
    exact key ok hw
end
end Pv
/-! Pv7: an expression is worth evE, further. -/
namespace Pv
open PySem L2 PySem.Spec
section
variable {G : Gx} {c : Cn} {k : Nat}
theorem negD_ne {a : D} (x : Xc) : negD a ≠ .exc x := by
  intro h; unfold negD at h; split at h <;> cases h
/-- one operand -/
theorem one {a : E} {O fp : List Addr} {env : Env} {σ : L2.St} {H : Hp} {Wx : WX} {α : Type} {f : D → Res α} {P : α → Prop} {K : V → Hp → Prop} (ok : OkF G.C O env σ H fp)
    (hw : WG G.C (fp ++ O) Wx σ H (evE G.T a env >>= f) P)
    (kk : ∀ x v H1 f1, Same H H1 → Rl G.C (cut H1 (f1 ++ (fp ++ O))) H1 fp v x f1 → (∀ a ∈ f1, H a = none) → WG G.C (fp ++ O) Wx σ H (f x) P → K v H1) : tE G Wx a σ H K :=
  ⟨env, O, fp, ok, hw.bind (Same.refl H) (fun _ z => z) fun x hx q v H1 f1 e1 r1 _ g1 => kk x v H1 f1 e1 r1 g1 q⟩
theorem snd_neg {a : E} (ha : Snd G c k a) : Snd G c k (.neg a) := by
  refine snd_plain (fun {sc Wx X x} g h => ?_) (fun {sc Wx X x} g h => pt_bad fun _ => by simp only [evT]) (fun _ xs => by cases xs <;> rfl) (fun _ o => by cases o <;> rfl)
  cases x <;> first | (simp [ckE] at h; done) | skip
  rename_i op y pos
  cases op <;> first | (simp [ckE] at h; done) | skip
  simp only [ckE] at h
  refine PE.imp (pe_un un_neg (ha.E g h)) ?_
  rintro σ H Q ⟨env, O, fp, ok, hw⟩
  simp only [evE] at hw
  refine one ok hw fun x v H1 f1 e r1 hf q => ?_
  obtain ⟨d, hd, q⟩ := q.ok negD_ne
  unfold negD at hd
  split at hd <;> first | (cases hd; done) | skip
  cases hd
  obtain ⟨rfl, _⟩ := r1.int_inv
  exact ⟨_, rfl, (q.weak e fun _ z => z).int⟩
theorem snd_nt {a : E} (ha : Snd G c k a) : Snd G c k (.nt a) := by
  refine snd_plain (fun {sc Wx X x} g h => ?_) (fun {sc Wx X x} g h => ?_) (fun _ xs => by cases xs <;> rfl) (fun _ o => by cases o <;> rfl)
  all_goals
    cases x <;> first | (simp [ckE] at h; done) | skip
    rename_i op y pos
    cases op <;> first | (simp [ckE] at h; done) | skip
    simp only [ckE] at h
  · refine PE.imp (pe_not (ha.E g h)) ?_
    rintro σ H Q ⟨env, O, fp, ok, hw⟩
    simp only [evE] at hw
    refine one ok (f := fun x => do return D.bl (!(← truthD x))) hw fun x v H1 f1 e r1 hf q => ?_
    obtain ⟨d, hd, q⟩ := (q.ret (Same.refl _) (fun _ z => z) fun _ _ q => q).ok truthD_ne
    have ed := truthD_ok hd
    subst ed
    obtain ⟨rfl, _⟩ := r1.bl_inv
    exact ⟨_, rfl, (q.weak e fun _ z => z).bl⟩
  · refine PT.imp (pt_not (ha.T g h)) ?_
    rintro σ H Q ⟨env, O, fp, ok, hw⟩
    simp only [evT] at hw
    exact ⟨env, O, fp, ok, hw.ret (Same.refl H) (fun _ z => z) fun b _ q => q⟩
theorem snd_ife {t a b : E} (ht : Snd G c k t) (ha : Snd G c k a) (hb : Snd G c k b) : Snd G c k (.ife t a b) := by
  refine snd_plain (fun {sc Wx X x} g h => ?_) (fun {sc Wx X x} g h => pt_bad fun _ => by simp only [evT]) (fun _ xs => by cases xs <;> rfl) (fun _ o => by cases o <;> rfl)
  cases x <;> first | (simp [ckE] at h; done) | skip
  simp only [ckE, Bool.and_eq_true] at h
  obtain ⟨⟨h1, h2⟩, h3⟩ := h
  refine PE.imp (pe_ifExp (ht.T g h1) (ha.E g h2) (hb.E g h3)) ?_
  rintro σ H Q ⟨env, O, fp, ok, hw⟩
  simp only [evE] at hw
  refine ⟨env, O, fp, ok, hw.bind (Same.refl H) (fun _ z => z) fun b _ q H1 e1 => ?_⟩
  cases b with
  | true =>
    refine iteT ⟨env, O, fp, ok.grow e1, ?_⟩
    exact WG.bind (f := fun d => Res.ok d) (show WG G.C (fp ++ O) Wx σ H (evE G.T a env >>= fun d => Res.ok d) (fun d => VR G.C (fp ++ O) fp H d Q) by
      have q' : WG G.C (fp ++ O) Wx σ H (evE G.T a env) (fun d => VR G.C (fp ++ O) fp H d Q) := q
      cases e : evE G.T a env with
      | ok d => rw [e] at q'; exact q'
      | exc z => rw [e] at q'; exact q'
      | bad => rw [e] at q'; exact q') e1 (fun _ z => z) fun d _ q => q.weak e1 fun _ z => z
  | false =>
    refine iteF ⟨env, O, fp, ok.grow e1, ?_⟩
    exact WG.bind (f := fun d => Res.ok d) (show WG G.C (fp ++ O) Wx σ H (evE G.T b env >>= fun d => Res.ok d) (fun d => VR G.C (fp ++ O) fp H d Q) by
      have q' : WG G.C (fp ++ O) Wx σ H (evE G.T b env) (fun d => VR G.C (fp ++ O) fp H d Q) := q
      cases e : evE G.T b env with
      | ok d => rw [e] at q'; exact q'
      | exc z => rw [e] at q'; exact q'
      | bad => rw [e] at q'; exact q') e1 (fun _ z => z) fun d _ q => q.weak e1 fun _ z => z
theorem WG.id {C : Kc} {os os' : List Addr} {Wx : WX} {σ : L2.St} {H H' : Hp} {α : Type} {r : Res α} {P P' : α → Prop} (h : WG C os Wx σ H r P) (e : Same H H') (ho : ∀ a ∈ os, a ∈ os') (k : ∀ a, r = .ok a → P a → P' a) : WG C os' Wx σ H' r P' := by
  cases r with
  | ok a => exact k a rfl h
  | exc x => exact XR.weak h e ho
  | bad => exact h
theorem WG.nx {C : Kc} {os os' : List Addr} {Wx : WX} {σ : L2.St} {H H' : Hp} {α β : Type} {r : Res α} {f : α → Res β} {P : β → Prop} {P' : α → Prop} (h : WG C os Wx σ H (r >>= f) P) (e : Same H H') (ho : ∀ a ∈ os, a ∈ os') (k : ∀ a, r = .ok a → WG C os Wx σ H (f a) P → P' a) : WG C os' Wx σ H' r P' := h.bind e ho k
/-! ### lists of expressions -/
theorem snd_list {e : E} (ne : ∀ sc x, ckE G c sc e x = false) (hL : ∀ {sc Wx X xs}, Good G c k sc Wx X → ckL G c sc e xs = true → PA X xs (tL G Wx e))
    (hO : ∀ {sc Wx X o}, Good G c k sc Wx X → ckO G c sc e o = true → PO X o (tO G Wx e))
    (hI : ∀ {sc Wx X xs}, Good G c k sc Wx X → ckL G c sc e xs = true → xs.length ≤ 1 → PTs X xs (tB1 G Wx (evC G.T e)))
    (hA : ∀ {sc Wx X x xs pos}, Good G c k sc Wx X → ckL G c sc e (x :: xs) = true → PW X (.BoolOp .And (x :: xs) pos) (tB1 G Wx (evA G.T e)))
    (hR : ∀ {sc Wx X x xs pos}, Good G c k sc Wx X → ckL G c sc e (x :: xs) = true → PW X (.BoolOp .Or (x :: xs) pos) (tB1 G Wx (evO G.T e)))
    (hAV : ∀ {sc Wx X x xs pos}, Good G c k sc Wx X → ckL G c sc e (x :: xs) = true → PE X (.BoolOp .And (x :: xs) pos) (tBV G Wx (evAV G.T e)))
    (hRV : ∀ {sc Wx X x xs pos}, Good G c k sc Wx X → ckL G c sc e (x :: xs) = true → PE X (.BoolOp .Or (x :: xs) pos) (tBV G Wx (evOV G.T e))) : Snd G c k e where
  E := fun _ h => by rw [ne] at h; cases h
  T := fun _ h => by rw [ne] at h; cases h
  L := hL
  O := hO
  I := hI
  A := hA
  R := hR
  AV := hAV
  RV := hRV
theorem snd_nil : Snd G c k .nil := by
  refine snd_list (fun _ x => by cases x <;> rfl) (fun {sc Wx X xs} g h => ?_) (fun {sc Wx X o} g h => ?_) (fun {sc Wx X xs} g h hl => ?_) (fun {sc Wx X x xs pos} g h => ?_) (fun {sc Wx X x xs pos} g h => ?_) (fun {sc Wx X x xs pos} g h => ?_) (fun {sc Wx X x xs pos} g h => ?_)
  · cases xs <;> first | (simp [ckL] at h; done) | skip
    refine PA.imp pa_nil ?_
    rintro σ H Q ⟨env, O, fp, ok, hw⟩
    simp only [evL] at hw
    exact hw [] H [] refl_nil .nil List.nodup_nil fun _ z => nomatch z
  · cases o <;> first | (simp [ckO] at h; done) | skip
    refine PO.imp po_none ?_
    rintro σ H Q ⟨env, O, fp, ok, hw⟩
    simp only [evL] at hw
    exact hw H refl_nil
  · cases xs <;> first | (simp [ckL] at h; done) | skip
    refine ⟨fun pins s σ H Q I ⟨env, O, fp, ok, hw⟩ => pts_nil.run pins s σ H Q I ?_⟩
    simp only [evC] at hw
    exact hw H refl_nil
  all_goals simp [ckL] at h
theorem ckL_nil {sc : Scope} {es : E} (h : ckL G c sc es [] = true) : es = .nil := by
  cases es <;> first | (simp [ckL] at h; done) | rfl
theorem ckL_cons {sc : Scope} {es : E} {y : Expr} {ys : List Expr} (h : ckL G c sc es (y :: ys) = true) : ∃ e1 e2, es = .cons e1 e2 := by
  cases es <;> first | (simp [ckL] at h; done) | exact ⟨_, _, rfl⟩
theorem snd_cons {e es : E} (he : Snd G c k e) (hs : Snd G c k es) : Snd G c k (.cons e es) := by
  refine snd_list (fun _ x => by cases x <;> rfl) (fun {sc Wx X xs} g h => ?_) (fun {sc Wx X o} g h => ?_) (fun {sc Wx X xs} g h hl => ?_) (fun {sc Wx X x xs pos} g h => ?_) (fun {sc Wx X x xs pos} g h => ?_) (fun {sc Wx X x xs pos} g h => ?_) (fun {sc Wx X x xs pos} g h => ?_)
  · cases xs <;> first | (simp [ckL] at h; done) | skip
    rename_i x xs
    simp only [ckL, Bool.and_eq_true] at h
    refine PA.imp (pa_cons (he.E g h.1) (hs.L g h.2) (star_cons (ck_notSt h.1))) ?_
    rintro σ H Q ⟨env, O, fp, ok, hw⟩
    simp only [evL] at hw
    refine ⟨env, O, fp, ok, hw.bind (Same.refl H) (fun _ z => z) fun x hx q => ?_⟩
    intro v H1 f1 e1 r1 n1 g1
    have hd : ∀ a ∈ f1, ∃ o, H1 a = some o ∧ Mutb o := r1.mutb
    refine ⟨env, f1 ++ O, fp, ok.wide e1 g1 hd, q.bind e1 (fun z hz => ?_) fun l hl q2 => ?_⟩
    · rcases List.mem_append.mp hz with hz | hz
      · exact List.mem_append_left _ hz
      · exact List.mem_append_right _ (List.mem_append_right _ hz)
    · intro vs H2 f2 e2 r2 n2 g2
      refine q2 (v :: vs) H2 (f1 ++ f2) (e1.trans e2) (.cons (r1.mono (cutS e2 fun z hz => ?_) e2) (r2.mono (cutS (Same.refl _) fun z hz => ?_) (Same.refl _))) ?_ fun z hz => ?_
      · rcases List.mem_append.mp hz with hz | hz
        · rcases List.mem_append.mp hz with hz | hz
          · exact .inl (List.mem_append_left _ hz)
          · exact .inr (g2 z hz)
        · exact .inl (List.mem_append_right _ hz)
      · left
        rcases List.mem_append.mp hz with hz | hz
        · rcases List.mem_append.mp hz with hz | hz
          · exact List.mem_append_right _ (List.mem_append_right _ (List.mem_append_left _ hz))
          · exact List.mem_append_left _ hz
        · exact sub4 z hz
      · refine List.nodup_append.mpr ⟨n1, n2, fun a ha b hb e => ?_⟩
        subst e
        obtain ⟨o, q, _⟩ := hd a ha
        rw [g2 a hb] at q
        cases q
      · rcases List.mem_append.mp hz with hz | hz
        · exact g1 z hz
        · exact fresh_b e1 (g2 z hz)
  · cases es <;> first | (simp [ckO] at h; done) | skip
    cases o <;> first | (simp [ckO] at h; done) | skip
    simp only [ckO] at h
    refine PO.imp (po_some (he.E g h)) ?_
    rintro σ H Q ⟨env, O, fp, ok, hw⟩
    simp only [evL] at hw
    have hw' : WG G.C (fp ++ O) Wx σ H (evE G.T e env >>= fun d => oneOpt [d]) fun d => ∀ H', Same H H' → Q d H' := by
      cases z : evE G.T e env with
      | ok d => rw [z] at hw; exact hw
      | exc y => rw [z] at hw; exact hw
      | bad => rw [z] at hw; exact hw
    refine one ok hw' fun x v H1 f1 e r1 hf q => ?_
    cases x <;> first | (exact (show False from q).elim) | skip
    obtain ⟨rfl, _⟩ := r1.int_inv
    exact ⟨_, rfl, q H1 e⟩
  · cases xs <;> first | (simp [ckL] at h; done) | skip
    rename_i x xs
    simp only [ckL, Bool.and_eq_true] at h
    cases xs with
    | cons _ _ => simp at hl
    | nil =>
      have en := ckL_nil h.2
      subst en
      refine ⟨fun pins s σ H Q I ⟨env, O, fp, ok, hw⟩ => (pts_one (he.T g h.1)).run pins s σ H Q I ?_⟩
      simp only [evC] at hw
      exact ⟨env, O, fp, ok, hw⟩
  · simp only [ckL, Bool.and_eq_true] at h
    cases xs with
    | nil =>
      have en := ckL_nil h.2
      subst en
      refine PW.imp (pw_and1 (he.T g h.1)) ?_
      rintro σ H Q ⟨env, O, fp, ok, hw⟩
      simp only [evA] at hw
      refine ⟨env, O, fp, ok, hw.bind (Same.refl H) (fun _ z => z) fun b _ q => ?_⟩
      cases b <;> exact q
    | cons y ys =>
      obtain ⟨e1, e2, rfl⟩ := ckL_cons h.2
      refine PW.imp (pw_and (he.T g h.1) (hs.A g h.2)) ?_
      rintro σ H Q ⟨env, O, fp, ok, hw⟩
      rw [evA] at hw
      case x_2 => exact fun z => nomatch z
      refine ⟨env, O, fp, ok, hw.bind (Same.refl H) (fun _ z => z) fun b _ q H1 e1 => ?_⟩
      cases b with
      | true => exact iteT ⟨env, O, fp, ok.grow e1, WG.id (show WG G.C (fp ++ O) Wx σ H (evA G.T _ env) _ from q) e1 (fun _ z => z) fun d _ q H2 e2 => q H2 (e1.trans e2)⟩
      | false => exact iteF (q H1 e1)
  · simp only [ckL, Bool.and_eq_true] at h
    cases xs with
    | nil =>
      have en := ckL_nil h.2
      subst en
      refine PW.imp (pw_or1 (he.T g h.1)) ?_
      rintro σ H Q ⟨env, O, fp, ok, hw⟩
      simp only [evO] at hw
      refine ⟨env, O, fp, ok, hw.bind (Same.refl H) (fun _ z => z) fun b _ q => ?_⟩
      cases b <;> exact q
    | cons y ys =>
      obtain ⟨e1, e2, rfl⟩ := ckL_cons h.2
      refine PW.imp (pw_or (he.T g h.1) (hs.R g h.2)) ?_
      rintro σ H Q ⟨env, O, fp, ok, hw⟩
      rw [evO] at hw
      case x_2 => exact fun z => nomatch z
      refine ⟨env, O, fp, ok, hw.bind (Same.refl H) (fun _ z => z) fun b _ q H1 e1 => ?_⟩
      cases b with
      | true => exact iteT (q H1 e1)
      | false => exact iteF ⟨env, O, fp, ok.grow e1, WG.id (show WG G.C (fp ++ O) Wx σ H (evO G.T _ env) _ from q) e1 (fun _ z => z) fun d _ q H2 e2 => q H2 (e1.trans e2)⟩
  · simp only [ckL, Bool.and_eq_true] at h
    cases xs with
    | nil =>
      have en := ckL_nil h.2
      subst en
      refine PE.imp (pe_one (he.E g h.1)) ?_
      rintro σ H Q ⟨env, O, fp, ok, hw⟩
      simp only [evAV] at hw
      refine ⟨env, O, fp, ok, ?_⟩
      cases z : evE G.T e env with
      | ok d =>
        rw [z] at hw
        cases d <;> first | (exact (show False from hw).elim) | skip
        rename_i b
        intro v H1 fq e1 r1 _ _
        obtain ⟨rfl, _⟩ := r1.bl_inv
        cases b <;> exact hw H1 e1
      | exc y => rw [z] at hw; exact hw
      | bad => rw [z] at hw; exact hw
    | cons y ys =>
      obtain ⟨e1, e2, rfl⟩ := ckL_cons h.2
      refine PE.imp (pe_and (he.E g h.1) (hs.AV g h.2)) ?_
      rintro σ H Q ⟨env, O, fp, ok, hw⟩
      rw [evAV] at hw
      case x_2 => exact fun z => nomatch z
      refine ⟨env, O, fp, ok, ?_⟩
      cases z : evE G.T e env with
      | ok d =>
        rw [z] at hw
        cases d <;> first | (exact (show False from hw).elim) | skip
        rename_i b
        intro v H1 fq e1 r1 _ _
        obtain ⟨rfl, _⟩ := r1.bl_inv
        refine ⟨b, rfl, ?_⟩
        cases b with
        | true => exact iteT ⟨env, O, fp, ok.grow e1, WG.id (show WG G.C (fp ++ O) Wx σ H (evAV G.T _ env) _ from hw) e1 (fun _ z => z) fun d _ q H2 e2 => q H2 (e1.trans e2)⟩
        | false => exact iteF (hw H1 e1)
      | exc y => rw [z] at hw; exact hw
      | bad => rw [z] at hw; exact hw
  · simp only [ckL, Bool.and_eq_true] at h
    cases xs with
    | nil =>
      have en := ckL_nil h.2
      subst en
      refine PE.imp (pe_one (he.E g h.1)) ?_
      rintro σ H Q ⟨env, O, fp, ok, hw⟩
      simp only [evOV] at hw
      refine ⟨env, O, fp, ok, ?_⟩
      cases z : evE G.T e env with
      | ok d =>
        rw [z] at hw
        cases d <;> first | (exact (show False from hw).elim) | skip
        rename_i b
        intro v H1 fq e1 r1 _ _
        obtain ⟨rfl, _⟩ := r1.bl_inv
        cases b <;> exact hw H1 e1
      | exc y => rw [z] at hw; exact hw
      | bad => rw [z] at hw; exact hw
    | cons y ys =>
      obtain ⟨e1, e2, rfl⟩ := ckL_cons h.2
      refine PE.imp (pe_or (he.E g h.1) (hs.RV g h.2)) ?_
      rintro σ H Q ⟨env, O, fp, ok, hw⟩
      rw [evOV] at hw
      case x_2 => exact fun z => nomatch z
      refine ⟨env, O, fp, ok, ?_⟩
      cases z : evE G.T e env with
      | ok d =>
        rw [z] at hw
        cases d <;> first | (exact (show False from hw).elim) | skip
        rename_i b
        intro v H1 fq e1 r1 _ _
        obtain ⟨rfl, _⟩ := r1.bl_inv
        refine ⟨b, rfl, ?_⟩
        cases b with
        | true => exact iteT (hw H1 e1)
        | false => exact iteF ⟨env, O, fp, ok.grow e1, WG.id (show WG G.C (fp ++ O) Wx σ H (evOV G.T _ env) _ from hw) e1 (fun _ z => z) fun d _ q H2 e2 => q H2 (e1.trans e2)⟩
      | exc y => rw [z] at hw; exact hw
      | bad => rw [z] at hw; exact hw
theorem snd_and {es : E} (hs : Snd G c k es) : Snd G c k (.and es) := by
  refine snd_plain (fun {sc Wx X x} g h => ?_) (fun {sc Wx X x} g h => ?_) (fun _ xs => by cases xs <;> rfl) (fun _ o => by cases o <;> rfl)
  all_goals
    cases x <;> first | (simp [ckE] at h; done) | skip
    rename_i op xs pos
    cases op <;> cases xs <;> first | (simp [ckE] at h; done) | skip
    simp only [ckE] at h
  · refine PE.imp (hs.AV g h) ?_
    rintro σ H Q ⟨env, O, fp, ok, hw⟩
    simp only [evE] at hw
    exact ⟨env, O, fp, ok, hw.ret (Same.refl H) (fun _ z => z) fun b _ q H1 e1 => (q.weak e1 fun _ z => z).bl⟩
  · refine PT.imp (PW.pt (hs.A g h)) ?_
    rintro σ H Q ⟨env, O, fp, ok, hw⟩
    simp only [evT] at hw
    exact ⟨env, O, fp, ok, hw⟩
theorem snd_or {es : E} (hs : Snd G c k es) : Snd G c k (.or es) := by
  refine snd_plain (fun {sc Wx X x} g h => ?_) (fun {sc Wx X x} g h => ?_) (fun _ xs => by cases xs <;> rfl) (fun _ o => by cases o <;> rfl)
  all_goals
    cases x <;> first | (simp [ckE] at h; done) | skip
    rename_i op xs pos
    cases op <;> cases xs <;> first | (simp [ckE] at h; done) | skip
    simp only [ckE] at h
  · refine PE.imp (hs.RV g h) ?_
    rintro σ H Q ⟨env, O, fp, ok, hw⟩
    simp only [evE] at hw
    exact ⟨env, O, fp, ok, hw.ret (Same.refl H) (fun _ z => z) fun b _ q H1 e1 => (q.weak e1 fun _ z => z).bl⟩
  · refine PT.imp (PW.pt (hs.R g h)) ?_
    rintro σ H Q ⟨env, O, fp, ok, hw⟩
    simp only [evT] at hw
    exact ⟨env, O, fp, ok, hw⟩
theorem snd_tup {es : E} (hs : Snd G c k es) : Snd G c k (.tup es) := by
  refine snd_plain (fun {sc Wx X x} g h => ?_) (fun {sc Wx X x} g h => pt_bad fun _ => by simp only [evT]) (fun _ xs => by cases xs <;> rfl) (fun _ o => by cases o <;> rfl)
  cases x <;> first | (simp [ckE] at h; done) | skip
  simp only [ckE] at h
  refine PE.imp (pe_tup (hs.L g h)) ?_
  rintro σ H Q ⟨env, O, fp, ok, hw⟩
  simp only [evE] at hw
  refine ⟨env, O, fp, ok, hw.bind (Same.refl H) (fun _ z => z) fun l _ q vs H1 f1 e1 r1 n1 g1 => ?_⟩
  by_cases hl : lineOk l.length = true
  · rw [if_pos hl] at q
    refine ⟨by rw [r1.len]; exact line_le hl, fun p hp => ?_⟩
    have q' : VR G.C (fp ++ O) fp H (.tup (mpL fzM l)) Q := q
    refine (q'.weak e1 fun _ z => z).newT r1 (fun a ha => List.mem_append_right _ ha) (fun a ha => ok.nf g1 a ha) hp fun hm => ?_
    obtain ⟨o, z⟩ := ok.osd p hm
    rw [fresh_b e1 hp] at z
    cases z
  · rw [if_neg hl] at q
    exact (show False from q).elim
theorem snd_lst {es : E} (hs : Snd G c k es) : Snd G c k (.lst es) := by
  refine snd_plain (fun {sc Wx X x} g h => ?_) (fun {sc Wx X x} g h => pt_bad fun _ => by simp only [evT]) (fun _ xs => by cases xs <;> rfl) (fun _ o => by cases o <;> rfl)
  cases x <;> first | (simp [ckE] at h; done) | skip
  simp only [ckE] at h
  refine PE.imp (pe_lst (hs.L g h)) ?_
  rintro σ H Q ⟨env, O, fp, ok, hw⟩
  simp only [evE] at hw
  refine ⟨env, O, fp, ok, hw.bind (Same.refl H) (fun _ z => z) fun l _ q vs H1 f1 e1 r1 n1 g1 => ?_⟩
  by_cases hl : lineOk l.length = true
  · rw [if_pos hl] at q
    refine ⟨by rw [r1.len]; exact line_le hl, fun p hp => ?_⟩
    have q' : VR G.C (fp ++ O) fp H (.lst .own (mpL fzM l)) Q := q
    exact (q'.weak e1 fun _ z => z).newL r1 (fun a ha => List.mem_append_right _ ha) (fun a ha => ok.nf g1 a ha) hp
  · rw [if_neg hl] at q
    exact (show False from q).elim
theorem ixD_ne {a b : D} (x : Xc) : ixD a b ≠ .exc x := by
  intro h; unfold ixD at h; split at h <;> first | (cases h; done) | (unfold dixD at h; split at h <;> cases h) | (split at h <;> first | (cases h; done) | (split at h <;> cases h))
theorem plainIx_ck {sc : Scope} {e : E} {x : Expr} (h : ckE G c sc e x = true) : PlainIx x := by
  cases x <;> first | (intro _ _; rfl) | (cases e <;> simp [ckE] at h)
theorem snd_ix {a i : E} (ha : Snd G c k a) (hi : Snd G c k i) : Snd G c k (.ix a i) := by
  refine snd_plain (fun {sc Wx X x} g h => ?_) (fun {sc Wx X x} g h => pt_bad fun _ => by simp only [evT]) (fun _ xs => by cases xs <;> rfl) (fun _ o => by cases o <;> rfl)
  cases x <;> first | (simp [ckE] at h; done) | skip
  simp only [ckE, Bool.and_eq_true] at h
  refine PE.imp (pe_ix (ix_D (C := G.C) g.hK (Nat.lt_of_le_of_lt (Nat.add_le_add_left (show 1 ≤ 65 by decide) _) g.units)) (ha.E g h.1) (hi.E g h.2) (plainIx_ck h.2)) ?_
  rintro σ H Q ⟨env, O, fp, ok, hw⟩
  simp only [evE] at hw
  refine two ok hw fun x y v u H2 f1 f2 e r1 r2 hf q => ?_
  obtain ⟨d, hd, q⟩ := q.ok ixD_ne
  exact ⟨_, fp ++ O, fp, x, y, f1, f2, d, r1, r2, sub4, fun b hb => ok.nf hf b (List.mem_append_left _ hb), hd, q.weak e fun _ z => z⟩
theorem slD_ne {a : D} {l h : Option Int} (x : Xc) : slD a l h ≠ .exc x := by
  intro h; unfold slD at h; split at h <;> first | (cases h; done) | (split at h <;> cases h)
theorem snd_sl {a lo hi : E} (ha : Snd G c k a) (hl : Snd G c k lo) (hh : Snd G c k hi) : Snd G c k (.sl a lo hi) := by
  refine snd_plain (fun {sc Wx X x} g h => ?_) (fun {sc Wx X x} g h => pt_bad fun _ => by simp only [evT]) (fun _ xs => by cases xs <;> rfl) (fun _ o => by cases o <;> rfl)
  cases x <;> first | (simp [ckE] at h; done) | skip
  rename_i v sl pos
  cases sl <;> first | (simp [ckE] at h; done) | skip
  rename_i l u st p2
  cases st <;> first | (simp [ckE] at h; done) | skip
  simp only [ckE, Bool.and_eq_true] at h
  obtain ⟨⟨h1, h2⟩, h3⟩ := h
  refine PE.imp (pe_slice (sl_D (C := G.C) g.hK) (ha.E g h1) (hl.O g h2) (hh.O g h3)) ?_
  rintro σ H Q ⟨env, O, fp, ok, hw⟩
  simp only [evE] at hw
  refine ⟨env, O, fp, ok, hw.bind (Same.refl H) (fun _ z => z) fun x hx q => ?_⟩
  intro v H1 f1 e1 r1 n1 g1
  have hd : ∀ a ∈ f1, ∃ o, H1 a = some o ∧ Mutb o := r1.mutb
  have sub : ∀ z ∈ fp ++ O, z ∈ fp ++ (f1 ++ O) := fun z hz => (List.mem_append.mp hz).elim (List.mem_append_left _) fun hz => List.mem_append_right _ (List.mem_append_right _ hz)
  have as1 : ∀ {α : Type} (r : Res (List D)) (f : Option Int → Res α), (r >>= fun x => oneOpt x >>= f) = ((r >>= oneOpt) >>= f) := fun r f => by cases r <;> rfl
  have q0 : WG G.C (fp ++ O) Wx σ H ((evL G.T lo env >>= oneOpt) >>= fun l => (evL G.T hi env >>= oneOpt) >>= fun h => slD x l h) (fun d => VR G.C (fp ++ O) fp H d Q) := by
    rw [← as1]
    simp only [← as1]
    exact q
  refine ⟨env, f1 ++ O, fp, ok.wide e1 g1 hd, q0.bind e1 sub fun l _ q1 H2 e2 => ?_⟩
  refine ⟨env, f1 ++ O, fp, ok.wide (e1.trans e2) g1 (fun a ha => let ⟨o, z, m⟩ := hd a ha; ⟨o, e2 a o z, m⟩), q1.bind (e1.trans e2) sub fun h _ q2 H3 e3 => ?_⟩
  obtain ⟨d, hd, q2⟩ := q2.ok slD_ne
  have e13 := e2.trans e3
  refine ⟨f1 ++ (fp ++ O), fp ++ O, fp, x, f1, d, r1.mono (cut_mono e13) e13, fun a ha => List.mem_append_right _ ha, ok.nf g1, hd, q2.weak (e1.trans e13) fun _ z => z⟩
theorem bltD_ne {f : Blt} {ds : List D} (x : Xc) : bltD f ds ≠ .exc x := by
  intro h; unfold bltD at h; split at h <;> first | (cases h; done) | (split at h <;> cases h) | (unfold srtT at h; split at h <;> first | (cases h; done) | (split at h <;> cases h))
theorem bltS_in (f : Blt) : bltS f ∈ bltNames := by
  cases f <;> simp [bltS, bltNames]
theorem boot_blt (f : Blt) : bootBuiltins (bltS f) = some (bltV f) := by
  cases f <;> decide +kernel
theorem pe_callV {X : Cx} {x : Str} {p pos : Pos} {e : Expr} {es : List Expr} {t : TA} {v : Value} {r : List V → Hp → VK → Prop} (hv : (∃ id, v = .builtin id) ∨ ∃ T, v = .type T) (hc : CallR X v r) (hg : Gl X x) (hm : X.mg x = none) (hb : bootBuiltins x = some v) (ha : PA X (e :: es) t)
    (hn : x ≠ "__name__") (hd : (x == ("__debug__" : Str)) = false) (hs : noSt (e :: es) = true) : PE X (.Call (.Name x p) (e :: es) [] pos) (tCB r t) := by
  have h1 := hs
  simp only [noSt, List.all_cons, Bool.and_eq_true] at h1
  rcases hv with ⟨id, rfl⟩ | ⟨T, rfl⟩
  · exact pe_callB hc hg hm hb ha hn hd (star_cons h1.1) (star_any h1.2)
  · exact pe_callTy hc hg hm hb ha hn hd (star_cons h1.1) (star_any h1.2)
theorem snd_blt {f : Blt} {es : E} (hs : Snd G c k es) : Snd G c k (.blt f es) := by
  refine snd_plain (fun {sc Wx X x} g h => ?_) (fun {sc Wx X x} g h => pt_bad fun _ => by simp only [evT]) (fun _ xs => by cases xs <;> rfl) (fun _ o => by cases o <;> rfl)
  cases x <;> first | (simp [ckE] at h; done) | skip
  rename_i fn xs kws pos
  cases fn <;> first | (simp [ckE] at h; done) | skip
  cases xs <;> cases kws <;> first | (simp [ckE] at h; done) | skip
  rename_i n p y ys
  simp only [ckE, Bool.and_eq_true, Bool.not_eq_true', decide_eq_true_eq] at h
  obtain ⟨⟨⟨hh, rfl⟩, h2⟩, h3⟩ := h
  obtain ⟨k1, k2, k3⟩ := glB_ok h2
  refine PE.imp (pe_callV (by cases f <;> first | exact .inl ⟨_, rfl⟩ | exact .inr ⟨_, rfl⟩) (call_blt (C := G.C) g.hK (g.calm hh) f) (g.gl h2) (g.mgN (bltS_in f)) (boot_blt f) (hs.L g h3) k3 k2 (ckL_noSt h3)) ?_
  rintro σ H Q ⟨env, O, fp, ok, hw⟩
  simp only [evE] at hw
  refine ⟨env, O, fp, ok, hw.bind (Same.refl H) (fun _ z => z) fun l _ q vs H1 f1 e1 r1 n1 g1 => ?_⟩
  obtain ⟨d, hd, q⟩ := q.ok bltD_ne
  exact ⟨_, fp ++ O, fp, l, f1, d, r1, fun a ha => List.mem_append_right _ ha, ok.nf g1, hd, (ok.grow e1).osm, q.weak e1 fun _ z => z⟩
theorem isiD_ne {d : D} {t : String} (x : Xc) : isiD d t ≠ .exc x := by
  intro h
  unfold isiD at h
  split at h <;> first | (cases h; done) | (split at h <;> cases h)
theorem boot_ty {t : String} (h : t ∈ tysOk) : bootBuiltins (Str.ofString t) = some (.type t) ∧ Str.ofString t ∈ bltNames ∧ (Str.ofString t == ("__debug__" : Str)) = false ∧ Str.ofString t ≠ ("__name__" : Str) := by
  simp only [tysOk, List.mem_cons, List.not_mem_nil, or_false] at h
  rcases h with rfl | rfl | rfl | rfl | rfl | rfl <;> exact ⟨by decide +kernel, by simp [bltNames], by decide +kernel, by decide +kernel⟩
theorem pe_isi {a : E} {t : String} (ha : Snd G c k a) {sc : Scope} {Wx : WX} {X : Cx} {x : Expr} (g : Good G c k sc Wx X) (h : ckE G c sc (.isi a t) x = true) :
    ∃ y p p2 pos, x = .Call (.Name "isinstance" p) [y, .Name (Str.ofString t) p2] [] pos ∧ PE X x (tCB (rIs G.C t) (tCons (tE G Wx a) (tCons (tC (.ty t)) tNil))) := by
  cases x <;> first | (simp [ckE] at h; done) | skip
  rename_i fn xs kws pos
  cases fn <;> first | (simp [ckE] at h; done) | skip
  rename_i n p
  match xs, kws, h with
  | [y, .Name m p2], [], h =>
    simp only [ckE, Bool.and_eq_true, decide_eq_true_eq] at h
    obtain ⟨⟨⟨⟨⟨rfl, rfl⟩, h1⟩, h2⟩, h3⟩, h4⟩ := h
    have ht : t ∈ tysOk := by simpa using h1
    obtain ⟨b1, b2, b3, b4⟩ := boot_ty ht
    refine ⟨y, p, p2, pos, rfl, ?_⟩
    exact pe_callB (call_isD (C := G.C) g.hK t) (g.gl h2) (g.mgN (by simp [bltNames])) PyProof.Rows.boot_isinstance (pa_cons (ha.E g h4) (pa_cons (pe_bltn (g.gl h3) (g.mgN b2) b1 rfl b4 b3) pa_nil) (star_cons (ck_notSt h4))) (by decide) (by decide) (star_cons (ck_notSt h4)) rfl
theorem snd_isi {a : E} {t : String} (ha : Snd G c k a) : Snd G c k (.isi a t) := by
  refine snd_plain (fun {sc Wx X x} g h => ?_) (fun {sc Wx X x} g h => ?_) (fun _ xs => by cases xs <;> rfl) (fun _ o => by cases o <;> rfl)
  · obtain ⟨y, p, p2, pos, rfl, pe⟩ := pe_isi ha g h
    refine PE.imp pe ?_
    rintro σ H Q ⟨env, O, fp, ok, hw⟩
    simp only [evE] at hw
    refine one ok (f := fun x => do return D.bl (← isiD x t)) hw fun x v H1 f1 e r1 hf q => ?_
    obtain ⟨d, hd, q⟩ := (q.ret (Same.refl _) (fun _ z => z) fun _ _ q => q).ok isiD_ne
    exact ⟨_, fp, x, v, f1, d, rfl, r1, hd, (q.weak e fun _ z => z).bl⟩
  · obtain ⟨y, p, p2, pos, rfl, pe⟩ := pe_isi ha g h
    refine PT.imp (pt_val pe) ?_
    rintro σ H Q ⟨env, O, fp, ok, hw⟩
    simp only [evT] at hw
    refine one ok hw fun x v H1 f1 e r1 hf q => ?_
    obtain ⟨d, hd, q⟩ := q.ok isiD_ne
    exact ⟨_, fp, x, v, f1, d, rfl, r1, hd, d, rfl, q H1 e⟩
end
end Pv
/-! Pv8: calls and comprehensions; every expression. -/
namespace Pv
open PySem L2 PySem.Spec
section
variable {G : Gx} {c : Cn} {k : Nat}
theorem evL_len {T : Tb} {sc : Scope} {env : Env} : ∀ {es : E} {xs : List Expr} {ds : List D}, ckL G c sc es xs = true → evL T es env = .ok ds → ds.length = xs.length
  | .nil, [], ds, _, h => by
    simp only [evL] at h
    cases h; rfl
  | .cons e es, x :: xs, ds, hc, h => by
    simp only [ckL, Bool.and_eq_true] at hc
    simp only [evL] at h
    cases z : evE T e env with
    | ok d =>
      rw [z] at h
      cases z2 : evL T es env with
      | ok l =>
        rw [z2] at h
        cases h
        simp [evL_len hc.2 z2]
      | exc y => rw [z2] at h; cases h
      | bad => rw [z2] at h; cases h
    | exc y => rw [z] at h; cases h
    | bad => rw [z] at h; cases h
/-- what is no tuple is no one of a clean thing's tuples -/
theorem sqT_cut2 {H : Hp} {o1 o2 : List Addr} {a : Addr} {xs : List V} (h : cut H o1 a = some (.tup xs)) (ho : ∀ b ∈ o2, b ∈ o1 ∨ ∃ o, H b = some o ∧ Mutb o) : cut H o2 a = some (.tup xs) := by
  have key : ∀ o, cut H o1 a = some o → ¬ Mutb o → cut H o2 a = some o := fun o q nm => by
    obtain ⟨q1, q2⟩ := cut_some q
    rw [cut_out]
    · exact q1
    · intro z
      rcases ho a z with z | ⟨o', q', m⟩
      · exact q2 z
      · rw [q1] at q'
        cases q'
        exact nm m
  exact key _ h fun z => z
theorem RlX.cln {C : Kc} {H : Hp} {o1 o2 : List Addr} {cls : Value} {dx : Option Addr} {x : Xc} (h : RlX C (cut H o1) cls dx x) (hc : amF isOwn x.fs = true) (ho : ∀ b ∈ o2, b ∈ o1 ∨ ∃ o, H b = some o ∧ Mutb o) : RlX C (cut H o2) cls dx x := by
  obtain ⟨h1, h2⟩ := h
  refine ⟨h1, h2.imp (fun z => z) fun ⟨a, vs, q0, q1, q2, q3⟩ => ⟨a, vs, q0, q1, ?_, q3.clnF (fun a xs t => sqT_cut2 t ho) hc⟩⟩
  obtain ⟨e1, e2⟩ := cut_some q2
  rw [cut_out]
  · exact e1
  · intro z
    rcases ho a z with z | ⟨o', q', m⟩
    · exact e2 z
    · rw [e1] at q'
      cases q'
      exact m
/-- the call's reading -/
theorem callD_rd {F : Fm} {sp2 : Nat} {vs : List V} {ds : List D} {O fp fa : List Addr} {env : Env} {σ : L2.St} {H H1 : Hp} {Wx : WX} {Q : VK} (ok : OkF G.C O env σ H fp) (e1 : Same H H1) (r1 : RlL G.C (cut H1 (fa ++ (fp ++ O))) H1 fp vs ds fa) (g1 : ∀ a ∈ fa, H a = none)
    (ha : ds.length ≤ F.ar ∧ F.ar ≤ ds.length + F.dfl.length) (hs : F.dfl.all isSc = true) (q : WG G.C (fp ++ O) Wx σ H (callD F ds) fun d => VR G.C (fp ++ O) fp H d Q) :
    spD G.C F (vs ++ (F.dfl.drop (ds.length + F.dfl.length - F.ar)).map scV) H1 Q (WE Wx σ) := by
  unfold callD at q
  rw [if_pos ha] at q
  have hl : (mpL shM ds ++ F.dfl.drop (ds.length + F.dfl.length - F.ar)).length = F.ar := by
    rw [List.length_append, mpL_eq, List.length_map, List.length_drop]
    omega
  have hsd : (F.dfl.drop (ds.length + F.dfl.length - F.ar)).all isSc = true := List.all_eq_true.mpr fun d hd => List.all_eq_true.mp hs d (List.mem_of_mem_drop hd)
  have nf := ok.nf g1
  by_cases hb : amL noBrwM ds = true
  · refine ⟨fp ++ O, _, ?_, fun a ha => let ⟨o, z, m⟩ := ok.osm a ha; ⟨o, e1 a o z, m⟩, hl, ?_⟩
    · refine RlL.app (f := []) (g := []) ((RlL.keep (W' := []) (Same.refl _) r1 hb fun a _ o z => z).sh (cut_sub fun a ha => List.mem_append_right _ ha) (fun _ z => (List.not_mem_nil z).elim) fun a ha o z => ?_) (RlL.ofSc hsd)
      rw [cut_out (nf a ha)]
      exact z
    · cases hm : F.m (mpL shM ds ++ F.dfl.drop (ds.length + F.dfl.length - F.ar)) with
      | ok r =>
        rw [hm] at q
        simp only [hb, Bool.true_or, if_true] at q
        intro v H' fq e' r' nd g'
        exact q v H' fq (e1.trans e') (r'.wm fun _ z => (List.not_mem_nil z).elim) nd fun a ha => fresh_b e1 (g' a ha)
      | exc x =>
        rw [hm] at q
        simp only [hb, Bool.true_or, if_true] at q
        intro cls dx H' e' r'
        exact q cls dx H' (e1.trans e') r'
      | bad => rw [hm] at q; exact q
  · have fpm : ∀ {H' : Hp}, Same H1 H' → ∀ b ∈ fp, ∃ o, H' b = some o ∧ Mutb o := fun e' b hb => by
      obtain ⟨o, z, m⟩ := ok.rel.mutb b hb
      exact ⟨o, e' b o (e1 b o z), m⟩
    refine ⟨O, _, ?_, fun a ha => let ⟨o, z, m⟩ := ok.od a ha; ⟨o, e1 a o z, m⟩, hl, ?_⟩
    · refine RlL.app (f := []) (g := []) (r1.sh (cut_sub fun a ha => List.mem_append_right _ (List.mem_append_right _ ha)) (fun a ha o z => ?_) fun a ha o z => ?_) (RlL.ofSc hsd)
      · rw [cut_out (ok.dj a ha)]
        exact z
      · rw [cut_out fun y => nf a ha (List.mem_append_right _ y)]
        exact z
    · cases hm : F.m (mpL shM ds ++ F.dfl.drop (ds.length + F.dfl.length - F.ar)) with
      | ok r =>
        rw [hm] at q
        simp only [hb, Bool.false_or] at q
        by_cases hc : clean r = true
        · rw [if_pos hc] at q
          intro v H' fq e' r' nd g'
          refine q v H' fq (e1.trans e') (r'.cln (fun a xs t => sqT_cut2 t fun b hb => ?_) hc) nd fun a ha => fresh_b e1 (g' a ha)
          rcases List.mem_append.mp hb with hb | hb
          · exact .inl (List.mem_append_left _ hb)
          · rcases List.mem_append.mp hb with hb | hb
            · exact .inr (fpm e' b hb)
            · exact .inl (List.mem_append_right _ hb)
        · rw [if_neg hc] at q
          exact q.elim
      | exc x =>
        rw [hm] at q
        simp only [hb, Bool.false_or] at q
        by_cases hc : amF isOwn x.fs = true
        · rw [if_pos hc] at q
          intro cls dx H' e' r'
          refine q cls dx H' (e1.trans e') (r'.cln hc fun b hb => ?_)
          rcases List.mem_append.mp hb with hb | hb
          · exact .inr (fpm e' b hb)
          · exact .inl hb
        · rw [if_neg hc] at q
          exact q.elim
      | bad => rw [hm] at q; exact q
theorem callD_bad {F : Fm} {ds : List D} (h : ¬ (ds.length ≤ F.ar ∧ F.ar ≤ ds.length + F.dfl.length)) : callD F ds = .bad := by
  unfold callD
  rw [if_neg h]
theorem pe_callO {i : Nat} {es : E} (hs : Snd G c k es) {sc : Scope} {Wx : WX} {X : Cx} {f : Str} {x : Expr} {xs : List Expr} {p pos : Pos} (g : Good G c k sc Wx X)
    (h : (!c.hot && decide (i ∈ c.fs) && decide (f = G.fn i) && glB sc f && ckL G c sc es (x :: xs)) = true) : PE X (.Call (.Name f p) (x :: xs) [] pos) (tE G Wx (.call i es)) := by
  simp only [Bool.and_eq_true, Bool.not_eq_true', decide_eq_true_eq] at h
  obtain ⟨⟨⟨⟨hh, h1⟩, rfl⟩, h2⟩, h3⟩ := h
  obtain ⟨k1, k2, k3⟩ := glB_ok h2
  obtain ⟨fa, fd, ps, F, hm, hk, hl, hb, hsc⟩ := (g.fns i h1).ex
  by_cases ha : (x :: xs).length ≤ (G.T.f i).ar ∧ (G.T.f i).ar ≤ (x :: xs).length + (G.T.f i).dfl.length
  · obtain ⟨us, B, V⟩ := hb ((x :: xs).length + (G.T.f i).dfl.length - (G.T.f i).ar) (by omega)
    have F' : FnOk X.prog X.w X.K X.mg X.base (L2N.CX X.prog X.w) k fa fd ps (spD G.C (G.T.f i)) := by
      rw [g.hP, g.hw, g.hK, g.hmg, g.hb]; exact F
    refine PE.imp (pe_callD F' (g.room hh) (g.gl h2) (by rw [g.hmg]; exact hm) (by rw [g.hK]; exact hk) (by rw [g.hK]; exact B) V (fun σ => L2N.passAt g.tk σ) (hs.L g h3) k2 (ckL_noSt h3)) ?_
    rintro σ H Q ⟨env, O, fp, ok, hw⟩
    simp only [evE] at hw
    refine ⟨env, O, fp, ok, hw.bind (Same.refl H) (fun _ z => z) fun l hl q vs H1 f1 e1 r1 n1 g1 => ?_⟩
    have hn := evL_len h3 hl
    rw [← hn]
    exact callD_rd (sp2 := 0) ok e1 r1 g1 (by rw [hn]; exact ha) hsc q
  · refine ⟨fun pins s σ H Q I ⟨env, O, fp, ok, hw⟩ => ?_⟩
    simp only [evE] at hw
    cases z : evL G.T es env with
    | ok l =>
      rw [z] at hw
      have hn := evL_len h3 z
      rw [show (Res.ok l >>= fun l => callD (G.T.f i) l) = callD (G.T.f i) l from rfl, callD_bad (by rw [hn]; exact ha)] at hw
      exact hw.elim
    | exc y =>
      -- an argument raises: the call is never made; the arguments' reading tells it
      rw [z] at hw
      have hA := (hs.L g h3)
      have h4 := ckL_noSt h3
      simp only [noSt, List.all_cons, Bool.and_eq_true] at h4
      refine wpAny_Call_Name_kw (ld_glob I (g.gl h2) (by rw [g.hmg]; exact hm) ?_ k2)
      refine PySem.W.callWith_K (h₀ := X.base) I.ok.mod.kin (by rw [g.hK]; exact hk) ?_ (star_cons h4.1) (star_any h4.2)
      refine thn (hA.run pos pins s σ H (fun _ _ => False) I ⟨env, O, fp, ok, ?_⟩) fun us s1 ⟨vs, H1, I1, r, q⟩ => q.elim
      rw [z]
      exact hw
    | bad => rw [z] at hw; exact hw.elim
theorem snd_call {i : Nat} {es : E} (hs : Snd G c k es) : Snd G c k (.call i es) := by
  refine snd_plain (fun {sc Wx X x} g h => ?_) (fun {sc Wx X x} g h => ?_) (fun _ xs => by cases xs <;> rfl) (fun _ o => by cases o <;> rfl)
  all_goals
    cases x <;> first | (simp [ckE] at h; done) | skip
    rename_i fn xs kws pos
    cases fn <;> first | (simp [ckE] at h; done) | skip
    cases xs <;> cases kws <;> first | (simp [ckE] at h; done) | skip
    simp only [ckE] at h
  · exact pe_callO hs g h
  · refine PT.imp (pt_val (pe_callO hs g h)) ?_
    rintro σ H Q ⟨env, O, fp, ok, hw⟩
    refine ⟨env, O, fp, ok, ?_⟩
    simp only [evT] at hw
    simp only [evE]
    refine WG.truth ?_
    cases z : evL G.T es env with
    | ok l => rw [z] at hw; exact hw
    | exc y => rw [z] at hw; exact hw
    | bad => rw [z] at hw; exact hw
/-- the heap h with one object more -/
def extH (h : Heap) (n : Nat) (a : Addr) (oe : Obj) : Heap := { h with objs := Array.ofFn (n := n) fun i => if i.val = a then oe else (h.get? i.val).getD { cls := .none, dict := none, data := .freed } }
theorem heap_ix {h : Heap} {b : Addr} {o : Obj} (e : h.objs[b]? = some o) (nf : o.data ≠ .freed) : h.get? b = some o := by
  unfold Heap.get?
  rw [e]
  obtain ⟨c, d, dt, sl⟩ := o
  cases dt <;> first | rfl | exact absurd rfl nf
theorem heap_nf {h : Heap} {b : Addr} {o : Obj} (e : h.get? b = some o) : h.objs[b]? = some o ∧ o.data ≠ .freed := by
  unfold Heap.get? at e
  split at e
  · cases e
  · rename_i hx
    refine ⟨e, fun z => ?_⟩
    obtain ⟨c, d, dt, sl⟩ := o
    simp only at z
    subst z
    exact hx _ _ _ e
theorem extH_at {h : Heap} {n : Nat} {a : Addr} {oe : Obj} (ha : a < n) (nf : oe.data ≠ .freed) : (extH h n a oe).get? a = some oe := by
  refine heap_ix ?_ nf
  show (Array.ofFn _)[a]? = _
  rw [Array.getElem?_ofFn, dif_pos ha]
  simp
theorem extH_keep {h : Heap} {n : Nat} {a b : Addr} {oe o : Obj} (hn : h.objs.size ≤ n) (hb : b = a → o = oe) (e : h.get? b = some o) : (extH h n a oe).get? b = some o := by
  have hl : b < n := Nat.lt_of_lt_of_le (Heap.lt_size e) hn
  refine heap_ix ?_ (heap_nf e).2
  show (Array.ofFn _)[b]? = _
  rw [Array.getElem?_ofFn, dif_pos hl]
  by_cases z : b = a
  · simp only [z, if_true]
    rw [hb z]
  · simp only [z, if_false]
    rw [e]
    rfl
theorem extH_back {h : Heap} {n : Nat} {a b : Addr} {oe o : Obj} (e : (extH h n a oe).get? b = some o) : (b = a ∧ o = oe) ∨ h.get? b = some o := by
  obtain ⟨e1, e2⟩ := heap_nf e
  replace e1 : (Array.ofFn _)[b]? = some o := e1
  rw [Array.getElem?_ofFn] at e1
  split at e1
  · by_cases z : b = a
    · simp only [z, if_true, Option.some.injEq] at e1
      exact .inl ⟨z, e1.symm⟩
    · simp only [z, if_false, Option.some.injEq] at e1
      cases q : h.get? b with
      | some u =>
        rw [q] at e1
        exact .inr (by rw [← e1]; rfl)
      | none =>
        rw [q] at e1
        rw [← e1] at e2
        exact absurd rfl e2
  · cases e1
theorem mod_ext {K : PySem.W.Frag} {mg : Str → Option Value} {h h' : Heap} (m : Mod K mg h) (k : ∀ b o, h.get? b = some o → h'.get? b = some o) : Mod K mg h' where
  kin := m.kin.keeps k
  glob := m.glob.keeps k
  blt := let ⟨mb, q, r⟩ := m.blt; ⟨mb, q.keeps k, r⟩
  nolimit := m.nolimit.keeps k
theorem env0_ext {P : Program} {w : World} {K : PySem.W.Frag} {mg : Str → Option Value} {base : Heap} {A : Around} {outer : List PySem.Env} {s : Shared} {H : Hp} {a : Addr} {oe : Obj} (e0 : Env0 P w K mg base A outer s H) (ha : s.heap.get? a = some oe) (hf : H a = none) (ho : a ∉ frs outer) :
    (∀ b o, base.get? b = some o → (extH base s.heap.objs.size a oe).get? b = some o) ∧ (extH base s.heap.objs.size a oe).get? a = some oe ∧ Env0 P w K mg (extH base s.heap.objs.size a oe) A outer s H := by
  have k : ∀ b o, base.get? b = some o → (extH base s.heap.objs.size a oe).get? b = some o := fun b o e => extH_keep e0.bsz (fun z => by
    subst z
    have q := (e0.bs _ _ e).1
    rw [ha] at q
    cases q
    rfl) e
  refine ⟨k, extH_at (Heap.lt_size ha) (heap_nf ha).2, ⟨e0.frames, mod_ext e0.mod k, fun b o e => ?_, ?_, ?_, e0.frf, e0.hok, e0.bare⟩⟩
  · rcases extH_back e with ⟨rfl, rfl⟩ | z
    · exact ⟨ha, hf⟩
    · exact e0.bs b o z
  · show (Array.ofFn _).size ≤ _
    rw [Array.size_ofFn]
    exact Nat.le_refl _
  · refine funFrames_none e0.funs fun L hL => ?_
    cases q : (extH base s.heap.objs.size a oe).get? L with
    | none => rfl
    | some o =>
      rcases extH_back q with ⟨rfl, _⟩ | z
      · exact absurd hL ho
      · rw [(e0.funs.mem hL).1] at z
        cases z
/-- a call within an except suite -/
theorem pe_callHo {i : Nat} {es : E} (hs : Snd G c k es) {sc : Scope} {Wx : WX} {X : Cx} {f : Str} {x : Expr} {xs : List Expr} {p pos : Pos} (g : Good G c k sc Wx X)
    (h : (c.hot && decide (i ∈ c.hs) && decide (f = G.fn i) && glB sc f && ckL G c sc es (x :: xs)) = true) : PE X (.Call (.Name f p) (x :: xs) [] pos) (tE G Wx (.callH i es)) := by
  simp only [Bool.and_eq_true, decide_eq_true_eq] at h
  obtain ⟨⟨⟨⟨hh, h1⟩, rfl⟩, h2⟩, h3⟩ := h
  obtain ⟨k1, k2, k3⟩ := glB_ok h2
  obtain ⟨m, a, oe, hg⟩ := g.hotg hh
  obtain ⟨fa, fd, ps, F, hm, hk, hl, hb, hsc⟩ := (g.fnh i h1).ex
  have hA := hs.L g h3
  have h4 := ckL_noSt h3
  simp only [noSt, List.all_cons, Bool.and_eq_true] at h4
  refine ⟨fun pins s σ H Q I ⟨env, O, fp, ok, hw⟩ => ?_⟩
  simp only [evE] at hw
  refine wpAny_Call_Name_kw (ld_glob I (g.gl h2) (by rw [g.hmg]; exact hm) ?_ k2)
  refine PySem.W.callWith_K (h₀ := X.base) I.ok.mod.kin (by rw [g.hK]; exact hk) ?_ (star_cons h4.1) (star_any h4.2)
  by_cases ha : (x :: xs).length ≤ (G.T.f i).ar ∧ (G.T.f i).ar ≤ (x :: xs).length + (G.T.f i).dfl.length
  · refine thn (hA.run pos pins s σ H (fun vs H1 => spD G.C (hotF (G.T.f i)) (vs ++ ((G.T.f i).dfl.drop ((x :: xs).length + (G.T.f i).dfl.length - (G.T.f i).ar)).map scV) H1 Q (WE Wx σ)) I ⟨env, O, fp, ok, hw.bind (Same.refl H) (fun _ z => z) fun l hl q vs H1 f1 e1 r1 n1 g1 => ?_⟩) fun us s1 ⟨vs, H1, I1, r, q⟩ => ?_
    · have hn := evL_len h3 hl
      rw [← hn]
      exact callD_rd (F := hotF (G.T.f i)) (sp2 := 0) ok e1 r1 g1 (by rw [hn]; exact ha) hsc q
    · refine ⟨I1.kIn, ?_⟩
      obtain ⟨us2, B, V⟩ := hb ((x :: xs).length + (G.T.f i).dfl.length - (G.T.f i).ar) (by omega)
      obtain ⟨A1, A2, A3⟩ := hg.at_ I1
      obtain ⟨E1, E2, E3⟩ := env0_ext I1.env0 A1 A2 A3
      have F' : L2H.FnH X.prog X.w X.K X.mg (extH X.base s1.heap.objs.size a oe) (L2N.CX X.prog X.w) k fa fd ps (spD ⟨G.C.K, G.C.cl, some (m, a)⟩ (hotF (G.T.f i))) := by
        rw [g.hP, g.hw, g.hK, g.hmg]
        exact F m a oe _ hg.ob (by rw [← g.hb]; exact E1) E2
      have hC : (⟨G.C.K, G.C.cl, some (m, a)⟩ : Kc) = G.C := by
        have := hg.ex
        cases hh : G.C with
        | mk K cl ex =>
          rw [hh] at this
          simp only at this
          rw [this]
      rw [hC] at F'
      have r2 : Vals (vs ++ ((G.T.f i).dfl.drop ((x :: xs).length + (G.T.f i).dfl.length - (G.T.f i).ar)).map scV) (us ++ us2) := r.append V
      have hl2 : (us ++ us2).length = ps.length := r2.length.symm.trans (F'.len _ _ _ _ q)
      obtain ⟨pp, hot, hp⟩ := hg.hc
      have P1 := I1.pin pp (List.mem_append_left _ hp)
      have hpin : L2H.PinOk X.stack H1 s1 pp := ⟨P1.1, P1.2.1, fun z => (List.mem_cons.mp (I1.stkSub _ z)).elim P1.2.2.1 P1.2.2.2.1, P1.2.2.2.2⟩
      have bd := B s1 us (by rw [← g.hK]; exact I1.kIn) hl2
      refine wpAny_call (codeAny_mono (F'.run X.A X.stack s1 H1 ⟨us, []⟩ (us ++ us2) _ Q (WE Wx σ) pp hg.room hot hpin E3 bd r2 q) fun r s' hq => ?_)
      match r, hq with
      | .error e, hq => exact L2N.passAt g.tk σ pins H1 s1 e s' I1 hq
      | .ok (.ret u), hq => exact I1.after hq
      | .ok .next, hq => exact False.elim hq
      | .ok .brk, hq => exact False.elim hq
      | .ok .cont, hq => exact False.elim hq
  · refine thn (hA.run pos pins s σ H (fun _ _ => False) I ⟨env, O, fp, ok, ?_⟩) fun us s1 ⟨vs, H1, I1, r, q⟩ => q.elim
    cases z : evL G.T es env with
    | ok l =>
      rw [z] at hw
      have hn := evL_len h3 z
      rw [show (Res.ok l >>= fun l => callD (hotF (G.T.f i)) l) = callD (hotF (G.T.f i)) l from rfl, callD_bad (F := hotF (G.T.f i)) (by rw [hn]; exact ha)] at hw
      exact hw.elim
    | exc y =>
      rw [z] at hw
      exact hw
    | bad => rw [z] at hw; exact hw.elim
theorem snd_callH {i : Nat} {es : E} (hs : Snd G c k es) : Snd G c k (.callH i es) := by
  refine snd_plain (fun {sc Wx X x} g h => ?_) (fun {sc Wx X x} g h => ?_) (fun _ xs => by cases xs <;> rfl) (fun _ o => by cases o <;> rfl)
  all_goals
    cases x <;> first | (simp [ckE] at h; done) | skip
    rename_i fn xs kws pos
    cases fn <;> first | (simp [ckE] at h; done) | skip
    cases xs <;> cases kws <;> first | (simp [ckE] at h; done) | skip
    simp only [ckE] at h
  · exact pe_callHo hs g h
  · refine PT.imp (pt_val (pe_callHo hs g h)) ?_
    rintro σ H Q ⟨env, O, fp, ok, hw⟩
    refine ⟨env, O, fp, ok, ?_⟩
    simp only [evT] at hw
    simp only [evE]
    refine WG.truth ?_
    cases z : evL G.T es env with
    | ok l => rw [z] at hw; exact hw
    | exc y => rw [z] at hw; exact hw
    | bad => rw [z] at hw; exact hw
end
end Pv
/-! Pv23: list(reversed(x)), below the expressions. -/
namespace Pv
open PySem PySem.Spec PyProof.Rows L2
section
variable {prog : Program} {w : World} {A : Around} {E : Value → Shared → Prop} {s : Shared}
theorem initRev {R : Result → Shared → Prop} {it l S : Addr} {items : Array Value} (hh : A.handled = none) (hit : s.heap.IsRevIter it l ((items.size : Int) - 1)) (hl : s.heap.IsList l items) (hne : l ≠ it) (hn : items.size ≤ sizeLine)
    (hS : s.heap.get? S = some { cls := .type "list", data := .seq #[] }) (hSi : S ≠ it) (hSl : S ≠ l)
    (hR : ∀ (h' : Heap) (tk : Nat) (acc : Array Value) (c : Nat), (∀ b o, b ≠ S → b ≠ it → s.heap.get? b = some o → h'.get? b = some o) → h'.get? S = some { cls := .type "list", dict := none, data := .seq acc c, slots := #[] } →
      ItemsOf (fun i v => items[items.size - 1 - i]? = some v) acc items.size → R (.ok (.ret .none)) { s with heap := h', toks := tk }) :
    wpAny (model prog w) A.in1 (Builtin.«list.__init__» ⟨[.ref S, .ref it], []⟩)
      (fun fin s' => match fin with | .done f => R (.ok f) s' | .again c' => c'.quiet = true ∧ codeAny (model prog w) A c' R s') (fun e s' => R (.error e) s') s := by
  have W := (Walks.listRev (prog := prog) (w := w) (A := A.in1) hh it l hne items).toS
  have hSf : S ∉ [it, l] := fun z => by
    rcases List.mem_cons.mp z with z | z
    · exact hSi z
    · exact hSl (List.mem_singleton.mp z)
  have oth : ∀ b o, b ≠ S → s.heap.get? b = some o → (s.heap.update S (Obj.mapSeq (fun _ => (#[] : Array Value)))).get? b = some o := fun b o hb e => by
    rw [Heap.get?_update_other _ _ (Ne.symm hb)]; exact e
  have hS2 := Heap.get?_update_self (Obj.mapSeq (fun _ => (#[] : Array Value))) hS rfl
  have hit1 : (s.heap.update S (Obj.mapSeq (fun _ => (#[] : Array Value)))).IsRevIter it l ((items.size : Int) - 1) := hit.at fun o e => oth it o (Ne.symm hSi) e
  have hl1 : (s.heap.update S (Obj.mapSeq (fun _ => (#[] : Array Value)))).IsList l items := by
    obtain ⟨o, ho, r⟩ := hl; exact ⟨o, oth l o (Ne.symm hSl) ho, r⟩
  have hT : ({ s with heap := s.heap.update S (Obj.mapSeq (fun _ => (#[] : Array Value))) } : Shared).TypeIs (.ref it) "list_reverseiterator" := Heap.IsRevIter.typeIs (s := { s with heap := s.heap.update S (Obj.mapSeq (fun _ => (#[] : Array Value))) }) hit1
  have h1 : Builtin.List.listSameRef (.ref S) (.ref it) = false := by unfold Builtin.List.listSameRef; simp [hSi]
  show wpAny _ _ (do let old ← Builtin.List.listItems (.ref S); Builtin.List.listUpdate (.ref S) (fun _ => #[]); letGo old.toList.reverse; Builtin.List.listExtendWith (.ref S) (.ref it) .none) _ _ s
  refine wpAny_bind ?_; unfold Builtin.List.listItems; refine wpAny_bind (wpAny_seqItems hS rfl (wpAny_pure ?_))
  show wpAny _ _ (updateSeq S (fun _ => #[]) >>= fun _ => letGo (#[] : Array Value).toList.reverse >>= fun _ => Builtin.List.listExtendWith (.ref S) (.ref it) .none) _ _ s
  refine wpAny_bind (wpAny_updateSeq hS rfl ?_); refine wpAny_bind (wpAny_letGo ?_)
  unfold Builtin.List.listExtendWith; refine wpAny_bind (wpAny_typeOf hT ?_); rw [if_neg (by rw [h1]; decide)]
  refine wpAny_bind (wpAny_pyIter_revIter (s := { s with heap := s.heap.update S (Obj.mapSeq (fun _ => (#[] : Array Value))) }) hit1 ?_); refine wpAny_bind (wpAny_holding ?_)
  unfold Builtin.List.listLengthHint; refine wpAny_bind (wpAny_specialOf hT RT.nolen_lri ?_)
  show wpAny _ A.in1 (specialOf (Value.ref it) (Str.ofString "__length_hint__") >>= _) _ _ _; refine wpAny_bind (wpAny_specialOf hT RT.hint_lri ?_)
  generalize hid : ("list_reverseiterator.__length_hint__" : String) = id0; wp_delta; rw [show splitId id0 = some ("list_reverseiterator", "__length_hint__") from by subst hid; decide +kernel]; subst hid
  refine wpAny_bind (wpAny_isInstance (b := true) hT (by rw [isSubtype_type]; kernel_rfl) ?_); refine wpAny_pure ?_; rw [if_neg (by decide)]
  have e0 : ((items.size : Nat) : Int) - 1 - ((0 : Nat) : Int) = (items.size : Int) - 1 := by simp
  refine wpAny_pure ⟨plainId_quiet F.plain_extend_loop _, codeAny_extend_loopS W hn S hSf .none items.size 0 _ #[] _ rfl (Nat.zero_le _) ⟨Nat.zero_le _, by rw [e0]; exact hit1, hl1⟩ hS2 (ItemsOf.nil _) fun s' acc' c' hm hS' hacc => ?_⟩
  rw [Moved.eq_with hm]
  refine hR s'.heap s'.toks acc' c' (fun b o hb hb2 e => hm.heap b o (fun hmem => ?_) (oth b o hb e)) hS' hacc
  rcases List.mem_cons.mp hmem with z | z
  · exact hb z
  · exact hb2 (List.mem_singleton.mp z)
theorem callListRev {it l : Addr} {items : Array Value} {Q : Value → Shared → Prop} (hh : A.handled = none) (hit : s.heap.IsRevIter it l ((items.size : Int) - 1)) (hl : s.heap.IsList l items) (hne : l ≠ it) (hn : items.size ≤ sizeLine)
    (hQ : ∀ (h' : Heap) (tk : Nat) (acc : Array Value) (c : Nat), (∀ b o, b ≠ it → s.heap.get? b = some o → h'.get? b = some o) → h'.get? s.heap.objs.size = some { cls := .type "list", dict := none, data := .seq acc c, slots := #[] } →
      ItemsOf (fun i v => items[items.size - 1 - i]? = some v) acc items.size → Q (.ref s.heap.objs.size) { s with heap := h', toks := tk }) :
    wpAny (model prog w) A (call (.type "list") [.ref it]) Q E s := by
  obtain ⟨oi, hoi, _⟩ := id hit
  obtain ⟨ol, hol, _⟩ := id hl
  refine callType_codes (Q₁ := fun obj s₁ => obj = .ref s.heap.objs.size ∧ s₁ = { s with heap := s.heap.push { cls := .type "list", data := .seq #[] } }) F.called_list (F.typeCall_list_1 _) F.entry_list_init (code_list_new _ ⟨rfl, rfl⟩) fun obj s₁ h₁ => ?_
  obtain ⟨rfl, rfl⟩ := h₁
  have hS : (s.heap.push { cls := .type "list", data := .seq #[] }).get? s.heap.objs.size = some { cls := .type "list", data := .seq #[] } := Heap.get?_push_size _ rfl
  refine ⟨⟨_, hS, rfl⟩, F.args_list_init_2 _ _, initRev (s := { s with heap := s.heap.push { cls := .type "list", data := .seq #[] } }) hh (hit.at fun o e => Heap.get?_push_of_some _ e) (hl.push _) hne hn hS (Nat.ne_of_gt (Heap.lt_size hoi)) (Nat.ne_of_gt (Heap.lt_size hol)) fun h' tk acc c hk hS' hacc => ⟨rfl, hQ h' tk acc c (fun b o hb e => ?_) hS' hacc⟩⟩
  exact hk b o (Nat.ne_of_lt (Heap.lt_size e)) hb (Heap.get?_push_of_some _ e)
end
/-- list(reversed(x)), x a list: a new list -/
def tLstRev (K : PySem.W.Frag) (te : TE) : TE := fun σ H Q => te σ H fun v H1 => ∃ (a : Addr) (xs : List V), v = .ref a ∧ SqL K H1 a xs ∧ ∀ q, H1 q = none → Q (.ref q) (upd H1 q (.lst xs.reverse))
theorem pe_lstRev {X : Cx} {e : Expr} {te : TE} {p p2 pos pos2 : Pos} (hc : X.calm = true) (hg : Gl X "list") (hm : X.mg "list" = none) (hg2 : Gl X "reversed") (hm2 : X.mg "reversed" = none) (he : PE X e te) (hb : bootBuiltins "list" = some (.type "list"))
    (hs : starEach [e] X.env = (false, eval e X.env) :: starEach [] X.env) : PE X (.Call (.Name "list" p) [.Call (.Name "reversed" p2) [e] [] pos2] [] pos) (tLstRev X.K te) := by
  have hs2 : starEach [.Call (.Name "reversed" p2) [e] [] pos2] X.env = (false, eval (.Call (.Name "reversed" p2) [e] [] pos2) X.env) :: starEach [] X.env := rfl
  refine ⟨fun pins s σ H Q I h => Call_ (ld_blt I hg hm hb (PyProof.Rows.callWith_type1 (args_cons (Call_ (ld_blt I hg2 hm2 PyProof.Rows.boot_reversed (PyProof.Rows.callWith_type1 (args_cons (thn (he.run pins s σ H _ I h) fun u s1 ⟨v, H1, I1, r1, q1⟩ => args_nil ?_) hs) hs rfl))) hs2) hs2 rfl))⟩
  obtain ⟨a, xs, rfl, hq, q⟩ := q1
  cases r1
  obtain ⟨its, rv, p', hz⟩ := I1.list hq
  refine call_reversed_list p'.isList (args_nil ?_)
  have hlist := p'.isList
  obtain ⟨ol, hol, _⟩ := id hlist
  have hn : its.toArray.size ≤ sizeLine := by rw [List.size_toArray]; rw [← rv.length]; exact hz
  refine callListRev (s := { s1 with heap := s1.heap.push (revObj a ((its.toArray.size : Int) - 1)) }) (I1.ok.hd hc) ⟨_, Heap.get?_push_size _ rfl, rfl, rfl⟩ (hlist.push _) (Nat.ne_of_lt (Heap.lt_size hol)) hn fun h' tk acc c hk hS hi => ?_
  have hsz : s1.heap.objs.size ≤ (s1.heap.push (revObj a ((its.toArray.size : Int) - 1))).objs.size := by unfold Heap.push; simp
  have k : ∀ b u, s1.heap.get? b = some u → h'.get? b = some u := fun b u e => hk b u (Nat.ne_of_lt (Heap.lt_size e)) (Heap.get?_push_of_some _ e)
  refine ⟨.ref (s1.heap.push (revObj a ((its.toArray.size : Int) - 1))).objs.size, upd H1 _ (.lst xs.reverse), I1.laid (t' := tk) k hsz ⟨by rw [List.length_reverse]; exact hz, acc.toList, c, RT.vals_rev rv hi, ?_⟩, rfl, q _ (I1.hok.fresh hsz)⟩
  rw [Array.toArray_toList]; exact hS
end Pv
/-! Pv20: texts joined, dicts. -/
namespace Pv
open PySem L2 PySem.Spec
theorem RlP.nownT {C : Kc} {B H : Hp} {W : List Addr} : ∀ {v : List (List Key × V)} {d : List (List Key × D)} {fp : List Addr}, RlP C B H W (List Key) v d fp → amT noOwnM d = true → fp = []
  | _, _, _, .nil, _ => rfl
  | _, _, _, .cons h l, n => by
    simp only [amT, Bool.and_eq_true] at n
    rw [Rl.nown h n.1, RlP.nownT l n.2]; rfl
theorem RlP.nownK {C : Kc} {B H : Hp} {W : List Addr} : ∀ {v : List (Key × V)} {d : List (Key × D)} {fp : List Addr}, RlP C B H W Key v d fp → amK noOwnM d = true → fp = []
  | _, _, _, .nil, _ => rfl
  | _, _, _, .cons h l, n => by
    simp only [amK, Bool.and_eq_true] at n
    rw [Rl.nown h n.1, RlP.nownK l n.2]; rfl
theorem RlP.app {C : Kc} {B H : Hp} {W : List Addr} {κ : Type} : ∀ {v w : List (κ × V)} {d e : List (κ × D)} {f g : List Addr}, RlP C B H W κ v d f → RlP C B H W κ w e g → RlP C B H W κ (v ++ w) (d ++ e) (f ++ g)
  | _, _, _, _, _, _, .nil, h => h
  | _, _, _, _, _, _, .cons r l, h => by
    rw [List.append_assoc]
    exact .cons r (RlP.app l h)
theorem RlP.any {C : Kc} {B H : Hp} {W : List Addr} {κ : Type} [DecidableEq κ] (k : κ) : ∀ {v : List (κ × V)} {d : List (κ × D)} {fp : List Addr}, RlP C B H W κ v d fp → (v.any fun kv => decide (kv.1 = k)) = (d.any fun kv => decide (kv.1 = k))
  | _, _, _, .nil => rfl
  | _, _, _, .cons h l => by rw [List.any_cons, List.any_cons, RlP.any k l]
theorem RlP.map {C : Kc} {B H : Hp} {W : List Addr} {κ : Type} [DecidableEq κ] (k : κ) {u : V} {x : D} (r : Rl C B H W u x []) : ∀ {v : List (κ × V)} {d : List (κ × D)} {fp : List Addr}, RlP C B H W κ v d fp → fp = [] →
    RlP C B H W κ (v.map fun kv => if kv.1 = k then (kv.1, u) else kv) (d.map fun kv => if kv.1 = k then (kv.1, x) else kv) []
  | _, _, _, .nil, _ => .nil
  | _, _, _, .cons (k := j) (d := y) (v := w) (fp := f1) (fq := f2) (vs := vs) (ds := ds) h l, e => by
    obtain ⟨e1, e2⟩ := List.append_eq_nil_iff.mp e
    subst e1
    have ih := RlP.map k r l e2
    rw [List.map_cons, List.map_cons]
    by_cases z : j = k
    · simp only [z, if_true]
      exact .cons (fp := []) (fq := []) r ih
    · simp only [z, if_false]
      exact .cons (fp := []) (fq := []) h ih
theorem RlP.put {C : Kc} {B H : Hp} {W : List Addr} {κ : Type} [DecidableEq κ] (k : κ) {u : V} {x : D} (r : Rl C B H W u x []) {v : List (κ × V)} {d : List (κ × D)} (l : RlP C B H W κ v d []) : RlP C B H W κ (putK v k u) (putKD d k x) [] := by
  unfold putK putKD
  rw [l.any k]
  split
  · exact RlP.map k r l rfl
  · exact RlP.app l (.cons (fp := []) (fq := []) r .nil)
section
variable {G : Gx} {c : Cn} {k : Nat}
theorem strs_rl {C : Kc} {B H : Hp} {W : List Addr} : ∀ {l : List D} {ys : List Str} {vs : List V} {f : List Addr}, strsOf l = some ys → RlL C B H W vs l f → vs = ys.map V.str
  | [], ys, vs, f, h, r => by
    cases h
    cases r
    rfl
  | .str s :: l, ys, vs, f, h, r => by
    unfold strsOf at h
    cases e : strsOf l with
    | none => rw [e] at h; cases h
    | some zs =>
      rw [e] at h
      cases h
      cases r with
      | cons r1 rr =>
        obtain ⟨rfl, _⟩ := r1.str_inv
        rw [strs_rl e rr]
        rfl
theorem joinD_ne {s : Str} {d : D} (x : Xc) : joinD s d ≠ .exc x := by
  intro h
  unfold joinD at h
  split at h <;> first | (cases h; done) | (split at h <;> first | (cases h; done) | (split at h <;> cases h))
theorem snd_join {s : Str} {e : E} (he : Snd G c k e) : Snd G c k (.join s e) := by
  refine snd_plain (fun {sc Wx X x} g h => ?_) (fun {sc Wx X x} g h => pt_bad fun _ => by simp only [evT]) (fun _ xs => by cases xs <;> rfl) (fun _ o => by cases o <;> rfl)
  cases x <;> first | (simp [ckE] at h; done) | skip
  rename_i fn xs kws cp
  cases fn <;> first | (simp [ckE] at h; done) | skip
  rename_i o m ap
  cases o <;> first | (simp [ckE] at h; done) | skip
  rename_i cv ck cpos
  cases cv <;> first | (simp [ckE] at h; done) | skip
  match xs, kws, h with
  | [y], [], h =>
    simp only [ckE, Bool.and_eq_true, decide_eq_true_eq] at h
    obtain ⟨⟨⟨rfl, rfl⟩, h3⟩, h4⟩ := h
    have ns := ck_notSt h4
    refine PE.imp (pe_join pe_str (he.E g h4) (by rw [star_cons ns]; rfl) rfl h3) ?_
    rintro σ H Q ⟨env, O, fp, ok, hw⟩
    simp only [evE] at hw
    refine ⟨⟨s, rfl⟩, one ok hw fun x v H1 f1 e1 r1 hf q => ?_⟩
    obtain ⟨d, hd, q⟩ := q.ok joinD_ne
    unfold joinD at hd
    split at hd <;> first | (cases hd; done) | skip
    rename_i m l
    split at hd <;> first | (cases hd; done) | skip
    rename_i ys hys
    split at hd <;> first | (cases hd; done) | skip
    rename_i hz
    cases hd
    obtain ⟨a, vs, g1, rfl, hl, _, ll, _⟩ := r1.lst_inv
    have ev := strs_rl hys ll
    subst ev
    exact ⟨s, a, ys, rfl, rfl, .inl (by rw [g.hK]; exact hl), of_decide_eq_true hz, (q.weak e1 fun _ z => z).str⟩
theorem snd_dct : Snd G c k .dct := by
  refine snd_plain (fun {sc Wx X x} g h => ?_) (fun {sc Wx X x} g h => pt_bad fun _ => by simp only [evT]) (fun _ xs => by cases xs <;> rfl) (fun _ o => by cases o <;> rfl)
  cases x <;> first | (simp [ckE] at h; done) | skip
  rename_i ks vs pos
  cases ks <;> cases vs <;> first | (simp [ckE] at h; done) | skip
  refine PE.imp pe_dnewK ?_
  rintro σ H Q ⟨env, O, fp, ok, hw⟩
  simp only [evE] at hw
  intro p hp
  exact hw (.ref p) _ [p] (same_new hp) (.dkO (fp := []) upd_same .nil) (by simp) fun a ha => by simp at ha; subst ha; exact hp
theorem snd_dtt : Snd G c k .dtt := by
  refine snd_plain (fun {sc Wx X x} g h => ?_) (fun {sc Wx X x} g h => pt_bad fun _ => by simp only [evT]) (fun _ xs => by cases xs <;> rfl) (fun _ o => by cases o <;> rfl)
  cases x <;> first | (simp [ckE] at h; done) | skip
  rename_i ks vs pos
  cases ks <;> cases vs <;> first | (simp [ckE] at h; done) | skip
  refine PE.imp pe_dnewT ?_
  rintro σ H Q ⟨env, O, fp, ok, hw⟩
  simp only [evE] at hw
  intro p hp
  exact hw (.ref p) _ [p] (same_new hp) (.dtO (fp := []) upd_same .nil) (by simp) fun a ha => by simp at ha; subst ha; exact hp
theorem snd_glo {n : Nat} : Snd G c k (.glo n) := by
  refine snd_plain (fun {sc Wx X x} g h => ?_) (fun {sc Wx X x} g h => pt_bad fun _ => by simp only [evT]) (fun _ xs => by cases xs <;> rfl) (fun _ o => by cases o <;> rfl)
  cases x <;> first | (simp [ckE] at h; done) | skip
  simp only [ckE, Bool.and_eq_true, decide_eq_true_eq] at h
  obtain ⟨⟨h1, rfl⟩, h3⟩ := h
  obtain ⟨u, v, hm, rv, hr⟩ := g.glo n h1
  obtain ⟨k1, k2, k3⟩ := glB_ok h3
  refine PE.imp (pe_glob (g.gl h3) (by rw [g.hmg]; exact hm) rv k2) ?_
  rintro σ H Q ⟨env, O, fp, ok, hw⟩
  simp only [evE] at hw
  exact hw v H [] (Same.refl H) (hr _ _ _ _) List.nodup_nil fun _ z => nomatch z
theorem dgetD_ne {a b w : D} (x : Xc) : dgetD a b w ≠ .exc x := by
  intro h
  unfold dgetD at h
  split at h <;> cases h
theorem snd_dget {d y z : E} (hd : Snd G c k d) (hy : Snd G c k y) (hz : Snd G c k z) : Snd G c k (.dget d y z) := by
  refine snd_plain (fun {sc Wx X x} g h => ?_) (fun {sc Wx X x} g h => pt_bad fun _ => by simp only [evT]) (fun _ xs => by cases xs <;> rfl) (fun _ o => by cases o <;> rfl)
  cases x <;> first | (simp [ckE] at h; done) | skip
  rename_i fn xs kws cp
  cases fn <;> first | (simp [ckE] at h; done) | skip
  rename_i o m ap
  cases o <;> first | (simp [ckE] at h; done) | skip
  rename_i nm np
  match xs, kws, h with
  | [a, b], [], h =>
    simp only [ckE, Bool.and_eq_true, decide_eq_true_eq] at h
    obtain ⟨⟨⟨⟨rfl, h2⟩, h3⟩, h4⟩, h5⟩ := h
    have n1 := ck_notSt h4
    have n2 := ck_notSt h5
    have tr : starEach [a, b] X.env = [(false, eval a X.env), (false, eval b X.env)] := by rw [star_cons n1, star_cons n2]; rfl
    refine PE.imp (pe_dget2 (Nat.lt_of_le_of_lt (Nat.add_le_add_left (show 1 ≤ 65 by decide) _) g.units) (hd.E g h3) (hy.E g h4) (hz.E g h5) ⟨rfl, by rw [tr]; rfl, h2, by rw [tr]; rfl⟩) ?_
    rintro σ H Q ⟨env, O, fp, ok, hw⟩
    simp only [evE] at hw
    refine ⟨env, O, fp, ok, hw.bind (Same.refl H) (fun _ z => z) fun x hx q => ?_⟩
    intro v H1 f1 e1 r1 nq1 g1
    have dd : ∀ a ∈ f1, ∃ o, H1 a = some o ∧ Mutb o := r1.mutb
    have sub : ∀ z ∈ fp ++ O, z ∈ fp ++ (f1 ++ O) := fun z hz => (List.mem_append.mp hz).elim (List.mem_append_left _) fun hz => List.mem_append_right _ (List.mem_append_right _ hz)
    have isd : ∃ a0, v = V.ref a0 ∧ IsD H1 a0 ∧ isDk x = .ok x := by
      cases x <;> first | (exact (show False from q).elim) | skip
      · obtain ⟨a0, vs, g0, rfl, h1, l, hs⟩ := r1.dk_inv
        exact ⟨a0, rfl, .inl ⟨vs, .inl h1⟩, rfl⟩
      · obtain ⟨a0, vs, g0, rfl, h1, l, hs⟩ := r1.dt_inv
        exact ⟨a0, rfl, .inr ⟨vs, .inl h1⟩, rfl⟩
    obtain ⟨a0, rfl, hisd, hdk⟩ := isd
    rw [hdk] at q
    have q0 : WG G.C (fp ++ O) Wx σ H (evE G.T y env >>= fun y => evE G.T z env >>= fun w => dgetD x y w) (fun d => VR G.C (fp ++ O) fp H d Q) := q
    refine ⟨a0, rfl, hisd, env, f1 ++ O, fp, ok.wide e1 g1 dd, q0.bind e1 sub fun yd _ q1 => ?_⟩
    intro yv H2 f2 e2 r2 nq2 g2
    have dd2 : ∀ a ∈ f2, ∃ o, H2 a = some o ∧ Mutb o := r2.mutb
    have ok2 : OkF G.C (f2 ++ (f1 ++ O)) env σ H2 fp := (ok.wide e1 g1 dd).wide e2 g2 dd2
    have sub2 : ∀ b ∈ fp ++ O, b ∈ fp ++ (f2 ++ (f1 ++ O)) := fun b hb => (List.mem_append.mp hb).elim (List.mem_append_left _) fun hb => List.mem_append_right _ (List.mem_append_right _ (List.mem_append_right _ hb))
    refine ⟨env, f2 ++ (f1 ++ O), fp, ok2, q1.bind (e1.trans e2) sub2 fun wd _ q2 => ?_⟩
    intro wv H3 f3 e3 r3 nq3 g3
    obtain ⟨dv, hdv, q3⟩ := q2.ok dgetD_ne
    have e13 := (e1.trans e2).trans e3
    have q4 := q3.weak e13 fun _ z => z
    unfold dgetD at hdv
    cases ho : dgetO x yd with
    | none => rw [ho] at hdv; cases hdv
    | some o =>
      rw [ho] at hdv
      obtain ⟨a1, ov, ea, g, zz⟩ := r1.dget (r2.mono (cut_mono e3) e3) (e2.trans e3) ho
      cases ea
      refine ⟨ov, g, ?_⟩
      rcases zz with ⟨rfl, rfl⟩ | ⟨xd, u, gg, rfl, rfl, z3, z4⟩
      · cases hdv
        refine VR.fz (g := f3) q4 (r3.mono (Same.refl _) (Same.refl _)) (fun b hb => List.mem_append_right _ (sub2 b hb)) fun b hb z => ?_
        obtain ⟨o, y⟩ := ok2.osd b (sub2 b z)
        rw [g3 b hb] at y
        cases y
      · cases hdv
        refine VR.fz (g := gg) q4 (z3.mono (cut_mono (e2.trans e3)) (e2.trans e3)) (fun b hb => List.mem_append_right _ hb) fun b hb z => ?_
        exact ok.nf g1 b (z4 b hb) z
theorem ditmD_ne {d : D} (x : Xc) : ditmD d ≠ .exc x := by
  intro h
  unfold ditmD at h
  split at h <;> first | (cases h; done) | (split at h <;> cases h)
theorem snd_ditm {d : E} (hd : Snd G c k d) : Snd G c k (.ditm d) := by
  refine snd_plain (fun {sc Wx X x} g h => ?_) (fun {sc Wx X x} g h => pt_bad fun _ => by simp only [evT]) (fun _ xs => by cases xs <;> rfl) (fun _ o => by cases o <;> rfl)
  cases x <;> first | (simp [ckE] at h; done) | skip
  rename_i fn xs kws pos
  match fn, xs, kws, h with
  | .Name l lp, [.Call (.Attribute (.Name nm np) m ap) [] [] cp], [], h =>
    simp only [ckE, Bool.and_eq_true, Bool.not_eq_true', decide_eq_true_eq] at h
    obtain ⟨⟨⟨⟨⟨hh, rfl⟩, h2⟩, rfl⟩, h4⟩, h5⟩ := h
    refine PE.imp (LiI.pe_listItems (g.calm hh) (hd.E g h5) (g.gl h2) (g.mgN (by simp [bltNames])) (boot_blt .list) rfl h4) ?_
    rintro σ H Q ⟨env, O, fp, ok, hw⟩
    simp only [evE] at hw
    refine one ok hw fun x v H1 f1 e1 r1 g1 q => ?_
    obtain ⟨dv, hdv, q⟩ := q.ok ditmD_ne
    unfold ditmD at hdv
    split at hdv <;> first | (cases hdv; done) | skip
    rename_i mm kvs
    split at hdv <;> first | (cases hdv; done) | skip
    rename_i hlen
    cases hdv
    obtain ⟨a0, vs, g0, rfl, h1, ll, hs⟩ := r1.dk_inv
    refine ⟨a0, vs, rfl, h1, fun H2 p ts e2 hp ht hpt hP pr => ?_⟩
    have os2 : ∀ b ∈ fp ++ O, ∃ o, H1 b = some o := fun b hb => let ⟨o, z⟩ := ok.osd b hb; ⟨o, e1 b o z⟩
    refine q (.ref p) H2 [p] (e1.trans e2) (.lstO (fp := []) hP ?_) (by simp) fun b hb => by
      have eb : b = p := by simpa using hb
      subst eb
      exact fresh_b e1 hp
    -- the tuples
    have nf := ok.nf g1
    have key : ∀ {ts : List Addr} {vs : List (Key × V)} {kvs : List (Key × D)} {g0 : List Addr}, (∀ t ∈ ts, H1 t = none) → p ∉ ts → Paired (fun (t : Addr) (q : Key × V) => H2 t = some (.tup [kV q.1, q.2])) ts vs → RlP G.C (cut H1 (f1 ++ (fp ++ O))) H1 fp Key vs kvs g0 → (∀ b ∈ g0, b ∈ f1) →
        RlL G.C (cut H2 ([p] ++ (fp ++ O))) H2 fp (ts.map V.ref) (kvs.map fun kv => .tup [keyO kv.1, fz kv.2]) [] := by
      intro ts
      induction ts with
      | nil =>
        intro vs kvs g0 _ _ pr l _
        cases pr
        cases l
        exact .nil
      | cons t ts ih =>
        intro vs kvs g0 ht hpt pr l hg
        cases pr with
        | cons h1 pr =>
          cases l with
          | cons r l =>
            have hT : cut H2 ([p] ++ (fp ++ O)) t = H2 t := cut_out fun z => by
              rcases List.mem_append.mp z with z | z
              · have e : t = p := by simpa using z
                exact hpt (e ▸ List.mem_cons_self)
              · obtain ⟨o, y⟩ := os2 t z
                rw [ht t List.mem_cons_self] at y
                cases y
            have fr := r.froze (fq := [p]) (os' := fp ++ O) e2 (fun b hb => List.mem_append_right _ hb) (fun b hb => nf b (hg b (List.mem_append_left _ hb))) fun b hb => by
                have eb : b = p := by simpa using hb
                subst eb
                exact hp
            exact .cons (fp := []) (fq := []) (.tup (hT.trans h1) (.cons (fp := []) (fq := []) (keyO_rl _) (.cons (fp := []) (fq := []) fr .nil))) (ih (fun t' h' => ht t' (List.mem_cons_of_mem _ h')) (fun z => hpt (List.mem_cons_of_mem _ z)) pr l fun b hb => hg b (List.mem_append_right _ hb))
    exact key ht hpt pr ll hs
theorem RlL.rev0 {C : Kc} {B H : Hp} {W : List Addr} : ∀ {vs : List V} {ds : List D}, RlL C B H W vs ds [] → RlL C B H W vs.reverse ds.reverse []
  | [], [], _ => .nil
  | [], _ :: _, h => nomatch h
  | _ :: _, [], h => nomatch h
  | v :: vs, d :: ds, h => by
    generalize hf : ([] : List Addr) = f at h
    cases h with
    | cons r l =>
      obtain ⟨e1, e2⟩ := List.append_eq_nil_iff.mp hf.symm
      subst e1 e2
      rw [List.reverse_cons, List.reverse_cons]
      exact RlL.app (f := []) (g := []) (RlL.rev0 l) (.cons (fp := []) (fq := []) r .nil)
theorem lrevD_ne {d : D} (x : Xc) : lrevD d ≠ .exc x := by
  intro h
  unfold lrevD at h
  split at h <;> cases h
theorem snd_lrev {e : E} (he : Snd G c k e) : Snd G c k (.lrev e) := by
  refine snd_plain (fun {sc Wx X x} g h => ?_) (fun {sc Wx X x} g h => pt_bad fun _ => by simp only [evT]) (fun _ xs => by cases xs <;> rfl) (fun _ o => by cases o <;> rfl)
  cases x <;> first | (simp [ckE] at h; done) | skip
  rename_i fn xs kws pos
  match fn, xs, kws, h with
  | .Name l lp, [.Call (.Name r rp) [y] [] cp], [], h =>
    simp only [ckE, Bool.and_eq_true, Bool.not_eq_true', decide_eq_true_eq] at h
    obtain ⟨⟨⟨⟨⟨hh, rfl⟩, h2⟩, rfl⟩, h4⟩, h5⟩ := h
    refine PE.imp (pe_lstRev (g.calm hh) (g.gl h2) (g.mgN (by simp [bltNames])) (g.gl h4) (g.mgN (by simp [bltNames])) (he.E g h5) (boot_blt .list) (star_cons (ck_notSt h5))) ?_
    rintro σ H Q ⟨env, O, fp, ok, hw⟩
    simp only [evE] at hw
    refine one ok hw fun x v H1 f1 e1 r1 g1 q => ?_
    obtain ⟨dv, hdv, q⟩ := q.ok lrevD_ne
    unfold lrevD at hdv
    split at hdv <;> first | (cases hdv; done) | skip
    rename_i m l
    cases hdv
    obtain ⟨a, vs, gg, rfl, hl, _, ll, hgg⟩ := r1.lst_inv
    refine ⟨a, vs, rfl, by rw [g.hK]; exact hl, fun p hp => ?_⟩
    have nf := ok.nf g1
    have fr := ll.froze (H' := upd H1 p (.lst vs.reverse)) (os' := fp ++ O) (fq := [p]) (same_new hp) (fun b hb => List.mem_append_right _ hb) (fun b hb => nf b (hgg b hb)) fun b hb => by
      have eb : b = p := by simpa using hb
      subst eb
      exact hp
    have er : mpL fzM l.reverse = (mpL fzM l).reverse := by rw [mpL_eq, mpL_eq, List.map_reverse]
    rw [er] at q
    exact q (.ref p) _ [p] (e1.trans (same_new hp)) (.lstO (fp := []) upd_same fr.rev0) (by simp) fun b hb => by
      have eb : b = p := by simpa using hb
      subst eb
      exact fresh_b e1 hp
theorem RlP.merge {C : Kc} {B H : Hp} {W : List Addr} : ∀ {more : List (Key × V)} {md : List (Key × D)} {vs : List (Key × V)} {ds : List (Key × D)}, RlP C B H W Key more md [] → RlP C B H W Key vs ds [] → RlP C B H W Key (more.foldl (fun acc kv => putK acc kv.1 kv.2) vs) (md.foldl (fun acc kv => putKD acc kv.1 kv.2) ds) []
  | [], [], _, _, _, h => h
  | [], _ :: _, _, _, h, _ => nomatch h
  | _ :: _, [], _, _, h, _ => nomatch h
  | (k, v) :: more, (k', d) :: md, _, _, h, hh => by
    generalize hf : ([] : List Addr) = f at h
    cases h with
    | cons r l =>
      obtain ⟨e1, e2⟩ := List.append_eq_nil_iff.mp hf.symm
      subst e1 e2
      rw [List.foldl_cons, List.foldl_cons]
      exact RlP.merge l (RlP.put _ r hh)
theorem pairs_rl {C : Kc} {H : Hp} {os os' W : List Addr} (hs : ∀ a ∈ os', a ∈ os) : ∀ {l : List D} {kvs : List (Key × D)} {vs : List V} {g : List Addr}, pairsOf l = some kvs → RlL C (cut H os) H W vs l g → (∀ a ∈ g, a ∉ os') →
    ∃ (ps : List Addr) (vkv : List (Key × V)), vs = ps.map V.ref ∧ Paired (fun p kv => SqT C.K H p [kV kv.1, kv.2]) ps vkv ∧ ∀ (H' : Hp) (fq : List Addr), Same H H' → (∀ a ∈ fq, H a = none) → RlP C (cut H' (fq ++ os')) H' W Key vkv kvs []
  | [], kvs, vs, g, h, r, _ => by
    cases h
    cases r
    exact ⟨[], [], rfl, .nil, fun _ _ _ _ => .nil⟩
  | .tup [k, v] :: l, kvs, vs, g, h, r, hg => by
    unfold pairsOf at h
    cases hk : keyD k with
    | none => rw [hk] at h; cases h
    | some kk =>
      rw [hk] at h
      cases hr : pairsOf l with
      | none => rw [hr] at h; cases h
      | some rest =>
        rw [hr] at h
        cases h
        cases r with
        | cons r1 rr =>
          obtain ⟨p, ws, rfl, hT, _, lw⟩ := r1.tup_inv
          obtain ⟨ps, vkv, e1, e2, e3⟩ := pairs_rl hs hr rr fun a ha => hg a (List.mem_append_right _ ha)
          subst e1
          cases lw with
          | cons rk lw =>
            cases lw with
            | cons rv lw =>
              cases lw
              have ek := keyD_ok hk rk
              subst ek
              exact ⟨p :: ps, (kk, _) :: vkv, rfl, .cons hT e2, fun H' fq e hq => .cons (fp := []) (fq := []) (rv.froze (H' := H') (fq := fq) (os' := os') e hs (fun b hb => hg b (List.mem_append_left _ (List.mem_append_right _ (List.mem_append_left _ hb)))) hq) (e3 H' fq e hq)⟩
theorem dlstD_ne {d : D} (x : Xc) : dlstD d ≠ .exc x := by
  intro h
  unfold dlstD at h
  split at h <;> first | (cases h; done) | (split at h <;> cases h)
theorem RlP.frozeK {C : Kc} {H H' : Hp} {os os' W : List Addr} {vs : List (Key × V)} {ds : List (Key × D)} {g fq : List Addr} (l : RlP C (cut H os) H W Key vs ds g) (e : Same H H') (hs : ∀ a ∈ os', a ∈ os) (hg : ∀ a ∈ g, a ∉ os') (hq : ∀ a ∈ fq, H a = none) : RlP C (cut H' (fq ++ os')) H' W Key vs (mpK fzM ds) [] := by
  refine l.fzK (fun a o q => ?_) e fun a ha o q => ?_
  · obtain ⟨q1, q2⟩ := cut_some q
    rw [cut_out]
    · exact e a o q1
    · intro z
      rcases List.mem_append.mp z with z | z
      · rw [hq a z] at q1; cases q1
      · exact q2 (hs a z)
  · rw [cut_out]
    · exact e a o q
    · intro z
      rcases List.mem_append.mp z with z | z
      · rw [hq a z] at q; cases q
      · exact hg a ha z
theorem snd_dlst {e : E} (he : Snd G c k e) : Snd G c k (.dlst e) := by
  refine snd_plain (fun {sc Wx X x} g h => ?_) (fun {sc Wx X x} g h => pt_bad fun _ => by simp only [evT]) (fun _ xs => by cases xs <;> rfl) (fun _ o => by cases o <;> rfl)
  cases x <;> first | (simp [ckE] at h; done) | skip
  rename_i fn xs kws pos
  match fn, xs, kws, h with
  | .Name l lp, [y], [], h =>
    simp only [ckE, Bool.and_eq_true, Bool.not_eq_true', decide_eq_true_eq] at h
    obtain ⟨⟨⟨hh, rfl⟩, h2⟩, h5⟩ := h
    have cr : CallR X (.type "dict") (fun xs H Q => (∃ (a : Addr) (ps : List Addr) (kvs : List (Key × V)), xs = [.ref a] ∧ SqL X.K H a (ps.map V.ref) ∧ Paired (fun p kv => SqT X.K H p [kV kv.1, kv.2]) ps kvs ∧ ∀ p, H p = none → Q (.ref p) (upd H p (.dK (mergeK [] kvs)))) ∨ (∃ (a : Addr) (kvs : List (Key × V)), xs = [.ref a] ∧ Rd H a (.dK kvs) ∧ ∀ p, H p = none → Q (.ref p) (upd H p (.dK kvs)))) := by
      intro pins s σ H xs us Q I r q
      rcases q with q | q
      · exact call_dictP (g.calm hh) pins s σ H xs us Q I r q
      · exact call_dictD pins s σ H xs us Q I r q
    refine PE.imp (pe_callTy cr (g.gl h2) (g.mgN (by simp [bltNames])) (show bootBuiltins "dict" = some (.type "dict") by decide +kernel) (pa_cons (he.E g h5) pa_nil (star_cons (ck_notSt h5))) (by decide) (by decide) (star_cons (ck_notSt h5)) rfl) ?_
    rintro σ H Q ⟨env, O, fp, ok, hw⟩
    simp only [evE] at hw
    refine one ok hw fun x v H1 f1 e1 r1 g1 q => ?_
    obtain ⟨dv, hdv, q⟩ := q.ok dlstD_ne
    unfold dlstD at hdv
    split at hdv <;> first | (cases hdv; done) | skip
    · rename_i m l
      split at hdv <;> first | (cases hdv; done) | skip
      rename_i kvs hk
      cases hdv
      obtain ⟨a, vs, gg, rfl, hl, _, ll, hgg⟩ := r1.lst_inv
      have nf := ok.nf g1
      obtain ⟨ps, vkv, ev, hp2, rel⟩ := pairs_rl (os' := fp ++ O) (fun b hb => List.mem_append_right _ hb) hk ll fun b hb => nf b (hgg b hb)
      refine .inl ⟨a, ps, vkv, rfl, by rw [g.hK, ← ev]; exact hl, by rw [g.hK]; exact hp2, fun p hp => ?_⟩
      have rl := rel (upd H1 p (.dK (mergeK [] vkv))) [p] (same_new hp) fun b hb => by
        have eb : b = p := by simpa using hb
        subst eb
        exact hp
      exact q (.ref p) _ [p] (e1.trans (same_new hp)) (.dkO (fp := []) upd_same (RlP.merge rl .nil)) (by simp) fun b hb => by
        have eb : b = p := by simpa using hb
        subst eb
        exact fresh_b e1 hp
    · rename_i m kvs
      cases hdv
      obtain ⟨a, vs, gg, rfl, h1, ll, hgg⟩ := r1.dk_inv
      have nf := ok.nf g1
      refine .inr ⟨a, vs, rfl, .inl h1, fun p hp => ?_⟩
      have rl := ll.frozeK (H' := upd H1 p (.dK vs)) (os' := fp ++ O) (fq := [p]) (same_new hp) (fun b hb => List.mem_append_right _ hb) (fun b hb => nf b (hgg b hb)) fun b hb => by
        have eb : b = p := by simpa using hb
        subst eb
        exact hp
      exact q (.ref p) _ [p] (e1.trans (same_new hp)) (.dkO (fp := []) upd_same rl) (by simp) fun b hb => by
        have eb : b = p := by simpa using hb
        subst eb
        exact fresh_b e1 hp
end
end Pv
/-! Pv9: comprehensions; every expression. -/
namespace Pv
open PySem L2 PySem.Spec
abbrev noX : WX := fun _ _ _ _ => False
section
variable {G : Gx} {c : Cn} {k : Nat}
theorem Good.blk {sc : Scope} {Wx : WX} {X : Cx} (g : Good G c k sc Wx X) (hh : c.hot = false) (s : Shared) (H : Hp) (scope : Scope) (D : Addr) (cl : List (Str × Addr)) (fp : List Addr) : Good G c k (relS scope sc) noX (X.blk s H scope (compEnvC scope cl D X.env) fp) where
  hP := g.hP
  hw := g.hw
  hK := g.hK
  hmg := g.hmg
  hb := g.hb
  hN := g.hN
  nd := g.nd
  hsc := by
    rw [← g.hsc]
    rfl
  calm := g.calm
  room := g.room
  tk := fun u s' ⟨_, _, _, _, _, _, _, _, _, _, _, _, _, _, _, _, z⟩ => z
  po := PassesOwn.never
  blt := g.blt
  glo := g.glo
  fns := g.fns
  units := g.units
  fnh := g.fnh
  hotg := fun h => by rw [hh] at h; cases h
  isx := fun h => by rw [hh] at h; cases h
theorem lcD_app {f : D → Res (Option D)} : ∀ {a b r : List D}, lcD f (a ++ b) = .ok r → ∃ r1 r2, lcD f a = .ok r1 ∧ lcD f b = .ok r2 ∧ r = r1 ++ r2
  | [], b, r, h => ⟨[], r, rfl, h, rfl⟩
  | d :: a, b, r, h => by
    simp only [List.cons_append, lcD] at h
    cases z : f d with
    | ok o =>
      rw [z] at h
      cases z2 : lcD f (a ++ b) with
      | ok l =>
        rw [z2] at h
        obtain ⟨r1, r2, h1, h2, h3⟩ := lcD_app z2
        cases o with
        | some x =>
          cases h
          exact ⟨x :: r1, r2, by simp only [lcD, z, h1]; rfl, h2, by rw [h3]; rfl⟩
        | none =>
          cases h
          exact ⟨r1, r2, by simp only [lcD, z, h1]; rfl, h2, h3⟩
      | exc y => rw [z2] at h; cases h
      | bad => rw [z2] at h; cases h
    | exc y => rw [z] at h; cases h
    | bad => rw [z] at h; cases h
theorem lcD_one {f : D → Res (Option D)} {d : D} {r : List D} (h : lcD f [d] = .ok r) : ∃ o, f d = .ok o ∧ r = (match o with | some x => [x] | none => []) := by
  simp only [lcD] at h
  cases z : f d with
  | ok o =>
    rw [z] at h
    cases o <;> cases h <;> exact ⟨_, rfl, rfl⟩
  | exc y => rw [z] at h; cases h
  | bad => rw [z] at h; cases h
theorem lcD_step {f : D → Res (Option D)} {l r : List D} (h : lcD f l = .ok r) {i : Nat} {d : D} (hd : l[i]? = some d) : ∃ ri o, lcD f (l.take i) = .ok ri ∧ f d = .ok o ∧ lcD f (l.take (i + 1)) = .ok (ri ++ match o with | some x => [x] | none => []) := by
  obtain ⟨hi, e⟩ := List.getElem?_eq_some_iff.mp hd
  have e1 : l.take (i + 1) = l.take i ++ [d] := by rw [List.take_succ, hd]; rfl
  have h' := h
  rw [← List.take_append_drop (i + 1) l] at h'
  obtain ⟨r1, r2, h1, _, _⟩ := lcD_app h'
  have h1' := h1
  rw [e1] at h1'
  obtain ⟨ri, ro, h3, h4, h5⟩ := lcD_app h1'
  obtain ⟨o, h6, h7⟩ := lcD_one h4
  exact ⟨ri, o, h3, h6, by rw [h1, h5, h7]⟩
/-- a slot takes what has nothing of its own -/
theorem EnvR.set0 {C : Kc} {B H : Hp} {v : V} {d : D} (r : Rl C B H [] v d []) : ∀ {σ : L2.St} {env : Env} {fp : List Addr} {j : Nat}, EnvR C B H σ env fp → freeE env j = true → EnvR C B H (σ.set j (some v)) (env.set j (some d)) fp
  | _, _, _, _, .nil, _ => .nil
  | _, _, _, 0, .skip h, _ => .put (fq := []) r h
  | _, _, _, j + 1, .skip h, e => .skip (EnvR.set0 r h e)
  | _, _, _, 0, .put (fq := fq) r1 h, e => by
    have z := r1.nown e
    subst z
    exact .put (fq := []) r h
  | _, _, _, j + 1, .put r1 h, e => .put r1 (EnvR.set0 r h e)
theorem fold_ck {sc : Scope} {e : E} {x : Expr} {env : PySem.Env} (h : ckE G c sc e x = true) : ∀ y, foldedSetIterable x env y = pure y := by
  intro y
  cases x <;> first | rfl | (cases e <;> simp [ckE] at h)
abbrev lcF (T : Tb) (t e : E) (env : Env) (j : Nat) : D → Res (Option D) := fun d => do if (← evC T t (env.set j (some d))) then return some (fz (← evE T e (env.set j (some d)))) else return none
/-- one turn of a comprehension: the word between the turns -/
structure LcW (C : Kc) (os W : List Addr) (f : D → Res (Option D)) (items : List D) (H1 : Hp) (Dl : Addr) (i : Nat) (H' : Hp) : Prop where
  same : Same H1 H'
  ex : ∃ acc ri, lcD f (items.take i) = .ok ri ∧ H' Dl = some (.lst acc) ∧ RlL C (cut H' (Dl :: os)) H' W acc ri [] ∧ acc.length ≤ i
theorem LcW.start {C : Kc} {os W : List Addr} {f : D → Res (Option D)} {items : List D} {H1 : Hp} {Dl : Addr} (hD : H1 Dl = none) : LcW C os W f items H1 Dl 0 (upd H1 Dl (.lst [])) :=
  ⟨same_new hD, [], [], rfl, upd_same, .nil, Nat.le_refl _⟩
/-- the turn behind the target -/
theorem lc_turn2 {e t : E} {env st : Env} {O fp : List Addr} {σ σ' : L2.St} {H1 H' : Hp} {Dl : Addr} {items r : List D} {i : Nat} {d : D} {F : D → Res (Option D)} (ok : OkF G.C O env σ H1 fp) (hD : H1 Dl = none)
    (hF : F d = do if (← evC G.T t st) then return some (fz (← evE G.T e st)) else return none) (okW : ∀ {H3 : Hp}, Same H' H3 → OkF G.C (Dl :: O) st σ' H3 fp)
    (hr : lcD F items = .ok r) (hd : items[i]? = some d) (hi : i < 16777216) (w : LcW G.C (fp ++ O) fp F items H1 Dl i H') :
    tB1 G noX (evC G.T t) σ' H' fun b H3 =>
      if b = true then tE G noX e σ' H3 fun y H4 => ∃ acc, H4 Dl = some (.lst acc) ∧ acc.length < sizeLine ∧ LcW G.C (fp ++ O) fp F items H1 Dl (i + 1) (upd H4 Dl (.lst (acc ++ [y])))
      else LcW G.C (fp ++ O) fp F items H1 Dl (i + 1) H3 := by
  obtain ⟨ri, o, h1, h2, h3⟩ := lcD_step hr hd
  obtain ⟨sm, acc, ri', h1', hac, ra, hl⟩ := w
  rw [h1] at h1'
  cases h1'
  rw [hF] at h2
  refine ⟨st, Dl :: O, fp, okW (Same.refl _), ?_⟩
  cases zc : evC G.T t (st) with
  | exc y => rw [zc] at h2; cases h2
  | bad => rw [zc] at h2; cases h2
  | ok b =>
    rw [zc] at h2
    intro H3 e3
    cases b with
    | false =>
      cases h2
      refine iteF ⟨sm.trans e3, acc, ri, ?_, e3 _ _ hac, ra.mono (cut_mono e3) e3, by omega⟩
      rw [h3]
      show Res.ok (ri ++ []) = _
      rw [List.append_nil]
    | true =>
      have h2' : (do return some (fz (← evE G.T e (st)))) = Res.ok o := h2
      refine iteT ⟨st, Dl :: O, fp, okW e3, ?_⟩
      cases ze : evE G.T e (st) with
      | exc y => rw [ze] at h2'; cases h2'
      | bad => rw [ze] at h2'; cases h2'
      | ok de =>
        rw [ze] at h2'
        cases h2'
        intro y H4 f4 e4 r4 n4 g4
        have e34 := e3.trans e4
        have sub : ∀ a ∈ Dl :: (fp ++ O), a ∈ f4 ++ (fp ++ (Dl :: O)) := fun a ha => List.mem_append_right _ (by
          rcases List.mem_cons.mp ha with ha | ha
          · exact List.mem_append_right _ (List.mem_cons.mpr (.inl ha))
          · rcases List.mem_append.mp ha with ha | ha
            · exact List.mem_append_left _ ha
            · exact List.mem_append_right _ (List.mem_cons_of_mem _ ha))
        have n4' : ∀ a ∈ f4, a ∉ Dl :: (fp ++ O) := fun a ha z => by
          have q := g4 a ha
          rcases List.mem_cons.mp z with z | z
          · subst z; rw [e3 _ _ hac] at q; cases q
          · obtain ⟨o, w⟩ := ok.osd a z
            rw [(sm.trans e3) a o w] at q; cases q
        have ry : Rl G.C (cut H4 (Dl :: (fp ++ O))) H4 fp y (fz de) [] := r4.froze (fq := []) (Same.refl _) sub n4' fun _ z => (List.not_mem_nil z).elim
        refine ⟨acc, e34 _ _ hac, Nat.lt_of_le_of_lt hl (by rw [sizeLine_eq]; exact hi), ⟨?_, acc ++ [y], ri ++ [fz de], ?_, upd_same, ?_, by rw [List.length_append]; simp only [List.length_cons, List.length_nil]; omega⟩⟩
        · intro a u hu
          rw [upd_ne (ne_of_none hu hD)]
          exact (sm.trans e34) a u hu
        · exact h3
        · have key := RlL.app (ra.mono (cut_mono e34) e34) (.cons (fq := []) ry .nil)
          refine key.hm (by rw [cut_upd (List.mem_cons_self)]; exact Same.refl _) (fun a ha u hu => ?_) fun _ z => (List.not_mem_nil z).elim
          rw [upd_ne]
          · exact hu
          · intro z
            subst z
            obtain ⟨o, w⟩ := ok.fd a ha
            rw [hD] at w; cases w
/-- the turn itself -/
theorem lc_turn {e t : E} {env : Env} {O fp : List Addr} {σ : L2.St} {H1 H' : Hp} {Dl : Addr} {items r : List D} {j i : Nat} {v : V} {d : D} (ok : OkF G.C O env σ H1 fp) (hD : H1 Dl = none) (fr : freeE env j = true)
    (hr : lcD (lcF G.T t e env j) items = .ok r) (hd : items[i]? = some d) (rd : Rl G.C (cut H1 (fp ++ O)) H1 [] v d []) (hi : i < 16777216)
    (w : LcW G.C (fp ++ O) fp (lcF G.T t e env j) items H1 Dl i H') :
    wipe ((wipe σ [j]).set j (some v)) [j] = wipe σ [j] ∧ tB1 G noX (evC G.T t) ((wipe σ [j]).set j (some v)) H' fun b H3 =>
      if b = true then tE G noX e ((wipe σ [j]).set j (some v)) H3 fun y H4 => ∃ acc, H4 Dl = some (.lst acc) ∧ acc.length < sizeLine ∧ LcW G.C (fp ++ O) fp (lcF G.T t e env j) items H1 Dl (i + 1) (upd H4 Dl (.lst (acc ++ [y])))
      else LcW G.C (fp ++ O) fp (lcF G.T t e env j) items H1 Dl (i + 1) H3 := by
  have w0 := w
  obtain ⟨sm, acc, ri', h1', hac, ra, hl⟩ := w
  have es : (wipe σ [j]).set j (some v) = σ.set j (some v) := by
    show ((σ.set j none).set j (some v)) = _
    rw [List.set_set]
  have okW : ∀ {H3 : Hp}, Same H' H3 → OkF G.C (Dl :: O) (env.set j (some d)) (σ.set j (some v)) H3 fp := fun {H3} e3 => by
    have s3 := sm.trans e3
    have od : ∀ a ∈ fp ++ O, H1 a ≠ none := fun a ha z => by
      obtain ⟨o, q⟩ := ok.osd a ha
      rw [z] at q; cases q
    refine ⟨(EnvR.set0 rd ok.rel fr).mono (cutS s3 fun a ha => ?_) s3, ok.nd, fun a ha z => ?_, fun a ha => ?_⟩
    · rcases List.mem_append.mp ha with ha | ha
      · exact .inl (List.mem_append_left _ ha)
      · rcases List.mem_cons.mp ha with ha | ha
        · subst ha; exact .inr hD
        · exact .inl (List.mem_append_right _ ha)
    · rcases List.mem_cons.mp z with z | z
      · subst z; exact od a (List.mem_append_left _ ha) hD
      · exact ok.dj a ha z
    · rcases List.mem_cons.mp ha with ha | ha
      · subst ha; exact ⟨_, e3 _ _ hac, True.intro⟩
      · obtain ⟨o, q, m⟩ := ok.od a ha
        exact ⟨o, s3 a o q, m⟩
  refine ⟨?_, ?_⟩
  · show ((((σ.set j none).set j (some v))).set j none) = σ.set j none
    rw [List.set_set, List.set_set]
  rw [es]
  exact lc_turn2 (F := lcF G.T t e env j) ok hD rfl okW hr hd hi w0
/-- the end -/
theorem lc_end {f : D → Res (Option D)} {items r : List D} {os W : List Addr} {H H1 H' : Hp} {Dl : Addr} {n : Nat} {Q : VK} (e1 : Same H H1) (hD : H1 Dl = none) (hr : lcD f items = .ok r) (hn : items.length ≤ n)
    (w : LcW G.C os W f items H1 Dl n H') (q : VR G.C os W H (.lst .own r) Q) : Q (.ref Dl) H' := by
  obtain ⟨sm, acc, ri, h1, hac, ra, _⟩ := w
  rw [List.take_of_length_le hn, hr] at h1
  cases h1
  refine q (.ref Dl) H' [Dl] (e1.trans sm) (.lstO (fp := []) hac ra) (by simp) fun a ha => ?_
  have e : a = Dl := by simpa using ha
  subst e
  exact fresh_b e1 hD
theorem RlL.getV {C : Kc} {B H : Hp} {W : List Addr} : ∀ {vs : List V} {ds : List D} {i : Nat} {v : V}, RlL C B H W vs ds [] → vs[i]? = some v → ∃ d, ds[i]? = some d ∧ Rl C B H W v d []
  | [], _, i, v, _, h => by simp at h
  | x :: vs, [], i, v, l, h => nomatch l
  | x :: vs, d :: ds, i, v, l, h => by
    generalize hf : ([] : List Addr) = f at l
    cases l with
    | cons r l =>
      obtain ⟨e1, e2⟩ := List.append_eq_nil_iff.mp hf.symm
      subst e1 e2
      cases i with
      | zero =>
        simp at h
        subst h
        exact ⟨d, rfl, r⟩
      | succ i => exact RlL.getV (i := i) l (by simpa using h)
theorem okO_ok {α β : Type} {r : Res α} {f : α → Res β} {C : Kc} {os : List Addr} {Wx : WX} {σ : L2.St} {H : Hp} {P : β → Prop} (h : WG C os Wx σ H (okO r >>= f) P) : ∃ a, r = .ok a ∧ WG C os Wx σ H (f a) P := by
  cases r with
  | ok a => exact ⟨a, rfl, h⟩
  | exc x => exact (show False from h).elim
  | bad => exact (show False from h).elim
theorem rngD_len (n : Int) : (rngD n).length = n.toNat := by
  unfold rngD
  rw [List.length_map, List.length_range]
theorem rngD_get {n : Int} {i : Nat} (h : i < n.toNat) : (rngD n)[i]? = some (.int (i : Int)) := by
  unfold rngD
  rw [List.getElem?_map, List.getElem?_range h]
  rfl
theorem lc_rd {j : Nat} {src t e : E} {Wx : WX} {K : Frag} (hK : K = G.C.K) (σ : L2.St) (H : Hp) (Q : VK) (h : tE G Wx (.lc j src t e) σ H Q) : tLc (iList K (tE G Wx src)) (gName j) (tB1 G noX (evC G.T t)) (tE G noX e) [j] σ H Q := by
  obtain ⟨env, O, fp, ok, hw⟩ := h
  simp only [evE] at hw
  refine one ok hw fun x v H1 f1 e1 r1 g1 q => ?_
  cases x <;> first | (exact (show False from q).elim) | skip
  rename_i m l
  obtain ⟨a, vs, gg, rfl, hl, _, ll, hgg⟩ := r1.lst_inv
  obtain ⟨r, hr, q⟩ := okO_ok q
  by_cases hc : (amL noBrwM l && lineOk l.length && freeE env j) = true
  · rw [if_pos hc] at q
    simp only [Bool.and_eq_true] at hc
    obtain ⟨⟨c1, c2⟩, c3⟩ := hc
    have nf := ok.nf g1
    have fr := (ll.keep (W' := []) (Same.refl _) c1 fun _ _ _ z => z).froze (os' := fp ++ O) (fq := []) (Same.refl _) (fun b hb => List.mem_append_right _ hb) (fun b hb => nf b (hgg b hb)) fun _ z => (List.not_mem_nil z).elim
    have ok1 := ok.grow e1
    have hlen : vs.length < 16777216 := by rw [ll.len]; exact Nat.lt_of_lt_of_le (line_lt c2) (by rw [sizeLine_eq]; exact Nat.le_refl _)
    refine ⟨a, rfl, ⟨vs, by rw [hK]; exact hl⟩, fun Dl hD => lc_list (xs := vs) (LcW G.C (fp ++ O) fp (lcF G.T t e env j) (mpL fzM l) H1 Dl) (LcW.start hD) (fun i H' _ w => by rw [hK]; exact Same.sqL w.same hl) (fun i x H' hx w => ?_) fun H' w => ?_⟩
    · obtain ⟨d, hd, rd⟩ := fr.getV hx
      exact lc_turn ok1 hD c3 hr hd rd (Nat.lt_trans (List.getElem?_eq_some_iff.mp hx).1 hlen) w
    · exact lc_end e1 hD hr (by rw [mpL_eq, List.length_map, ll.len]; exact Nat.le_refl _) w q
  · rw [if_neg hc] at q
    exact (show False from q).elim
theorem lcr_rd {j : Nat} {src t e : E} {Wx : WX} (σ : L2.St) (H : Hp) (Q : VK) (h : tE G Wx (.lcr j src t e) σ H Q) : tLc (iRng1 (tCons (tE G Wx src) tNil)) (gName j) (tB1 G noX (evC G.T t)) (tE G noX e) [j] σ H Q := by
  obtain ⟨env, O, fp, ok, hw⟩ := h
  simp only [evE] at hw
  refine one ok hw fun x v H1 f1 e1 r1 g1 q => ?_
  cases x <;> first | (exact (show False from q).elim) | skip
  rename_i n
  obtain ⟨rfl, _⟩ := r1.int_inv
  obtain ⟨r, hr, q⟩ := okO_ok q
  by_cases hc : (decide (n.natAbs < 1000000) && freeE env j) = true
  · rw [if_pos hc] at q
    simp only [Bool.and_eq_true, decide_eq_true_eq] at hc
    obtain ⟨c1, c3⟩ := hc
    have ok1 := ok.grow e1
    refine ⟨n, rfl, by omega, by omega, fun Dl hD => lc_range (lo := 0) (n := n.toNat) (LcW G.C (fp ++ O) fp (lcF G.T t e env j) (rngD n) H1 Dl) (LcW.start hD) (fun i H' hi w => ?_) fun H' w => ?_⟩
    · have e0 : (0 : Int) + (i : Int) = (i : Int) := Int.zero_add _
      rw [e0]
      exact lc_turn ok1 hD c3 hr (rngD_get hi) (.int _) (by omega) w
    · exact lc_end e1 hD hr (by rw [rngD_len]; exact Nat.le_refl _) w q
  · rw [if_neg hc] at q
    exact (show False from q).elim
theorem snd_lc {j : Nat} {src t e : E} (hsrc : Snd G c k src) (ht : Snd G c k t) (he : Snd G c k e) : Snd G c k (.lc j src t e) := by
  refine snd_plain (fun {sc Wx X x} g h => ?_) (fun {sc Wx X x} g h => pt_bad fun _ => by simp only [evT]) (fun _ xs => by cases xs <;> rfl) (fun _ o => by cases o <;> rfl)
  cases x <;> first | (simp [ckE] at h; done) | skip
  rename_i elt gens scope pos
  match gens, h with
  | [⟨.Name x p, iter, ifs, 0⟩], h =>
    simp only [ckE, Bool.and_eq_true, Bool.not_eq_true', decide_eq_true_eq] at h
    obtain ⟨⟨⟨⟨⟨⟨hh, h1⟩, h2⟩, h3⟩, h4⟩, h5⟩, h6⟩ := h
    have bk := blkOk_by h2
    have hj : c.N[j]? = some x := bk.ix (x, j) (by simp)
    refine PE.imp (pe_lc (own := [(x, j)]) (g := gName j) (g.calm hh) (by rw [g.hN]; exact g.nd) (pi_list (hsrc.E g h1)) (by rw [g.hN, g.hsc]; exact bk)
      (fun s H D cl fp => pg_name (i := j) (by rw [(g.blk hh s H scope D cl fp).hN]; exact g.nd) (by rw [(g.blk hh s H scope D cl fp).hN]; exact hj) (.inl (by rw [(g.blk hh s H scope D cl fp).hsc]; exact h3)) (.inr (by rw [(g.blk hh s H scope D cl fp).hsc]; exact h3)))
      (fun s H D cl fp => ht.I (g.blk hh s H scope D cl fp) h4 h5) (fun s H D cl fp => he.E (g.blk hh s H scope D cl fp) h6) (fold_ck h1)) ?_
    exact lc_rd g.hK
theorem snd_lcr {j : Nat} {src t e : E} (hsrc : Snd G c k src) (ht : Snd G c k t) (he : Snd G c k e) : Snd G c k (.lcr j src t e) := by
  refine snd_plain (fun {sc Wx X x} g h => ?_) (fun {sc Wx X x} g h => pt_bad fun _ => by simp only [evT]) (fun _ xs => by cases xs <;> rfl) (fun _ o => by cases o <;> rfl)
  cases x <;> first | (simp [ckE] at h; done) | skip
  rename_i elt gens scope pos
  match gens, h with
  | [⟨.Name x p, .Call (.Name rn rp) [a] [] cpos, ifs, 0⟩], h =>
    simp only [ckE, Bool.and_eq_true, Bool.not_eq_true', decide_eq_true_eq] at h
    obtain ⟨⟨⟨⟨⟨⟨⟨⟨hh, rfl⟩, hg⟩, h1⟩, h2⟩, h3⟩, h4⟩, h5⟩, h6⟩ := h
    have bk := blkOk_by h2
    have hj : c.N[j]? = some x := bk.ix (x, j) (by simp)
    refine PE.imp (pe_lc (own := [(x, j)]) (g := gName j) (g.calm hh) (by rw [g.hN]; exact g.nd) (pi_range1 (g.gl hg) (g.mgN (by simp [bltNames])) (pa_cons (hsrc.E g h1) pa_nil (star_cons (ck_notSt h1))) (star_cons (ck_notSt h1))) (by rw [g.hN, g.hsc]; exact bk)
      (fun s H D cl fp => pg_name (i := j) (by rw [(g.blk hh s H scope D cl fp).hN]; exact g.nd) (by rw [(g.blk hh s H scope D cl fp).hN]; exact hj) (.inl (by rw [(g.blk hh s H scope D cl fp).hsc]; exact h3)) (.inr (by rw [(g.blk hh s H scope D cl fp).hsc]; exact h3)))
      (fun s H D cl fp => ht.I (g.blk hh s H scope D cl fp) h4 h5) (fun s H D cl fp => he.E (g.blk hh s H scope D cl fp) h6)) ?_
    exact lcr_rd
theorem snd_isx {i n : Nat} : Snd G c k (.isx i n) := by
  refine snd_plain (fun {sc Wx X x} g h => ?_) (fun {sc Wx X x} g h => ?_) (fun _ xs => by cases xs <;> rfl) (fun _ o => by cases o <;> rfl)
  all_goals
    have h' := h
    cases x <;> first | (simp [ckE] at h; done) | skip
    rename_i fn xs kws pos
    cases fn <;> first | (simp [ckE] at h; done) | skip
    match xs, kws, h, h' with
    | [.Name x1 p1, .Name m p2], [], h, h' => ?_
    simp only [ckE, Bool.and_eq_true] at h
    have pe := g.isx h.1.1.1.1.1.1.1.1 (.isx i n) _ rfl h'
  · exact pe
  · refine PT.imp (pt_val pe) ?_
    rintro σ H Q ⟨env, O, fp, ok, hw⟩
    refine ⟨env, O, fp, ok, ?_⟩
    simp only [evT] at hw
    simp only [evE]
    cases z : getE env i with
    | ok d =>
      rw [z] at hw
      show WG G.C (fp ++ O) Wx σ H (do return D.bl (← isxD G.T n d)) _
      have hw' : WG G.C (fp ++ O) Wx σ H (isxD G.T n d) fun d => ∀ H', Same H H' → Q d H' := hw
      cases z2 : isxD G.T n d with
      | ok b =>
        rw [z2] at hw'
        intro v H1 fq e1 r1 _ _
        obtain ⟨rfl, _⟩ := r1.bl_inv
        exact ⟨_, rfl, hw' H1 e1⟩
      | exc y => rw [z2] at hw'; exact hw'
      | bad => rw [z2] at hw'; exact hw'
    | exc y => rw [z] at hw; exact hw
    | bad => rw [z] at hw; exact hw
theorem snd_isv {i : Nat} : Snd G c k (.isv i) := by
  refine snd_plain (fun {sc Wx X x} g h => ?_) (fun {sc Wx X x} g h => ?_) (fun _ xs => by cases xs <;> rfl) (fun _ o => by cases o <;> rfl)
  all_goals
    have h' := h
    cases x <;> first | (simp [ckE] at h; done) | skip
    rename_i fn xs kws pos
    cases fn <;> first | (simp [ckE] at h; done) | skip
    match xs, kws, h, h' with
    | [.Name x1 p1, .Name m p2], [], h, h' => ?_
    simp only [ckE, Bool.and_eq_true] at h
    have pe := g.isx h.1.1.1.1.1.1.1 (.isv i) _ rfl h'
  · exact pe
  · refine PT.imp (pt_val pe) ?_
    rintro σ H Q ⟨env, O, fp, ok, hw⟩
    refine ⟨env, O, fp, ok, ?_⟩
    simp only [evT] at hw
    simp only [evE]
    cases z : getE env i with
    | ok d =>
      rw [z] at hw
      show WG G.C (fp ++ O) Wx σ H (do return D.bl (← isvD d)) _
      have hw' : WG G.C (fp ++ O) Wx σ H (isvD d) fun d => ∀ H', Same H H' → Q d H' := hw
      cases z2 : isvD d with
      | ok b =>
        rw [z2] at hw'
        intro v H1 fq e1 r1 _ _
        obtain ⟨rfl, _⟩ := r1.bl_inv
        exact ⟨_, rfl, hw' H1 e1⟩
      | exc y => rw [z2] at hw'; exact hw'
      | bad => rw [z2] at hw'; exact hw'
    | exc y => rw [z] at hw; exact hw
    | bad => rw [z] at hw; exact hw
theorem snd_isxs {i : Nat} {ns : List Nat} : Snd G c k (.isxs i ns) := by
  refine snd_plain (fun {sc Wx X x} g h => ?_) (fun {sc Wx X x} g h => ?_) (fun _ xs => by cases xs <;> rfl) (fun _ o => by cases o <;> rfl)
  all_goals
    have h' := h
    cases x <;> first | (simp [ckE] at h; done) | skip
    rename_i fn xs kws pos
    cases fn <;> first | (simp [ckE] at h; done) | skip
    match xs, kws, h, h' with
    | [.Name x1 p1, .Tuple ys tc p2], [], h, h' => ?_
    simp only [ckE, Bool.and_eq_true] at h
    have pe := g.isx h.1.1.1.1.1.1.1 (.isxs i ns) _ rfl h'
  · exact pe
  · refine PT.imp (pt_val pe) ?_
    rintro σ H Q ⟨env, O, fp, ok, hw⟩
    refine ⟨env, O, fp, ok, ?_⟩
    simp only [evT] at hw
    simp only [evE]
    cases z : getE env i with
    | ok d =>
      rw [z] at hw
      show WG G.C (fp ++ O) Wx σ H (do return D.bl (← isxsD G.T ns d)) _
      have hw' : WG G.C (fp ++ O) Wx σ H (isxsD G.T ns d) fun d => ∀ H', Same H H' → Q d H' := hw
      cases z2 : isxsD G.T ns d with
      | ok b =>
        rw [z2] at hw'
        intro v H1 fq e1 r1 _ _
        obtain ⟨rfl, _⟩ := r1.bl_inv
        exact ⟨_, rfl, hw' H1 e1⟩
      | exc y => rw [z2] at hw'; exact hw'
      | bad => rw [z2] at hw'; exact hw'
    | exc y => rw [z] at hw; exact hw
    | bad => rw [z] at hw; exact hw
theorem freeE_set {env : Env} {i j : Nat} {o : Option D} (h : i ≠ j) : freeE (env.set i o) j = freeE env j := by
  unfold freeE
  rw [List.getElem?_set_ne h]
theorem lct_wipe {σ : L2.St} {i j : Nat} {x y : V} (h : i ≠ j) : (wipe σ [i, j]).set i (some x) = ((σ.set j none).set i (some x)) ∧ (((wipe σ [i, j]).set i (some x)).set j (some y)) = ((σ.set i (some x)).set j (some y)) ∧ wipe ((σ.set i (some x)).set j (some y)) [i, j] = wipe σ [i, j] := by
  have e : wipe σ [i, j] = (σ.set j none).set i none := rfl
  refine ⟨by rw [e, List.set_set], ?_, ?_⟩
  · rw [e, List.set_set, List.set_comm none (some x) (Ne.symm h), List.set_set]
  · show ((((σ.set i (some x)).set j (some y)).set j none).set i none) = _
    rw [e, List.set_set, List.set_comm (some x) none h, List.set_set]
abbrev lctF (T : Tb) (t e : E) (env : Env) (i j : Nat) : D → Res (Option D) := fun d => match tup2 d with | some p => (do if (← evC T t ((env.set i (some p.1)).set j (some p.2))) then return some (fz (← evE T e ((env.set i (some p.1)).set j (some p.2)))) else return none) | none => .bad
theorem lct_rd {i j : Nat} {src t e : E} {Wx : WX} {K : Frag} (hK : K = G.C.K) (σ : L2.St) (H : Hp) (Q : VK) (h : tE G Wx (.lct i j src t e) σ H Q) : tLc (iList K (tE G Wx src)) (gTup K 2 (gCons (gName i) (gCons (gName j) gNil))) (tB1 G noX (evC G.T t)) (tE G noX e) [i, j] σ H Q := by
  obtain ⟨env, O, fp, ok, hw⟩ := h
  simp only [evE] at hw
  refine one ok hw fun x v H1 f1 e1 r1 g1 q => ?_
  cases x <;> first | (exact (show False from q).elim) | skip
  rename_i m l
  obtain ⟨a, vs, gg, rfl, hl, _, ll, hgg⟩ := r1.lst_inv
  obtain ⟨r, hr, q⟩ := okO_ok q
  by_cases hc : (amL noBrwM l && lineOk l.length && freeE env i && freeE env j && decide (i ≠ j)) = true
  · rw [if_pos hc] at q
    simp only [Bool.and_eq_true, decide_eq_true_eq] at hc
    obtain ⟨⟨⟨⟨c1, c2⟩, c3⟩, c4⟩, c5⟩ := hc
    have nf := ok.nf g1
    have fr := (ll.keep (W' := []) (Same.refl _) c1 fun _ _ _ z => z).froze (os' := fp ++ O) (fq := []) (Same.refl _) (fun b hb => List.mem_append_right _ hb) (fun b hb => nf b (hgg b hb)) fun _ z => (List.not_mem_nil z).elim
    have ok1 := ok.grow e1
    have hlen : vs.length < 16777216 := by rw [ll.len]; exact Nat.lt_of_lt_of_le (line_lt c2) (by rw [sizeLine_eq]; exact Nat.le_refl _)
    refine ⟨a, rfl, ⟨vs, by rw [hK]; exact hl⟩, fun Dl hD => lc_list (xs := vs) (LcW G.C (fp ++ O) fp (lctF G.T t e env i j) (mpL fzM l) H1 Dl) (LcW.start hD) (fun n H' _ w => by rw [hK]; exact Same.sqL w.same hl) (fun n x H' hx w => ?_) fun H' w => ?_⟩
    · obtain ⟨d, hd, rd⟩ := fr.getV hx
      obtain ⟨ri, o, h1, h2, h3⟩ := lcD_step hr hd
      have h2' : lctF G.T t e env i j d = .ok o := h2
      cases hp : tup2 d with
      | none =>
        unfold lctF at h2'
        rw [hp] at h2'
        cases h2'
      | some p =>
        obtain ⟨d1, d2⟩ := p
        have ed : d = .tup [d1, d2] := by
          unfold tup2 at hp
          split at hp
          · cases hp; rfl
          · cases hp
        subst ed
        obtain ⟨b, ws, rfl, hT, _, lw⟩ := rd.tup_inv
        obtain ⟨v1, v2, rfl⟩ : ∃ v1 v2, ws = [v1, v2] := by
          have := lw.len
          match ws, this with
          | [v1, v2], _ => exact ⟨v1, v2, rfl⟩
        obtain ⟨x1, hx1, rx⟩ := lw.getV (i := 0) rfl
        obtain ⟨x2, hx2, ry⟩ := lw.getV (i := 1) rfl
        cases hx1
        cases hx2
        have rx' : Rl G.C (cut H1 (fp ++ O)) H1 [] v1 d1 [] := rx
        have ry' : Rl G.C (cut H1 (fp ++ O)) H1 [] v2 d2 [] := ry
        obtain ⟨w1, w2, w3⟩ := lct_wipe (σ := σ) (x := v1) (y := v2) c5
        have sm := w.same
        have w' := w
        obtain ⟨_, acc, ri', _, hac, _, _⟩ := w'
        refine ⟨b, [v1, v2], rfl, by rw [hK]; exact Same.sqT sm hT, rfl, v1, [v2], rfl, v2, [], rfl, rfl, ?_⟩
        rw [w2]
        refine ⟨w3, lc_turn2 (st := (env.set i (some d1)).set j (some d2)) (F := lctF G.T t e env i j) ok1 hD rfl (fun {H3} e3 => ?_) hr hd (Nat.lt_trans (List.getElem?_eq_some_iff.mp hx).1 hlen) w⟩
        have s3 := sm.trans e3
        have od : ∀ a ∈ fp ++ O, H1 a ≠ none := fun a ha z => by
          obtain ⟨o, q⟩ := ok1.osd a ha
          rw [z] at q; cases q
        refine ⟨(EnvR.set0 ry' (EnvR.set0 rx' ok1.rel c3) (by rw [freeE_set c5]; exact c4)).mono (cutS s3 fun a ha => ?_) s3, ok1.nd, fun a ha z => ?_, fun a ha => ?_⟩
        · rcases List.mem_append.mp ha with ha | ha
          · exact .inl (List.mem_append_left _ ha)
          · rcases List.mem_cons.mp ha with ha | ha
            · subst ha; exact .inr hD
            · exact .inl (List.mem_append_right _ ha)
        · rcases List.mem_cons.mp z with z | z
          · subst z; exact od a (List.mem_append_left _ ha) hD
          · exact ok1.dj a ha z
        · rcases List.mem_cons.mp ha with ha | ha
          · subst ha; exact ⟨_, e3 _ _ hac, True.intro⟩
          · obtain ⟨o, q, m⟩ := ok1.od a ha
            exact ⟨o, s3 a o q, m⟩
    · exact lc_end e1 hD hr (by rw [mpL_eq, List.length_map, ll.len]; exact Nat.le_refl _) w q
  · rw [if_neg hc] at q
    exact (show False from q).elim
theorem snd_lct {i j : Nat} {src t e : E} (hsrc : Snd G c k src) (ht : Snd G c k t) (he : Snd G c k e) : Snd G c k (.lct i j src t e) := by
  refine snd_plain (fun {sc Wx X x} g h => ?_) (fun {sc Wx X x} g h => pt_bad fun _ => by simp only [evT]) (fun _ xs => by cases xs <;> rfl) (fun _ o => by cases o <;> rfl)
  cases x <;> first | (simp [ckE] at h; done) | skip
  rename_i elt gens scope pos
  match gens, h with
  | [⟨.Tuple [.Name x p, .Name y p2] tk tp, iter, ifs, 0⟩], h =>
    simp only [ckE, Bool.and_eq_true, Bool.not_eq_true', decide_eq_true_eq] at h
    obtain ⟨⟨⟨⟨⟨⟨⟨hh, h1⟩, h2⟩, h3⟩, h3'⟩, h4⟩, h5⟩, h6⟩ := h
    have bk := blkOk_by h2
    have hi : c.N[i]? = some x := bk.ix (x, i) (by simp)
    have hj : c.N[j]? = some y := bk.ix (y, j) (by simp)
    refine PE.imp (pe_lc (own := [(x, i), (y, j)]) (g := gTup X.K 2 (gCons (gName i) (gCons (gName j) gNil))) (g.calm hh) (by rw [g.hN]; exact g.nd) (pi_list (hsrc.E g h1)) (by rw [g.hN, g.hsc]; exact bk)
      (fun s H D cl fp => pg_tup ((g.blk hh s H scope D cl fp).calm hh) (pgs_cons (pg_name (i := i) (by rw [(g.blk hh s H scope D cl fp).hN]; exact g.nd) (by rw [(g.blk hh s H scope D cl fp).hN]; exact hi) (.inl (by rw [(g.blk hh s H scope D cl fp).hsc]; exact h3)) (.inr (by rw [(g.blk hh s H scope D cl fp).hsc]; exact h3)))
        (pgs_cons (pg_name (i := j) (by rw [(g.blk hh s H scope D cl fp).hN]; exact g.nd) (by rw [(g.blk hh s H scope D cl fp).hN]; exact hj) (.inl (by rw [(g.blk hh s H scope D cl fp).hsc]; exact h3')) (.inr (by rw [(g.blk hh s H scope D cl fp).hsc]; exact h3'))) pgs_nil)) rfl rfl)
      (fun s H D cl fp => ht.I (g.blk hh s H scope D cl fp) h4 h5) (fun s H D cl fp => he.E (g.blk hh s H scope D cl fp) h6) (fold_ck h1)) ?_
    exact lct_rd g.hK
theorem snd (e : E) : Snd G c k e := by
  induction e with
  | var i => exact snd_var i
  | int n => exact snd_int n
  | str s => exact snd_str s
  | bl b => exact snd_bl b
  | non => exact snd_non
  | bin o a b ha hb => exact snd_bin ha hb
  | neg a ha => exact snd_neg ha
  | cmp o a b ha hb => exact snd_cmp ha hb
  | nt a ha => exact snd_nt ha
  | and a ha => exact snd_and ha
  | or a ha => exact snd_or ha
  | ife t a b ht ha hb => exact snd_ife ht ha hb
  | tup a ha => exact snd_tup ha
  | lst a ha => exact snd_lst ha
  | nil => exact snd_nil
  | cons a b ha hb => exact snd_cons ha hb
  | ix a b ha hb => exact snd_ix ha hb
  | sl a b d ha hb hd => exact snd_sl ha hb hd
  | call i a ha => exact snd_call ha
  | blt f a ha => exact snd_blt ha
  | isi a t ha => exact snd_isi ha
  | lc j a b d ha hb hd => exact snd_lc ha hb hd
  | lcr j a b d ha hb hd => exact snd_lcr ha hb hd
  | isx i n => exact snd_isx
  | isv i => exact snd_isv
  | isxs i ns => exact snd_isxs
  | callH i a ha => exact snd_callH ha
  | join s a ha => exact snd_join ha
  | dct => exact snd_dct
  | dget a b d ha hb hd => exact snd_dget ha hb hd
  | ditm a ha => exact snd_ditm ha
  | lct i j a b d ha hb hd => exact snd_lct ha hb hd
  | lrev a ha => exact snd_lrev ha
  | dlst a ha => exact snd_dlst ha
  | glo n => exact snd_glo
  | dtt => exact snd_dtt
end
end Pv
/-! Pv10: statements. -/
namespace Pv
open PySem L2 PySem.Spec

/-- what a statement leaves -/
def OS (G : Gx) (Wx : WX) (O : List Addr) (H0 : Hp) (Z : Ends) : Out → Prop
  | .nx env => ∀ σ' H' fp', OkF G.C O env σ' H' fp' → Same H0 H' → (∀ a ∈ fp', H0 a = none) → Z.nx σ' H'
  | .ret d => VR G.C O [] H0 d Z.rt
  | .brk env => ∀ σ' H' fp', OkF G.C O env σ' H' fp' → Same H0 H' → (∀ a ∈ fp', H0 a = none) → Z.bk σ' H'
  | .cnt env => ∀ σ' H' fp', OkF G.C O env σ' H' fp' → Same H0 H' → (∀ a ∈ fp', H0 a = none) → Z.ct σ' H'
  | .exc x env => ∀ cls dx σ' H' fp', OkF G.C O env σ' H' fp' → Same H0 H' → (∀ a ∈ fp', H0 a = none) → RlX G.C (cut H' (fp' ++ O)) cls dx x → Wx cls dx σ' H'
  | .bad => False
def tS (G : Gx) (Wx : WX) (f : Env → Out) : TS := fun Z σ H => ∃ env O H0 fp, OkF G.C O env σ H fp ∧ Same H0 H ∧ (∀ a ∈ fp, H0 a = none) ∧ OS G Wx O H0 Z (f env)
theorem PS.imp {X : Cx} {e : Stmt} {t t' : TS} (h : PS X e t) (i : ∀ D σ H, t' D σ H → t D σ H) : PS X e t' := ⟨fun pins s σ H D I q => h.run pins s σ H D I (i D σ H q)⟩
theorem PSs.imp {X : Cx} {e : List Stmt} {t t' : TS} (h : PSs X e t) (i : ∀ D σ H, t' D σ H → t D σ H) : PSs X e t' := ⟨fun pins s σ H D I q => h.run pins s σ H D I (i D σ H q)⟩
section
variable {G : Gx} {c : Cn} {k : Nat} {O H0' fp : List Addr} {H0 H : Hp} {σ : L2.St} {env : Env} {Wx : WX} {Z : Ends}
/-- an expression ahead -/
theorem OS.out {α : Type} {r : Res α} {f : α → Out} (h : OS G Wx O H0 Z (r.out env f)) (ok : OkF G.C O env σ H fp) (s0 : Same H0 H) (n0 : ∀ a ∈ fp, H0 a = none) : WG G.C (fp ++ O) Wx σ H r fun a => OS G Wx O H0 Z (f a) := by
  cases r with
  | ok a => exact h
  | exc x => exact fun cls dx H' e r => h cls dx σ H' fp (ok.grow e) (s0.trans e) n0 r
  | bad => exact h
theorem EnvR.setP {C : Kc} {B H : Hp} {v : V} {d : D} {fq : List Addr} (r : Rl C B H [] v d fq) (nq : fq.Nodup) : ∀ {σ : L2.St} {env : Env} {fp : List Addr} {i : Nat}, EnvR C B H σ env fp → i < env.length → (∀ a ∈ fq, a ∉ fp) → fp.Nodup → ∃ fp', EnvR C B H (σ.set i (some v)) (env.set i (some d)) fp' ∧ (∀ a ∈ fp', a ∈ fq ∨ a ∈ fp) ∧ fp'.Nodup
  | _, _, _, i, .nil, h, _, _ => by simp at h
  | _, _, _, 0, .skip (fp := fp) e, h, dj, nd => ⟨fq ++ fp, .put r e, fun a ha => List.mem_append.mp ha, List.nodup_append.mpr ⟨nq, nd, fun a ha b hb e => dj a ha (e ▸ hb)⟩⟩
  | _, _, _, 0, .put (fq := f0) (fp := fp) r0 e, h, dj, nd => by
    have nd' := (List.nodup_append.mp nd).2.1
    exact ⟨fq ++ fp, .put r e, fun a ha => (List.mem_append.mp ha).imp id (List.mem_append_right _), List.nodup_append.mpr ⟨nq, nd', fun a ha b hb e => dj a ha (List.mem_append_right _ (e ▸ hb))⟩⟩
  | _, _, _, i + 1, .skip e, h, dj, nd => by
    obtain ⟨fp', h1, h2, h3⟩ := EnvR.setP r nq (i := i) e (by simpa using h) dj nd
    exact ⟨fp', .skip h1, h2, h3⟩
  | _, _, _, i + 1, .put (fq := f0) (fp := fp) r0 e, h, dj, nd => by
    obtain ⟨n1, n2, n3⟩ := List.nodup_append.mp nd
    obtain ⟨fp', h1, h2, h3⟩ := EnvR.setP r nq (i := i) e (by simpa using h) (fun a ha z => dj a ha (List.mem_append_right _ z)) n2
    refine ⟨f0 ++ fp', .put r0 h1, fun a ha => ?_, List.nodup_append.mpr ⟨n1, h3, fun a ha b hb e => ?_⟩⟩
    · rcases List.mem_append.mp ha with ha | ha
      · exact .inr (List.mem_append_left _ ha)
      · exact (h2 a ha).imp id (List.mem_append_right _)
    · subst e
      rcases h2 a hb with z | z
      · exact dj a z (List.mem_append_left _ ha)
      · exact n3 a ha a z rfl
/-- a value is stored at a slot -/
theorem OkF.put {C : Kc} {O fp fq : List Addr} {env : Env} {σ : L2.St} {H H' : Hp} {v : V} {d : D} {i : Nat} {W : List Addr} (ok : OkF C O env σ H fp) (e : Same H H') (r : Rl C (cut H' (fq ++ (fp ++ O))) H' W v d fq) (nq : fq.Nodup) (hf : ∀ a ∈ fq, H a = none)
    (nb : noBrw d = true) (hi : i < env.length) : ∃ fp', OkF C O (env.set i (some d)) (σ.set i (some v)) H' fp' ∧ ∀ a ∈ fp', a ∈ fq ∨ a ∈ fp := by
  have r' : Rl C (cut H' (fq ++ (fp ++ O))) H' [] v d fq := r.keep (Same.refl _) nb fun _ _ _ z => z
  have nf := ok.nf hf
  obtain ⟨fp', h1, h2, h3⟩ := EnvR.setP r' nq (ok.rel.mono (cut_fresh e hf) e) hi (fun a ha z => nf a ha (List.mem_append_left _ z)) ok.nd
  refine ⟨fp', ⟨h1.mono (cut_sub fun a ha => ?_) (Same.refl _), h3, fun a ha z => ?_, fun a ha => ?_⟩, h2⟩
  · rcases List.mem_append.mp ha with ha | ha
    · exact (h2 a ha).elim (List.mem_append_left _) fun z => List.mem_append_right _ (List.mem_append_left _ z)
    · exact List.mem_append_right _ (List.mem_append_right _ ha)
  · rcases h2 a ha with y | y
    · exact nf a y (List.mem_append_right _ z)
    · exact ok.dj a y z
  · obtain ⟨o, q, m⟩ := ok.od a ha
    exact ⟨o, e a o q, m⟩
theorem putE_nx {env env' : Env} {i : Nat} {d : D} {P : Out → Prop} (h : P (putE env i d)) (hb : ¬ P .bad) : noBrw d = true ∧ i < env.length ∧ P (.nx (env.set i (some d))) := by
  unfold putE at h
  split at h
  · rename_i hc
    simp only [Bool.and_eq_true, decide_eq_true_eq] at hc
    exact ⟨hc.1, hc.2, h⟩
  · exact absurd h hb
theorem OS.put {H' : Hp} {fq W : List Addr} {v : V} {d : D} {i : Nat} (h : OS G Wx O H0 Z (putE env i d)) (ok : OkF G.C O env σ H fp) (s0 : Same H0 H) (n0 : ∀ a ∈ fp, H0 a = none) (e : Same H H') (r : Rl G.C (cut H' (fq ++ (fp ++ O))) H' W v d fq) (nq : fq.Nodup) (hf : ∀ a ∈ fq, H a = none)   : Z.nx (σ.set i (some v)) H' := by
  obtain ⟨h1, h2, h3⟩ := putE_nx (env' := env) (P := OS G Wx O H0 Z) h (fun z => z)
  obtain ⟨fp', ok', hs⟩ := ok.put e r nq hf h1 h2
  exact h3 _ _ fp' ok' (s0.trans e) fun a ha => (hs a ha).elim (fun z => fresh_b s0 (hf a z)) (n0 a)
end
/-! ### the text -/
def locB (sc : Scope) (x : Str) : Bool := match sc.names.lookup x with
  | some .local => true
  | some .cell => true
  | _ => false
def isLC : Expr → Bool
  | .ListComp _ _ _ _ => true
  | _ => false
def isTup : Expr → Bool
  | .Tuple _ _ _ => true
  | _ => false
def ckN (c : Cn) (sc : Scope) : List Nat → List Expr → Bool
  | [], [] => true
  | i :: is, .Name x _ :: xs => decide (c.N[i]? = some x) && locB sc x && ckN c sc is xs
  | _, _ => false
def ckTg (c : Cn) (sc : Scope) : List Nat → Expr → Bool
  | [i], .Name x _ => decide (c.N[i]? = some x) && locB sc x
  | i :: j :: is, .Tuple xs _ _ => ckN c sc (i :: j :: is) xs
  | _, _ => false
/-- the comprehension that is stored at once -/
def lcB (sc : Scope) (x : Str) (p : Pos) (l : Nat) : Expr → Bool
  | .ListComp _ _ scope pos => (match sc.names.lookup x with
    | some .local => (p.line == pos.line) && !(scope.names.any fun (n, k) => n == x && (k == .local || k == .cell))
    | some .cell => true
    | _ => false)
  | _ => true
mutual
def ck1 (G : Gt) (c : Cn) (sc : Scope) : S → Stmt → Bool
  | .asg i e, .Assign [.Name x p] v pos => decide (c.N[i]? = some x) && locB sc x && lcB sc x p pos.line v && ckE G c sc e v
  | .asgT is e, .Assign [.Tuple xs _ _] v _ => !c.hot && ckN c sc is xs && !isTup v && !isLC v && ckE G c sc e v
  | .exp e, .Expr v _ => !isLC v && ckE G c sc e v
  | .app i e, .Expr (.Call (.Attribute (.Name x _) m ap) [v] [] cp) _ => decide (c.N[i]? = some x) && visB sc x && nmB x && decide (m = ("append" : Str)) && (ap.endLine == cp.line) && ckE G c sc e v
  | .aug i o e, .AugAssign (.Name x _) o' v _ => decide (c.N[i]? = some x) && locB sc x && decide (o = o') && (match o with | .Add => true | .Sub => true | _ => false) && ckE G c sc e v
  | .ret e, .Return (some v) _ => ckE G c sc e v
  | .retN, .Return none _ => true
  | .retV i, .Return (some (.Name x _)) _ => decide (c.N[i]? = some x) && visB sc x && nmB x
  | .ife t a b, .If z xs ys _ => ckE G c sc t z && ckS G c sc a xs && ckS G c sc b ys
  | .forL is src b, .For tg iter xs [] _ => !c.hot && ckTg c sc is tg && ckE G c sc src iter && ckS G c sc b xs
  | .forR j n b, .For (.Name x _) (.Call (.Name r _) [a] [] _) xs [] _ => !c.hot && decide (c.N[j]? = some x) && locB sc x && decide (r = ("range" : Str)) && glB sc r && ckE G c sc n a && ckS G c sc b xs
  | .whl _ t b, .While z xs [] _ => ckE G c sc t z && ckS G c sc b xs
  | .brk, .Break _ => true
  | .cnt, .Continue _ => true
  | .nop, .Pass _ => true
  | .rse n, .Raise (some (.Call (.Name x _) [.Constant (.str _) _ _] [] _)) none _ => !c.hot && decide (n ∈ c.rs) && decide (x = G.cn n) && glB sc x
  | .tryX b n i h, .Try xs [.ExceptHandler (some (.Name x _)) (some nm) ys _] [] [] _ => !c.hot && decide (n ∈ G.T.cs) && decide (x = G.cn n) && glB sc x && decide (c.N[i]? = some nm) && decide (sc.names.lookup nm = some .local) && !ys.isEmpty && ckS G c sc b xs && ckS G { c with hot := true, fs := [] } sc h ys
  | .ins i k v, .Expr (.Call (.Attribute (.Name x _) m ap) [a, b] [] cp) _ => decide (c.N[i]? = some x) && visB sc x && nmB x && decide (m = ("insert" : Str)) && (ap.endLine == cp.line) && ckE G c sc k a && ckE G c sc v b
  | .clr i, .Expr (.Call (.Attribute (.Name x _) m ap) [] [] cp) _ => decide (c.N[i]? = some x) && visB sc x && nmB x && decide (m = ("clear" : Str)) && (ap.endLine == cp.line)
  | .stuck, _ => true
  | .setl i k v, .Assign [.Subscript (.Name x _) y _] w _ => !isLC w && !isTup w && decide (c.N[i]? = some x) && visB sc x && nmB x && ckE G c sc k y && ckE G c sc v w
  | .forE i j src b, .For (.Tuple tgs tk tp) (.Call (.Name r _) [a] [] _) xs [] _ => !c.hot && ckTg c sc [i, j] (.Tuple tgs tk tp) && decide (r = ("enumerate" : Str)) && glB sc r && ckE G c sc src a && ckS G c sc b xs
  | .setd i k v, .Expr (.Call (.Attribute (.Name x _) m ap) [a, b] [] cp) _ => decide (c.N[i]? = some x) && visB sc x && nmB x && decide (m = ("setdefault" : Str)) && (ap.endLine == cp.line) && ckE G c sc k a && ckE G c sc v b
  | .setk i k v, .Assign [.Subscript (.Name x _) y _] w _ => !isLC w && decide (c.N[i]? = some x) && visB sc x && nmB x && ckE G c sc k y && ckE G c sc v w
  | _, _ => false
def ckS (G : Gt) (c : Cn) (sc : Scope) : S → List Stmt → Bool
  | .nop, [] => true
  | .seq (.fz _) b, xs => ckS G c sc b xs
  | .seq a b, x :: xs => ck1 G c sc a x && ckS G c sc b xs
  | _, _ => false
end
end Pv
/-! Pv11: a statement is worth evS. -/
namespace Pv
open PySem L2 PySem.Spec
abbrev veT : List Value := [.type "ValueError", .type "Exception", .type "BaseException", .type "object"]
/-- what the errors' classes must say -/
structure ClsF (G : Gx) (rs : List Nat) : Prop where
  mg : ∀ n ∈ G.T.cs, G.mg (G.cn n) = some (.ref (G.C.cl n))
  sub : ∀ n ∈ rs, n ∈ G.T.cs
  exI : ∀ n ∈ rs, PySem.W.excIn G.C.K (G.C.cl n) veT "ValueError.__new__" = true
  kp : ∀ n ∈ rs, PySem.W.keepIn G.C.K (.ref (G.C.cl n)) = true
  bs : ∀ n ∈ rs, PySem.W.subIn G.C.K (.ref (G.C.cl n)) (.type "BaseException") = some true
  ty : ∀ n ∈ rs, PySem.W.typeIn G.C.K (.ref (G.C.cl n)) = some (.type "type")
  exm : ∀ m ∈ G.T.xs, ∀ n ∈ G.T.cs, PySem.W.exmOne G.C.K (.ref (G.C.cl m)) (.ref (G.C.cl n)) = some (G.T.sub m n)
  kit : ∀ m ∈ G.T.xs, ∀ n ∈ G.T.cs, PySem.W.kitOne G.C.K (.ref (G.C.cl m)) (.ref (G.C.cl n)) = some (G.T.sub m n)
  exc : ∀ m ∈ G.T.xs, ExcC G.C.K (G.C.cl m)
  ve : ∀ m ∈ G.T.xs, PySem.W.kitOne G.C.K (.ref (G.C.cl m)) (.type "ValueError") = some true
structure GoodS (G : Gx) (c : Cn) (k : Nat) (sc : Scope) (Wx : WX) (X : Cx) : Prop where
  g : Good G c k sc Wx X
  fn : ∀ x, X.fn x = true
  st : X.stack = X.env :: X.outer
  fr : X.env.frame = some X.env.locals
  cls : ClsF G c.rs
  exn : c.hot = false → G.C.ex = none
structure SndS (s : S) : Prop where
  one : ∀ {G c k sc Wx X st}, GoodS G c k sc Wx X → ck1 G c sc s st = true → PS X st (tS G Wx (evS G.T s))
  all : ∀ {G c k sc Wx X sts}, GoodS G c k sc Wx X → ckS G c sc s sts = true → PSs X sts (tS G Wx (evS G.T s))
theorem locB_ok {sc : Scope} {x : Str} (h : locB sc x = true) : L2.Loc sc x := by
  unfold locB at h
  unfold L2.Loc
  split at h
  · exact .inl (by assumption)
  · exact .inr (by assumption)
  · cases h
section
variable {G : Gx} {c : Cn} {k : Nat} {sc : Scope} {Wx : WX} {X : Cx}
theorem GoodS.loc (g : GoodS G c k sc Wx X) {x : Str} (h : locB sc x = true) : L2.Loc X.env.scope x := by
  rw [g.g.hsc]; exact locB_ok h
theorem GoodS.ni (g : GoodS G c k sc Wx X) {i : Nat} {x : Str} (h : c.N[i]? = some x) : X.N[i]? = some x := by
  rw [g.g.hN]; exact h
theorem GoodS.nd (g : GoodS G c k sc Wx X) : X.N.Nodup := by
  rw [g.g.hN]; exact g.g.nd
/-- plain statements stand alone -/
theorem sndS_one {s : S} (h1 : ∀ {G c k sc Wx X st}, GoodS G c k sc Wx X → ck1 G c sc s st = true → PS X st (tS G Wx (evS G.T s))) (h2 : ∀ G c sc sts, ckS G c sc s sts = false) : SndS s :=
  ⟨h1, fun {G c k sc Wx X sts} _ h => by rw [h2] at h; cases h⟩
theorem swF {e : E} {v : Expr} {t : Option Expr} {l : Nat} {env : PySem.Env} (h : ckE G c sc e v = true) (hl : isLC v = false) : swapsWith v t l env = pure false := by
  cases v <;> first | rfl | (cases hl; done) | (cases e <;> simp [ckE] at h)
theorem swT {e : E} {v : Expr} {t : Expr} {env : PySem.Env} (hl : isTup v = false) : swappedStores [t] v env = pure none := by
  cases v <;> first | (cases hl; done) | (cases t <;> rfl)
theorem sndS_asg (i : Nat) (e : E) : SndS (.asg i e) := by
  refine sndS_one (fun {G c k sc Wx X st} g h => ?_) (fun G c sc sts => by cases sts <;> rfl)
  have rd : ∀ (Z : Ends) (σ : L2.St) (H : Hp), tS G Wx (evS G.T (.asg i e)) Z σ H → tE G Wx e σ H fun x H1 => Z.nx (σ.set i (some x)) H1 := by
    rintro Z σ H ⟨env, O, H0, fp, ok, s0, n0, hw⟩
    simp only [evS] at hw
    exact ⟨env, O, fp, ok, (OS.out hw ok s0 n0).id (Same.refl H) (fun _ z => z) fun d _ q v H1 fq e1 r1 nq hf => q.put ok s0 n0 e1 r1 nq hf⟩
  cases st <;> first | (simp [ck1] at h; done) | skip
  rename_i tgs v pos
  match tgs, h with
  | [.Name x p], h =>
    simp only [ck1, Bool.and_eq_true, decide_eq_true_eq] at h
    obtain ⟨⟨⟨h1, h2⟩, h3⟩, h4⟩ := h
    cases hl : isLC v with
    | false => exact PS.imp (ps_set (i := i) g.nd (g.ni h1) (g.loc h2) ((snd e).E g.g h4) (swF h4 hl) (.inl (g.fn x))) rd
    | true =>
      cases v <;> first | (cases hl; done) | skip
      rename_i elt gens scope lpos
      simp only [lcB] at h3
      have hk : X.env.scope.kind = .function ∨ True := .inr trivial
      cases hx : sc.names.lookup x with
      | none => rw [hx] at h3; cases h3
      | some kd =>
        rw [hx] at h3
        cases kd <;> first | (cases h3; done) | skip
        · -- a local: stored at once
          simp only [Bool.and_eq_true, Bool.not_eq_true'] at h3
          obtain ⟨h5, h6⟩ := h3
          have hxl : X.env.scope.names.lookup x = some .local := by rw [g.g.hsc]; exact hx
          match e, gens, h4 with
          | .lc j src t e, [⟨.Name y yp, iter, ifs, 0⟩], h4 =>
            simp only [ckE, Bool.and_eq_true, Bool.not_eq_true', decide_eq_true_eq] at h4
            obtain ⟨⟨⟨⟨⟨⟨hh, k1⟩, k2⟩, k3⟩, k4⟩, k5⟩, k6⟩ := h4
            have bk := blkOk_by k2
            have hj : c.N[j]? = some y := bk.ix (y, j) (by simp)
            refine ⟨fun pins s σ H Z I hq => ?_⟩
            exact (ps_setLc (i := i) (own := [(y, j)]) (g := gName j) (g.g.calm hh) g.nd (g.ni h1) hxl (sw_true I.ok.kind hxl h5 h6) (pi_list ((snd src).E g.g k1)) (by rw [g.g.hN, g.g.hsc]; exact bk)
              (fun s H D cl fp => pg_name (i := j) (by rw [(g.g.blk hh s H scope D cl fp).hN]; exact g.g.nd) (by rw [(g.g.blk hh s H scope D cl fp).hN]; exact hj) (.inl (by rw [(g.g.blk hh s H scope D cl fp).hsc]; exact k3)) (.inr (by rw [(g.g.blk hh s H scope D cl fp).hsc]; exact k3)))
              (fun s H D cl fp => (snd t).I (g.g.blk hh s H scope D cl fp) k4 k5) (fun s H D cl fp => (snd e).E (g.g.blk hh s H scope D cl fp) k6) (fold_ck k1)).run pins s σ H Z I (lc_rd g.g.hK σ H _ (rd Z σ H hq))
          | .lcr j src t e, [⟨.Name y yp, .Call (.Name rn rp) [a] [] cpos, ifs, 0⟩], h4 =>
            simp only [ckE, Bool.and_eq_true, Bool.not_eq_true', decide_eq_true_eq] at h4
            obtain ⟨⟨⟨⟨⟨⟨⟨⟨hh, rfl⟩, hg⟩, k1⟩, k2⟩, k3⟩, k4⟩, k5⟩, k6⟩ := h4
            have bk := blkOk_by k2
            have hj : c.N[j]? = some y := bk.ix (y, j) (by simp)
            refine ⟨fun pins s σ H Z I hq => ?_⟩
            exact (ps_setLc (i := i) (own := [(y, j)]) (g := gName j) (g.g.calm hh) g.nd (g.ni h1) hxl (sw_true I.ok.kind hxl h5 h6) (pi_range1 (g.g.gl hg) (g.g.mgN (by simp [bltNames])) (pa_cons ((snd src).E g.g k1) pa_nil (star_cons (ck_notSt k1))) (star_cons (ck_notSt k1))) (by rw [g.g.hN, g.g.hsc]; exact bk)
              (fun s H D cl fp => pg_name (i := j) (by rw [(g.g.blk hh s H scope D cl fp).hN]; exact g.g.nd) (by rw [(g.g.blk hh s H scope D cl fp).hN]; exact hj) (.inl (by rw [(g.g.blk hh s H scope D cl fp).hsc]; exact k3)) (.inr (by rw [(g.g.blk hh s H scope D cl fp).hsc]; exact k3)))
              (fun s H D cl fp => (snd t).I (g.g.blk hh s H scope D cl fp) k4 k5) (fun s H D cl fp => (snd e).E (g.g.blk hh s H scope D cl fp) k6)).run pins s σ H Z I (lcr_rd σ H _ (rd Z σ H hq))
          | .lct j j2 src t e, [⟨.Tuple [.Name y yp, .Name y2 yp2] tk tp, iter, ifs, 0⟩], h4 =>
            simp only [ckE, Bool.and_eq_true, Bool.not_eq_true', decide_eq_true_eq] at h4
            obtain ⟨⟨⟨⟨⟨⟨⟨hh, k1⟩, k2⟩, k3⟩, k3'⟩, k4⟩, k5⟩, k6⟩ := h4
            have bk := blkOk_by k2
            have hj : c.N[j]? = some y := bk.ix (y, j) (by simp)
            have hj2 : c.N[j2]? = some y2 := bk.ix (y2, j2) (by simp)
            refine ⟨fun pins s σ H Z I hq => ?_⟩
            exact (ps_setLc (i := i) (own := [(y, j), (y2, j2)]) (g := gTup X.K 2 (gCons (gName j) (gCons (gName j2) gNil))) (g.g.calm hh) g.nd (g.ni h1) hxl (sw_true I.ok.kind hxl h5 h6) (pi_list ((snd src).E g.g k1)) (by rw [g.g.hN, g.g.hsc]; exact bk)
              (fun s H D cl fp => pg_tup ((g.g.blk hh s H scope D cl fp).calm hh) (pgs_cons (pg_name (i := j) (by rw [(g.g.blk hh s H scope D cl fp).hN]; exact g.g.nd) (by rw [(g.g.blk hh s H scope D cl fp).hN]; exact hj) (.inl (by rw [(g.g.blk hh s H scope D cl fp).hsc]; exact k3)) (.inr (by rw [(g.g.blk hh s H scope D cl fp).hsc]; exact k3)))
                (pgs_cons (pg_name (i := j2) (by rw [(g.g.blk hh s H scope D cl fp).hN]; exact g.g.nd) (by rw [(g.g.blk hh s H scope D cl fp).hN]; exact hj2) (.inl (by rw [(g.g.blk hh s H scope D cl fp).hsc]; exact k3')) (.inr (by rw [(g.g.blk hh s H scope D cl fp).hsc]; exact k3'))) pgs_nil)) rfl rfl)
              (fun s H D cl fp => (snd t).I (g.g.blk hh s H scope D cl fp) k4 k5) (fun s H D cl fp => (snd e).E (g.g.blk hh s H scope D cl fp) k6) (fold_ck k1)).run pins s σ H Z I (lct_rd g.g.hK σ H _ (rd Z σ H hq))
        · -- a cell: as any value
          refine PS.imp (ps_set (i := i) g.nd (g.ni h1) (g.loc h2) ((snd e).E g.g h4) ?_ (.inl (g.fn x))) rd
          have hxc : X.env.kindOf x = some .cell := by
            show X.env.scope.names.lookup x = _
            rw [g.g.hsc]; exact hx
          unfold swapsWith
          simp only [hxc]
          simp [show (NameKind.cell == NameKind.local) = false from by decide]
end
end Pv
/-! Pv12: statements, further. -/
namespace Pv
open PySem L2 PySem.Spec
section
variable {G : Gx} {c : Cn} {k : Nat} {sc : Scope} {Wx : WX} {X : Cx}
/-! targets -/
def gNs : List Nat → TGs
  | [] => gNil
  | i :: is => gCons (gName i) (gNs is)
theorem pgs_names (g : GoodS G c k sc Wx X) : ∀ {is : List Nat} {xs : List Expr}, ckN c sc is xs = true → PGs X xs (gNs is)
  | [], [], _ => pgs_nil
  | i :: is, .Name x p :: xs, h => by
    simp only [ckN, Bool.and_eq_true, decide_eq_true_eq] at h
    exact pgs_cons (pg_name (i := i) g.nd (g.ni h.1.1) (g.loc h.1.2) (.inl (g.fn x))) (pgs_names g h.2)
  | [], _ :: _, h => by simp [ckN] at h
  | _ :: _, [], h => by simp [ckN] at h
theorem names_len {env : PySem.Env} : ∀ {is : List Nat} {xs : List Expr}, ckN c sc is xs = true → (assignEach xs env).length = is.length ∧ (assignEach xs env).findIdx? (·.1) = none
  | [], [], _ => ⟨rfl, rfl⟩
  | i :: is, .Name x p :: xs, h => by
    simp only [ckN, Bool.and_eq_true] at h
    obtain ⟨h1, h2⟩ := names_len (env := env) h.2
    refine ⟨by show (assignEach xs env).length + 1 = is.length + 1; rw [h1], ?_⟩
    show ((false, assign (.Name x p) env) :: assignEach xs env).findIdx? (·.1) = none
    rw [List.findIdx?_cons]
    simp [h2]
  | [], _ :: _, h => by simp [ckN] at h
  | _ :: _, [], h => by simp [ckN] at h
/-- items, shared, stored one after another -/
theorem putEs_rd {O : List Addr} {H0 H : Hp} : ∀ {is : List Nat} {ds : List Pv.D} {vs : List V} {env : Env} {σ : L2.St} {fp : List Addr} {Q : L2.St → Hp → Prop}, RlL G.C (cut H (fp ++ O)) H [] vs ds [] → OkF G.C O env σ H fp → (∀ a ∈ fp, H0 a = none) →
    (∃ P : Out → Prop, P (putEs env is ds) ∧ (¬ P .bad) ∧ ∀ env', P (.nx env') → ∀ σ' fp', OkF G.C O env' σ' H fp' → (∀ a ∈ fp', a ∈ fp) → Q σ' H) → gNs is vs σ H Q
  | [], [], vs, env, σ, fp, Q, r, ok, n0, ⟨P, h, hb, hk⟩ => by
    cases r
    exact ⟨rfl, hk env h σ fp ok fun _ z => z⟩
  | i :: is, d :: ds, vs, env, σ, fp, Q, r, ok, n0, ⟨P, h, hb, hk⟩ => by
    generalize hf : ([] : List Addr) = f at r
    cases r with
    | cons r l =>
      rename_i v f1 vs f2
      obtain ⟨e1, e2⟩ := List.append_eq_nil_iff.mp hf.symm
      subst e1 e2
      refine ⟨v, vs, rfl, ?_⟩
      show gNs is vs (σ.set i (some v)) H Q
      unfold putEs at h
      have h' : noBrw d = true ∧ i < env.length ∧ P ((Out.nx (env.set i (some d))).thn fun e => putEs e is ds) := by
        unfold putE at h
        split at h
        · rename_i hc
          simp only [Bool.and_eq_true, decide_eq_true_eq] at hc
          exact ⟨hc.1, hc.2, h⟩
        · exact absurd h hb
      obtain ⟨h1, h2, h3⟩ := h'
      obtain ⟨fp', ok', hs⟩ := ok.put (fq := []) (Same.refl _) r List.nodup_nil (fun _ z => nomatch z) h1 h2
      have hs' : ∀ a ∈ fp', a ∈ fp := fun a ha => (hs a ha).resolve_left List.not_mem_nil
      refine putEs_rd (env := env.set i (some d)) (l.mono (cut_sub fun a ha => ?_) (Same.refl _)) ok' (fun a ha => n0 a (hs' a ha)) ⟨P, h3, hb, fun env' he σ' fp2 ok2 hs2 => hk env' he σ' fp2 ok2 fun a ha => hs' a (hs2 a ha)⟩
      rcases List.mem_append.mp ha with ha | ha
      · exact List.mem_append_left _ (hs' a ha)
      · exact List.mem_append_right _ ha
  | [], d :: ds, vs, env, σ, fp, Q, r, ok, n0, ⟨P, h, hb, hk⟩ => absurd h hb
  | i :: is, [], vs, env, σ, fp, Q, r, ok, n0, ⟨P, h, hb, hk⟩ => absurd h hb
theorem sndS_asgT (is : List Nat) (e : E) : SndS (.asgT is e) := by
  refine sndS_one (fun {G c k sc Wx X st} g h => ?_) (fun G c sc sts => by cases sts <;> rfl)
  cases st <;> first | (simp [ck1] at h; done) | skip
  rename_i tgs v pos
  match tgs, h with
  | [.Tuple xs tk tp], h =>
    simp only [ck1, Bool.and_eq_true, Bool.not_eq_true'] at h
    obtain ⟨⟨⟨⟨hh, h1⟩, h2⟩, h3⟩, h4⟩ := h
    obtain ⟨l1, l2⟩ := names_len (env := X.env) h1
    refine PS.imp (ps_asg ((snd e).E g.g h4) (pg_tup (g.g.calm hh) (pgs_names g h1) l1 l2) (by unfold swapsWithSole; exact swF h4 h3) (swT (e := e) h2) rfl) ?_
    rintro Z σ H ⟨env, O, H0, fp, ok, s0, n0, hw⟩
    simp only [evS] at hw
    refine ⟨env, O, fp, ok, (OS.out hw ok s0 n0).id (Same.refl H) (fun _ z => z) fun d hde q v H1 fq e1 r1 nq hf => ?_⟩
    clear hde
    cases d <;> first | (exact (show False from q).elim) | skip
    rename_i l
    by_cases hc : (is.length == 1 || !amL noBrwM l) = true
    · simp only [hc, if_true] at q
      exact (show False from q).elim
    · simp only [hc] at q
      simp only [Bool.or_eq_true, Bool.not_eq_true', not_or, Bool.not_eq_false] at hc
      obtain ⟨a, vs, rfl, hT, _, ll⟩ := r1.tup_inv
      have nf := ok.nf hf
      have fr := (ll.keep (W' := []) (Same.refl _) hc.2 fun _ _ _ z => z).froze (os' := fp ++ O) (fq := []) (Same.refl _) (fun b hb => List.mem_append_right _ hb) nf fun _ z => (List.not_mem_nil z).elim
      have q' : OS G Wx O H0 Z (putEs env is (mpL fzM l)) := q
      have hlen : ∀ {is : List Nat} {ds : List Pv.D} {env : Env}, (∀ P : Out → Prop, P (putEs env is ds) → ¬ P .bad → is.length = ds.length) := by
        intro is
        induction is with
        | nil => intro ds env P h hb; cases ds with | nil => rfl | cons _ _ => exact absurd h hb
        | cons i is ih =>
          intro ds env P h hb
          cases ds with
          | nil => exact absurd h hb
          | cons d ds =>
            unfold putEs at h
            unfold putE at h
            split at h
            · simp [ih P h hb]
            · exact absurd h hb
      have hl := hlen (OS G Wx O H0 Z) q' fun z => z
      rw [mpL_eq, List.length_map] at hl
      refine ⟨a, vs, rfl, by rw [g.g.hK]; exact hT, by rw [ll.len, hl], ?_⟩
      refine putEs_rd (H0 := H0) (O := O) (fp := fp) fr (ok.grow e1) n0 ⟨OS G Wx O H0 Z, q', fun z => z, fun env' he σ' fp' ok' hs => he σ' H1 fp' ok' (s0.trans e1) fun a ha => n0 a (hs a ha)⟩
theorem sndS_exp (e : E) : SndS (.exp e) := by
  refine sndS_one (fun {G c k sc Wx X st} g h => ?_) (fun G c sc sts => by cases sts <;> rfl)
  cases st <;> first | (simp [ck1] at h; done) | skip
  simp only [ck1, Bool.and_eq_true, Bool.not_eq_true'] at h
  refine PS.imp (ps_expr ((snd e).E g.g h.2) (swF h.2 h.1)) ?_
  rintro Z σ H ⟨env, O, H0, fp, ok, s0, n0, hw⟩
  simp only [evS] at hw
  exact ⟨env, O, fp, ok, (OS.out hw ok s0 n0).id (Same.refl H) (fun _ z => z) fun d _ q v H1 fq e1 r1 nq hf => q σ H1 fp (ok.grow e1) (s0.trans e1) n0⟩
/-- the own list at a grows by a shared item -/
theorem Rl.app1 {C : Kc} {B H : Hp} {a : Addr} {o : HO} : ∀ {v : V} {d : Pv.D} {f : List Addr}, Rl C B H [] v d f → a ∉ f → Rl C B (upd H a o) [] v d f := fun r h => r.hm (Same.refl _) (fun _ z => (List.not_mem_nil z).elim) fun b hb u hu => by
  rw [upd_ne (by intro z; subst z; exact h hb)]
  exact hu
theorem EnvR.app1 {C : Kc} {B H : Hp} {a : Addr} {o : HO} : ∀ {σ : L2.St} {env : Env} {f : List Addr}, EnvR C B H σ env f → a ∉ f → EnvR C B (upd H a o) σ env f
  | _, _, _, .nil, _ => .nil
  | _, _, _, .skip e, h => .skip (EnvR.app1 e h)
  | _, _, _, .put r e, h => .put (r.app1 fun z => h (List.mem_append_left _ z)) (EnvR.app1 e fun z => h (List.mem_append_right _ z))
theorem EnvR.app {C : Kc} {B H : Hp} {a : Addr} {vs : List V} {l : List Pv.D} {u : V} {d : Pv.D} : ∀ {σ : L2.St} {env : Env} {fp : List Addr} {i : Nat}, EnvR C B H σ env fp → fp.Nodup → env[i]? = some (some (.lst .own l)) → H a = some (.lst vs) → σ[i]? = some (some (.ref a)) → Rl C B H [] u d [] →
    EnvR C B (upd H a (.lst (vs ++ [u]))) σ (env.set i (some (.lst .own (l ++ [d])))) fp
  | _, _, _, i, .nil, _, h, _, _, _ => by simp at h
  | _, _, _, 0, .skip _, _, h, _, _, _ => by simp at h
  | _, _, _, i + 1, .skip e, nd, h, ha, hs, ru => .skip (EnvR.app e nd (by simpa using h) ha (by simpa using hs) ru)
  | _, _, _, i + 1, .put (fq := f0) (fp := fp) (σ := σ0) (env := env0) r e, nd, h, ha, hs, ru => by
    obtain ⟨n1, n2, n3⟩ := List.nodup_append.mp nd
    have h' : env0[i]? = some (some (.lst .own l)) := by simpa using h
    obtain ⟨w, fq, hw, rw', hq⟩ := e.get h'
    have hs' : σ0[i]? = some (some (.ref a)) := by simpa using hs
    rw [hs'] at hw
    cases hw
    have hm : a ∈ fp := by
      cases rw' with
      | lstO _ _ => exact hq _ List.mem_cons_self
    exact .put (r.app1 fun z => n3 a z a hm rfl) (EnvR.app e n2 h' ha hs' ru)
  | _, _, _, 0, .put (fq := f0) (fp := fp) r e, nd, h, ha, hs, ru => by
    obtain ⟨n1, n2, n3⟩ := List.nodup_append.mp nd
    simp at h
    subst h
    simp at hs
    subst hs
    cases r with
    | lstO hb l0 =>
      rename_i ws g
      rw [ha] at hb
      cases hb
      have nag : a ∉ g := (List.nodup_cons.mp n1).1
      refine .put (.lstO upd_same ?_) (e.app1 fun z => n3 a List.mem_cons_self a z rfl)
      have key := RlL.app l0 (.cons (fq := []) ru .nil)
      rw [List.append_nil, List.append_nil] at key
      exact key.hm (Same.refl _) (fun _ z => (List.not_mem_nil z).elim) fun b hb u hu => by
        rw [upd_ne (by intro z; subst z; exact nag hb)]
        exact hu
/-- x.append(e) on an own list -/
theorem sndS_app (i : Nat) (e : E) : SndS (.app i e) := by
  refine sndS_one (fun {G c k sc Wx X st} g h => ?_) (fun G c sc sts => by cases sts <;> rfl)
  cases st <;> first | (simp [ck1] at h; done) | skip
  rename_i ex pos
  cases ex <;> first | (simp [ck1] at h; done) | skip
  rename_i fn as kws cp
  cases fn <;> first | (simp [ck1] at h; done) | skip
  rename_i o m ap
  cases o <;> first | (simp [ck1] at h; done) | skip
  rename_i x xp
  match as, kws, h with
  | [v], [], h =>
    simp only [ck1, Bool.and_eq_true, decide_eq_true_eq] at h
    obtain ⟨⟨⟨⟨⟨h1, h2⟩, h3⟩, rfl⟩, h5⟩, h6⟩ := h
    obtain ⟨d1, d2⟩ := nmB_ok h3
    have ns := ck_notSt h6
    have few : ∀ {env : PySem.Env}, ((backTo cp (starEach [v] env)).all (fun x => !x.1) && (backToKw cp (keywordEach [] env)).all (fun x => x.1.isSome)
      && decide (([v] : List Expr).length + ([] : List Keyword).length + (if ([] : List Keyword).isEmpty then 0 else 1) < 30)) = true := fun {env} => by
        rw [star_cons ns]; rfl
    refine PS.imp (ps_expr (pe_bm PySem.F.plainAttrs_list PySem.F.slot_list_append PySem.F.type_list_append mt_append (pe_var (i := i) (g.ni h1) (by rw [g.g.hsc]; exact visB_ok h2) d1 d2) (pa_cons ((snd e).E g.g h6) pa_nil (star_cons ns)) rfl few h5 (star_cons ns) rfl) rfl) ?_
    rintro Z σ H ⟨env, O, H0, fp, ok, s0, n0, hw⟩
    simp only [evS] at hw
    split at hw
    · rename_i l hl
      obtain ⟨w, f0, hv, r0, hf0⟩ := ok.rel.get hl
      cases r0 with
      | lstO ha0 l0 =>
        rename_i a vs f1
        refine ⟨_, hv, .inl ⟨rfl, _, SqL.of ha0⟩, env, O, fp, ok, (OS.out hw ok s0 n0).id (Same.refl H) (fun _ z => z) fun d _ q u H1 fq e1 r1 nq hf => ?_⟩
        by_cases hc : (noBrw d && lineOk l.length) = true
        · rw [if_pos hc] at q
          simp only [Bool.and_eq_true] at hc
          have ha1 := e1 _ _ ha0
          refine ⟨a, vs, u, rfl, rfl, ha1, by rw [l0.len]; exact line_lt hc.2, ?_⟩
          -- the list at a is longer by one frozen item
          have nf := ok.nf hf
          have ru := (r1.keep (W' := []) (Same.refl _) hc.1 fun _ _ _ z => z).froze (os' := fp ++ O) (fq := []) (Same.refl _) (fun b hb => List.mem_append_right _ hb) nf fun _ z => (List.not_mem_nil z).elim
          have ham : a ∈ fp := hf0 a List.mem_cons_self
          have ok1 := ok.grow e1
          refine q σ (upd H1 a (.lst (vs ++ [u]))) fp ?_ ?_ n0
          · refine ⟨?_, ok.nd, ok.dj, fun b hb => ?_⟩
            · rw [cut_upd (List.mem_append_left _ ham)]
              exact EnvR.app ok1.rel ok.nd hl ha1 hv ru
            · obtain ⟨o, z, m⟩ := ok1.od b hb
              by_cases hb' : b = a
              · subst hb'; exact absurd hb (ok.dj _ ham)
              · exact ⟨o, by rw [upd_ne hb']; exact z, m⟩
          · intro b o hb
            rw [upd_ne]
            · exact (s0.trans e1) b o hb
            · intro z
              subst z
              rw [n0 _ ham] at hb; cases hb
        · rw [if_neg hc] at q
          exact (show False from q).elim
    · exact (show False from hw).elim
end
end Pv
/-! Pv13: statements, further. -/
namespace Pv
open PySem L2 PySem.Spec
theorem EnvR.get2 {C : Kc} {B H : Hp} : ∀ {σ : L2.St} {env : Env} {fp : List Addr} {i : Nat} {d : Pv.D}, EnvR C B H σ env fp → env[i]? = some (some d) → ∃ v fq, σ[i]? = some (some v) ∧ Rl C B H [] v d fq ∧ (∀ a ∈ fq, a ∈ fp) ∧ (fp.Nodup → fq.Nodup)
  | _, _, _, i, d, .nil, h => by simp at h
  | _, _, _, 0, d, .skip _, h => by simp at h
  | _, _, _, i + 1, d, .skip r, h => by
    obtain ⟨v, fq, h1, h2, h3, h4⟩ := EnvR.get2 (i := i) (d := d) r (by simpa using h)
    exact ⟨v, fq, by simpa using h1, h2, h3, h4⟩
  | _, _, _, 0, d, .put r _, h => by
    simp at h
    subst h
    exact ⟨_, _, rfl, r, fun a ha => List.mem_append_left _ ha, fun n => (List.nodup_append.mp n).1⟩
  | _, _, _, i + 1, d, .put _ r, h => by
    obtain ⟨v, fq, h1, h2, h3, h4⟩ := EnvR.get2 (i := i) (d := d) r (by simpa using h)
    exact ⟨v, fq, by simpa using h1, h2, fun a ha => List.mem_append_right _ (h3 a ha), fun n => h4 (List.nodup_append.mp n).2.1⟩
theorem Rl.get {C : Kc} {os W : List Addr} {H : Hp} {Wx : WX} {σ : L2.St} : True := trivial
theorem sndS_ret (e : E) : SndS (.ret e) := by
  refine sndS_one (fun {G c k sc Wx X st} g h => ?_) (fun G c sc sts => by cases sts <;> rfl)
  cases st <;> first | (simp [ck1] at h; done) | skip
  rename_i o pos
  cases o <;> first | (simp [ck1] at h; done) | skip
  simp only [ck1] at h
  refine PS.imp (ps_ret ((snd e).E g.g h)) ?_
  rintro Z σ H ⟨env, O, H0, fp, ok, s0, n0, hw⟩
  simp only [evS] at hw
  refine ⟨env, O, fp, ok, (OS.out hw ok s0 n0).id (Same.refl H) (fun _ z => z) fun d _ q v H1 fq e1 r1 nq hf => ?_⟩
  have q' : VR G.C O [] H0 (rt d) Z.rt := q
  have nf := ok.nf hf
  refine q' v H1 fq (s0.trans e1) (r1.rt (cut_sub fun a ha => ?_) (Same.refl _) fun a ha o z => ?_) nq fun a ha => fresh_b s0 (hf a ha)
  · rcases List.mem_append.mp ha with ha | ha
    · exact List.mem_append_left _ ha
    · exact List.mem_append_right _ (List.mem_append_right _ ha)
  · rw [cut_out]
    · exact z
    · intro y
      rcases List.mem_append.mp y with y | y
      · exact nf a y (List.mem_append_left _ ha)
      · exact ok.dj a ha y
theorem sndS_retN : SndS .retN := by
  refine sndS_one (fun {G c k sc Wx X st} g h => ?_) (fun G c sc sts => by cases sts <;> rfl)
  cases st <;> first | (simp [ck1] at h; done) | skip
  rename_i o pos
  cases o <;> first | (simp [ck1] at h; done) | skip
  refine PS.imp ps_retN ?_
  rintro Z σ H ⟨env, O, H0, fp, ok, s0, n0, hw⟩
  simp only [evS] at hw
  exact hw .non H [] s0 .non List.nodup_nil fun _ z => nomatch z
theorem sndS_retV (i : Nat) : SndS (.retV i) := by
  refine sndS_one (fun {G c k sc Wx X st} g h => ?_) (fun G c sc sts => by cases sts <;> rfl)
  cases st <;> first | (simp [ck1] at h; done) | skip
  rename_i o pos
  cases o <;> first | (simp [ck1] at h; done) | skip
  rename_i ex
  cases ex <;> first | (simp [ck1] at h; done) | skip
  simp only [ck1, Bool.and_eq_true, decide_eq_true_eq] at h
  obtain ⟨d1, d2⟩ := nmB_ok h.2
  refine PS.imp (ps_ret (pe_var (i := i) (g.ni h.1.1) (by rw [g.g.hsc]; exact visB_ok h.1.2) d1 d2)) ?_
  rintro Z σ H ⟨env, O, H0, fp, ok, s0, n0, hw⟩
  simp only [evS] at hw
  obtain ⟨d, hd, q⟩ := (OS.out hw ok s0 n0).ok getE_ne
  obtain ⟨v, fq, hv, r, hq, hn⟩ := ok.rel.get2 (getE_ok hd)
  have q' : VR G.C O [] H0 d Z.rt := q
  refine ⟨v, hv, q' v H fq s0 (r.mono (cut_sub fun a ha => ?_) (Same.refl _)) (hn ok.nd) fun a ha => n0 a (hq a ha)⟩
  rcases List.mem_append.mp ha with ha | ha
  · exact List.mem_append_left _ (hq a ha)
  · exact List.mem_append_right _ ha
theorem sndS_brk : SndS .brk := by
  refine sndS_one (fun {G c k sc Wx X st} g h => ?_) (fun G c sc sts => by cases sts <;> rfl)
  cases st <;> first | (simp [ck1] at h; done) | skip
  refine PS.imp ps_break ?_
  rintro Z σ H ⟨env, O, H0, fp, ok, s0, n0, hw⟩
  simp only [evS] at hw
  exact hw σ H fp ok s0 n0
theorem sndS_cnt : SndS .cnt := by
  refine sndS_one (fun {G c k sc Wx X st} g h => ?_) (fun G c sc sts => by cases sts <;> rfl)
  cases st <;> first | (simp [ck1] at h; done) | skip
  refine PS.imp ps_continue ?_
  rintro Z σ H ⟨env, O, H0, fp, ok, s0, n0, hw⟩
  simp only [evS] at hw
  exact hw σ H fp ok s0 n0
theorem sndS_fz (i : Nat) : SndS (.fz i) := by
  refine sndS_one (fun {G c k sc Wx X st} g h => ?_) (fun G c sc sts => by cases sts <;> rfl)
  cases st <;> simp [ck1] at h
theorem sndS_nop : SndS .nop where
  one := fun {G c k sc Wx X st} g h => by
    cases st <;> first | (simp [ck1] at h; done) | skip
    refine PS.imp ps_pass ?_
    rintro Z σ H ⟨env, O, H0, fp, ok, s0, n0, hw⟩
    simp only [evS] at hw
    exact hw σ H fp ok s0 n0
  all := fun {G c k sc Wx X sts} g h => by
    cases sts <;> first | (simp [ckS] at h; done) | skip
    refine PSs.imp pss_nil ?_
    rintro Z σ H ⟨env, O, H0, fp, ok, s0, n0, hw⟩
    simp only [evS] at hw
    exact hw σ H fp ok s0 n0
theorem EnvR.uns {C : Kc} {B H : Hp} : ∀ {σ : L2.St} {env : Env} {fp : List Addr} {i : Nat} {d : Pv.D}, EnvR C B H σ env fp → env[i]? = some (some d) → fp.Nodup →
    ∃ v f0 fp', σ[i]? = some (some v) ∧ Rl C B H [] v d f0 ∧ EnvR C B H σ (env.set i none) fp' ∧ (∀ a ∈ fp', a ∈ fp) ∧ (∀ a ∈ f0, a ∈ fp ∧ a ∉ fp') ∧ fp'.Nodup
  | _, _, _, i, d, .nil, h, _ => by simp at h
  | _, _, _, 0, d, .skip _, h, _ => by simp at h
  | _, _, _, i + 1, d, .skip r, h, n => by
    obtain ⟨v, f0, fp', h1, h2, h3, h4, h5, h6⟩ := EnvR.uns (i := i) (d := d) r (by simpa using h) n
    exact ⟨v, f0, fp', by simpa using h1, h2, .skip h3, h4, h5, h6⟩
  | _, _, _, 0, d, .put (fq := g) (fp := fp) r e, h, n => by
    simp at h
    subst h
    obtain ⟨n1, n2, n3⟩ := List.nodup_append.mp n
    exact ⟨_, g, fp, rfl, r, .skip e, fun a ha => List.mem_append_right _ ha, fun a ha => ⟨List.mem_append_left _ ha, fun z => n3 a ha a z rfl⟩, n2⟩
  | _, _, _, i + 1, d, .put (fq := g) (fp := fp) r0 r, h, n => by
    obtain ⟨n1, n2, n3⟩ := List.nodup_append.mp n
    obtain ⟨v, f0, fp', h1, h2, h3, h4, h5, h6⟩ := EnvR.uns (i := i) (d := d) r (by simpa using h) n2
    refine ⟨v, f0, g ++ fp', by simpa using h1, h2, .put r0 h3, fun a ha => ?_, fun a ha => ⟨List.mem_append_right _ (h5 a ha).1, fun z => ?_⟩, List.nodup_append.mpr ⟨n1, h6, fun a ha b hb e => n3 a ha b (h4 b hb) e⟩⟩
    · exact (List.mem_append.mp ha).elim (List.mem_append_left _) fun z => List.mem_append_right _ (h4 a z)
    · exact (List.mem_append.mp z).elim (fun y => n3 a y a (h5 a ha).1 rfl) (h5 a ha).2
theorem OkF.uns {C : Kc} {O fp : List Addr} {env : Env} {σ : L2.St} {H : Hp} {i : Nat} {d : Pv.D} (ok : OkF C O env σ H fp) (h : env[i]? = some (some d)) :
    ∃ v f0 fp', σ[i]? = some (some v) ∧ Rl C (cut H (fp ++ O)) H [] v d f0 ∧ OkF C O (env.set i none) σ H fp' ∧ (∀ a ∈ fp', a ∈ fp) ∧ ∀ a ∈ f0, a ∈ fp ∧ a ∉ fp' := by
  obtain ⟨v, f0, fp', h1, h2, h3, h4, h5, h6⟩ := ok.rel.uns h ok.nd
  refine ⟨v, f0, fp', h1, h2, ⟨h3.mono (cut_sub fun a ha => ?_) (Same.refl _), h6, fun a ha => ok.dj a (h4 a ha), ok.od⟩, h4, h5⟩
  exact (List.mem_append.mp ha).elim (fun z => List.mem_append_left _ (h4 a z)) (List.mem_append_right _)
/-- an own thing is frozen: a word of ours, nothing of the program's -/
theorem OkF.fz {C : Kc} {O fp : List Addr} {env : Env} {σ : L2.St} {H : Hp} {i : Nat} {d : Pv.D} (ok : OkF C O env σ H fp) (h : env[i]? = some (some d)) : ∃ fp', OkF C O (env.set i (some (Pv.fz d))) σ H fp' ∧ ∀ a ∈ fp', a ∈ fp := by
  obtain ⟨v, f0, fp', h1, h2, ok', h4, h5⟩ := ok.uns h
  have fr : Rl C (cut H ([] ++ (fp' ++ O))) H [] v (Pv.fz d) [] := h2.froze (fq := []) (os' := fp' ++ O) (Same.refl _) (fun a ha => (List.mem_append.mp ha).elim (fun z => List.mem_append_left _ (h4 a z)) (List.mem_append_right _)) (fun a ha z => (List.mem_append.mp z).elim (h5 a ha).2 (ok.dj a (h5 a ha).1)) fun _ z => (List.not_mem_nil z).elim
  have hi : i < env.length := (List.getElem?_eq_some_iff.mp h).1
  obtain ⟨fp2, ok2, hs⟩ := ok'.put (i := i) (Same.refl _) fr List.nodup_nil (fun _ z => nomatch z) fr.nb (by rw [List.length_set]; exact hi)
  refine ⟨fp2, ?_, fun a ha => h4 a ((hs a ha).resolve_left List.not_mem_nil)⟩
  have e1 : (env.set i none).set i (some (Pv.fz d)) = env.set i (some (Pv.fz d)) := List.set_set _
  have e2 : σ.set i (some v) = σ := by
    obtain ⟨hj, e⟩ := List.getElem?_eq_some_iff.mp h1
    rw [← e, List.set_getElem_self]
  rw [e1, e2] at ok2
  exact ok2
theorem sndS_seq {a b : S} (ha : SndS a) (hb : SndS b) : SndS (.seq a b) where
  one := fun {G c k sc Wx X st} g h => by cases st <;> simp [ck1] at h
  all := fun {G c k sc Wx X sts} g h => by
    by_cases hf : ∃ i, a = .fz i
    · obtain ⟨i, rfl⟩ := hf
      simp only [ckS] at h
      refine PSs.imp (hb.all g h) ?_
      rintro Z σ H ⟨env, O, H0, fp, ok, s0, n0, hw⟩
      simp only [evS] at hw
      split at hw
      · rename_i d hd
        obtain ⟨fp', ok', hs⟩ := ok.fz hd
        exact ⟨_, O, H0, fp', ok', s0, fun x hx => n0 x (hs x hx), hw⟩
      · exact (show False from hw).elim
    · cases sts with
      | nil => cases a <;> first | (exact absurd ⟨_, rfl⟩ hf) | (simp [ckS] at h)
      | cons x xs =>
        have h' : ck1 G c sc a x = true ∧ ckS G c sc b xs = true := by
          cases a <;> first | (exact absurd ⟨_, rfl⟩ hf) | (simpa only [ckS, Bool.and_eq_true] using h)
        refine PSs.imp (pss_cons (ha.one g h'.1) (hb.all g h'.2)) ?_
        rintro Z σ H ⟨env, O, H0, fp, ok, s0, n0, hw⟩
        simp only [evS] at hw
        refine ⟨env, O, H0, fp, ok, s0, n0, ?_⟩
        cases e : evS G.T a env with
        | nx e1 => rw [e] at hw; exact fun σ' H' fp' ok' s' n' => ⟨e1, O, H0, fp', ok', s', n', hw⟩
        | ret d => rw [e] at hw; exact hw
        | brk e1 => rw [e] at hw; exact hw
        | cnt e1 => rw [e] at hw; exact hw
        | exc y e1 => rw [e] at hw; exact hw
        | bad => rw [e] at hw; exact hw
theorem sndS_ife {t : E} {a b : S} (ha : SndS a) (hb : SndS b) : SndS (.ife t a b) := by
  refine sndS_one (fun {G c k sc Wx X st} g h => ?_) (fun G c sc sts => by cases sts <;> rfl)
  cases st <;> first | (simp [ck1] at h; done) | skip
  simp only [ck1, Bool.and_eq_true] at h
  refine PS.imp (ps_if ((snd t).T g.g h.1.1) (ha.all g h.1.2) (hb.all g h.2)) ?_
  rintro Z σ H ⟨env, O, H0, fp, ok, s0, n0, hw⟩
  simp only [evS] at hw
  refine ⟨env, O, fp, ok, (OS.out hw ok s0 n0).id (Same.refl H) (fun _ z => z) fun d _ q H1 e1 => ?_⟩
  cases d with
  | true => exact iteT ⟨env, O, H0, fp, ok.grow e1, s0.trans e1, n0, q⟩
  | false => exact iteF ⟨env, O, H0, fp, ok.grow e1, s0.trans e1, n0, q⟩
theorem sndS_aug (i : Nat) (o : Operator) (e : E) : SndS (.aug i o e) := by
  refine sndS_one (fun {G c k sc Wx X st} g h => ?_) (fun G c sc sts => by cases sts <;> rfl)
  cases st <;> first | (simp [ck1] at h; done) | skip
  rename_i tg o' v pos
  cases tg <;> first | (simp [ck1] at h; done) | skip
  simp only [ck1, Bool.and_eq_true, decide_eq_true_eq] at h
  obtain ⟨⟨⟨⟨h1, h2⟩, rfl⟩, h4⟩, h5⟩ := h
  have rd : ∀ {ti : TIp}, (∀ (a b : Int) (Z : Ends) (σ : L2.St) (H : Hp) (env : Env) (O : List Addr) (H0 : Hp), OS G Wx O H0 Z (match (generalizing := false) o, D.int a, D.int b with
      | .Add, .int a, .int b => putE env i (.int (a + b))
      | .Sub, .int a, .int b => putE env i (.int (a - b))
      | _, _, _ => .bad) → ∃ r : Int, OS G Wx O H0 Z (putE env i (.int r)) ∧ ∀ K : VK, K (.int r) H → ti (.int a) (.int b) H K) → ∀ (Z : Ends) (σ : L2.St) (H : Hp), tS G Wx (evS G.T (.aug i o e)) Z σ H → tAug i (tE G Wx e) ti Z σ H := by
    rintro ti hti Z σ H ⟨env, O, H0, fp, ok, s0, n0, hw⟩
    simp only [evS] at hw
    obtain ⟨x, hx, q⟩ := (OS.out hw ok s0 n0).ok getE_ne
    obtain ⟨v, fq, hv, r, hq⟩ := ok.rel.get (getE_ok hx)
    refine ⟨v, hv, env, O, fp, ok, (OS.out q ok s0 n0).id (Same.refl H) (fun _ z => z) fun y _ q2 u H1 f1 e1 r1 nq hf => ?_⟩
    have hxy : ∃ a b, x = .int a ∧ y = .int b := by
      cases o <;> cases x <;> cases y <;> first | exact ⟨_, _, rfl, rfl⟩ | exact (show False from q2).elim
    obtain ⟨a, b, rfl, rfl⟩ := hxy
    obtain ⟨rfl, _⟩ := r.int_inv
    obtain ⟨rfl, _⟩ := r1.int_inv
    obtain ⟨r, q3, hk⟩ := hti a b Z σ H1 env O H0 q2
    exact hk _ (q3.put (fq := []) (W := []) ok s0 n0 e1 (.int r) List.nodup_nil fun _ z => nomatch z)
  cases o <;> first | (cases h4; done) | skip
  · exact PS.imp (ps_aug (i := i) g.nd (g.ni h1) (g.loc h2) ((snd e).E g.g h5) ip_add (.inl (g.fn _))) (rd fun a b Z σ H env O H0 q => ⟨a + b, q, fun K hk => ⟨a, b, rfl, rfl, hk⟩⟩)
  · exact PS.imp (ps_aug (i := i) g.nd (g.ni h1) (g.loc h2) ((snd e).E g.g h5) ip_sub (.inl (g.fn _))) (rd fun a b Z σ H env O H0 q => ⟨a - b, q, fun K hk => ⟨a, b, rfl, rfl, hk⟩⟩)
theorem sndS_whl {n : Nat} {t : E} {b : S} (hb : SndS b) : SndS (.whl n t b) := by
  refine sndS_one (fun {G c k sc Wx X st} g h => ?_) (fun G c sc sts => by cases sts <;> rfl)
  cases st <;> first | (simp [ck1] at h; done) | skip
  rename_i z xs els pos
  cases els <;> first | (simp [ck1] at h; done) | skip
  simp only [ck1, Bool.and_eq_true] at h
  refine PS.imp (ps_while g.g.po ((snd t).T g.g h.1) (hb.all g h.2)) ?_
  rintro Z σ H ⟨env, O, H0, fp, ok, s0, n0, hw⟩
  simp only [evS] at hw
  refine ⟨fun m σ' H' => ∃ env' fp', OkF G.C O env' σ' H' fp' ∧ Same H0 H' ∧ (∀ a ∈ fp', H0 a = none) ∧ OS G Wx O H0 Z (whlD (evT G.T t) (evS G.T b) m env'), ⟨n, env, fp, ok, s0, n0, hw⟩, ?_⟩
  rintro m σ1 H1 ⟨env1, fp1, ok1, s1, n1, h1⟩
  cases m with
  | zero => exact (show False from h1).elim
  | succ m =>
    simp only [whlD] at h1
    refine ⟨env1, O, fp1, ok1, ?_⟩
    cases e : evT G.T t env1 with
    | exc y =>
      rw [e] at h1
      exact fun cls dx H' e' r => h1 cls dx σ1 H' fp1 (ok1.grow e') (s1.trans e') n1 r
    | bad => rw [e] at h1; exact h1
    | ok d =>
      rw [e] at h1
      intro H2 e2
      have ok2 := ok1.grow e2
      have s2 := s1.trans e2
      cases d with
      | false => exact iteF (h1 σ1 H2 fp1 ok2 s2 n1)
      | true =>
        refine iteT ⟨fun σ' H' => ∃ env' fp', OkF G.C O env' σ' H' fp' ∧ Same H0 H' ∧ (∀ a ∈ fp', H0 a = none) ∧ OS G Wx O H0 Z (whlD (evT G.T t) (evS G.T b) m env'), fun σ' H' h => ⟨m, Nat.lt_succ_self m, h⟩, env1, O, H0, fp1, ok2, s2, n1, ?_⟩
        cases e3 : evS G.T b env1 with
        | nx e4 => rw [e3] at h1; exact fun σ' H' fp' ok' s' n' => ⟨e4, fp', ok', s', n', h1⟩
        | cnt e4 => rw [e3] at h1; exact fun σ' H' fp' ok' s' n' => ⟨e4, fp', ok', s', n', h1⟩
        | brk e4 => rw [e3] at h1; exact h1
        | ret d => rw [e3] at h1; exact h1
        | exc y e4 => rw [e3] at h1; exact h1
        | bad => rw [e3] at h1; exact h1
end Pv
/-! Pv14: raise, try. -/
namespace Pv
open PySem L2 PySem.Spec
theorem sndS_rse (n : Nat) : SndS (.rse n) := by
  refine sndS_one (fun {G c k sc Wx X st} g h => ?_) (fun G c sc sts => by cases sts <;> rfl)
  cases st <;> first | (simp [ck1] at h; done) | skip
  rename_i e cs pos
  match e, cs, h with
  | some (.Call (.Name x p) [.Constant (.str m) j p2] [] p3), none, h =>
    simp only [ck1, Bool.and_eq_true, Bool.not_eq_true', decide_eq_true_eq] at h
    obtain ⟨⟨⟨hh, h1⟩, rfl⟩, h3⟩ := h
    have hc := g.cls.sub n h1
    refine PS.imp (L2N.ps_raise (g.g.calm hh) g.g.tk (L2N.pmk_own (C := G.C.cl n) (bmB := veT) PySem.F.excBase_ValueError (by rw [g.g.hK]; exact g.cls.exI n h1) (by rw [g.g.hmg]; exact g.cls.mg n hc) (by rw [g.g.hK]; exact g.cls.kp n h1)
      (raises_own (by rw [g.g.hK]; exact g.cls.bs n h1) (by rw [g.g.hK]; exact g.cls.ty n h1)) (g.g.gl h3) (glB_ok h3).2.1)) ?_
    rintro Z σ H ⟨env, O, H0, fp, ok, s0, n0, hw⟩
    simp only [evS] at hw
    exact hw _ none σ H fp ok s0 n0 ⟨rfl, .inl ⟨rfl, rfl⟩⟩
/-- the world of an except suite -/
def Gx.hotX (G : Gx) (m : Nat) (a : Addr) : Gx := { G with C := { G.C with ex := some (m, a) } }
def noHX : WX := fun _ _ _ _ => False
theorem EnvR.cx {C C' : Kc} {B H : Hp} (hK : C.K = C'.K) (hc : C.cl = C'.cl) : ∀ {σ : L2.St} {env : Env} {fp : List Addr}, EnvR C B H σ env fp → (env.all noExnO = true ∨ C.ex = none) → EnvR C' B H σ env fp
  | _, _, _, .nil, _ => .nil
  | _, _, _, .skip r, w => .skip (EnvR.cx hK hc r (w.imp_left fun z => by simp only [List.all_cons, Bool.and_eq_true] at z; exact z.2))
  | _, _, _, .put r0 r, w => .put (r0.cx hK hc (w.imp_left fun z => by simp only [List.all_cons, Bool.and_eq_true] at z; exact z.1)) (EnvR.cx hK hc r (w.imp_left fun z => by simp only [List.all_cons, Bool.and_eq_true] at z; exact z.2))
theorem OkF.cx {C C' : Kc} {O fp : List Addr} {env : Env} {σ : L2.St} {H : Hp} (hK : C.K = C'.K) (hc : C.cl = C'.cl) (ok : OkF C O env σ H fp) (w : env.all noExnO = true ∨ C.ex = none) : OkF C' O env σ H fp := ⟨ok.rel.cx hK hc w, ok.nd, ok.dj, ok.od⟩
/-- a slot is emptied -/
theorem EnvR.gone {C : Kc} {B H : Hp} : ∀ {σ : L2.St} {env : Env} {fp : List Addr} {i : Nat}, EnvR C B H σ env fp → fp.Nodup → ∃ fp', EnvR C B H (σ.set i none) (env.set i none) fp' ∧ (∀ a ∈ fp', a ∈ fp) ∧ fp'.Nodup
  | _, _, _, i, .nil, n => ⟨[], .nil, fun _ z => z, n⟩
  | _, _, _, 0, .skip r, n => ⟨_, .skip r, fun _ z => z, n⟩
  | _, _, _, i + 1, .skip r, n => by
    obtain ⟨fp', h1, h2, h3⟩ := EnvR.gone (i := i) r n
    exact ⟨fp', .skip h1, h2, h3⟩
  | _, _, _, 0, .put (fq := g) (fp := fp) r e, n => ⟨fp, .skip e, fun a ha => List.mem_append_right _ ha, (List.nodup_append.mp n).2.1⟩
  | _, _, _, i + 1, .put (fq := g) (fp := fp) r0 r, n => by
    obtain ⟨n1, n2, n3⟩ := List.nodup_append.mp n
    obtain ⟨fp', h1, h2, h3⟩ := EnvR.gone (i := i) r n2
    refine ⟨g ++ fp', .put r0 h1, fun a ha => ?_, List.nodup_append.mpr ⟨n1, h3, fun a ha b hb e => n3 a ha b (h2 b hb) e⟩⟩
    exact (List.mem_append.mp ha).elim (List.mem_append_left _) fun z => List.mem_append_right _ (h2 a z)
theorem OkF.gone {C : Kc} {O fp : List Addr} {env : Env} {σ : L2.St} {H : Hp} {i : Nat} (ok : OkF C O env σ H fp) : ∃ fp', OkF C O (env.set i none) (σ.set i none) H fp' ∧ ∀ a ∈ fp', a ∈ fp := by
  obtain ⟨fp', h1, h2, h3⟩ := ok.rel.gone (i := i) ok.nd
  refine ⟨fp', ⟨h1.mono (cut_sub fun a ha => ?_) (Same.refl _), h3, fun a ha => ok.dj a (h2 a ha), ok.od⟩, h2⟩
  exact (List.mem_append.mp ha).elim (fun z => List.mem_append_left _ (h2 a z)) (List.mem_append_right _)
theorem boot_VE : bootBuiltins "ValueError" = some (.type "ValueError") := by decide +kernel
/-- isinstance of the exception at hand: one class, a tuple of classes -/
def rIsEH (K : PySem.W.Frag) (D a : Addr) : List V → Hp → VK → Prop := fun xs H Q => ∃ (cs : V) (b : Bool), xs = [.ref a, cs] ∧
  ((∃ cv, (∀ u, RelV cs u → u = cv) ∧ PySem.W.kitOne K (.ref D) cv = some b) ∨ (∃ tp vs us, cs = .ref tp ∧ H tp = some (.tup vs) ∧ Paired ClsV vs us ∧ PySem.W.kitAny K (.ref D) us = some b)) ∧ Q (.bl b) H
theorem call_isEH {X : Cx} {a D : Addr} {oe : Obj} (C : ExcC X.K D) (hz : L2N.Zn (.ref D) none oe) (hf : ∃ vs, oe.data = .fields vs) (at_ : ∀ {pins σ H s}, Inv X pins σ H s → s.heap.get? a = some oe) : CallR X (.builtin "isinstance") (rIsEH X.K D a) := by
  intro pins s σ H xs us Q I r h
  obtain ⟨cs, b, rfl, hcs, q⟩ := h
  obtain ⟨u1, u2, rfl, r1, r2⟩ := vals2 r
  cases r1
  have J : PySem.W.InstAt s.heap a oe D none := by
    have g := at_ I
    obtain ⟨vs, hv⟩ := hf
    obtain ⟨k1, k2, k3⟩ := hz
    cases oe with
    | mk cc dd dt sl =>
      simp only at k1 k2 hv
      subst k1 k2 hv
      exact ⟨g, rfl, rfl, trivial⟩
  have Z := PySem.W.handS_kitx_exc (x := a) (ox := oe) C.hg C.hk C.hs C.hd C.ha C.hn C.ht C.hm
  rcases hcs with ⟨cv, hcv, e⟩ | ⟨tp, vs, ws, rfl, hT, pc, e⟩
  · have ec := hcv _ r2
    subst ec
    exact PySem.W.kia_one Z I.kIn J e (fun z => nomatch z) fun tk => ⟨.bl b, H, I.tok tk, rfl, q⟩
  · cases (show u2 = Value.ref tp from r2)
    obtain ⟨_, its, rv, o, h1, h2, n, h3⟩ := (show ObjOk X.prog X.w H s.heap tp (.tup vs) from I.hok tp _ hT)
    have e3 := ClsV.all pc rv
    subst e3
    obtain ⟨oc, od, dt, sl⟩ := o
    simp only at h2 h3
    subst h2 h3
    exact PySem.W.kia_tup Z I.kIn J h1 e (fun z => nomatch z) fun tk => ⟨.bl b, H, I.tok tk, rfl, q⟩
theorem kitAny_any {K : PySem.W.Frag} {t : Value} {cl : Nat → Addr} {f : Nat → Bool} : ∀ (ns : List Nat), (∀ n ∈ ns, PySem.W.kitOne K t (.ref (cl n)) = some (f n)) → PySem.W.kitAny K t (ns.map fun n => .ref (cl n)) = some (ns.any f)
  | [], _ => kitAny_nil
  | n :: ns, h => by
    refine kitAny_cons (b := f n) (h n List.mem_cons_self) (fun z => ?_) (fun z => by rw [List.any_cons, z]; rfl)
    rw [List.any_cons, z, Bool.false_or]
    exact kitAny_any ns fun m hm => h m (List.mem_cons_of_mem _ hm)
theorem pairs_cl {cl : Nat → Addr} : ∀ ns : List Nat, Paired ClsV (ns.map fun n => V.ref (cl n)) (ns.map fun n => Value.ref (cl n))
  | [] => .nil
  | n :: ns => .cons (.own _) (pairs_cl ns)
section
variable {G : Gx} {c : Cn} {sc : Scope} {Wx : WX} {X : Cx} {k m : Nat} {a : Addr} {oe : Obj} {rs : List Nat}
theorem pa_cs (hsc : X.env.scope = sc) (hmg : X.mg = G.mg) (cl : ClsF G rs) : ∀ (ns : List Nat) (ys : List Expr), ckCs G.toGt sc ns ys = true → (∀ n ∈ ns, n ∈ G.T.cs) ∧ PA X ys (fun _ H Q => Q (ns.map fun n => V.ref (G.C.cl n)) H)
  | [], [], _ => ⟨fun _ z => (List.not_mem_nil z).elim, pa_nil⟩
  | n :: ns, .Name y py :: ys, h => by
    simp only [ckCs, Bool.and_eq_true, decide_eq_true_eq] at h
    obtain ⟨⟨⟨h1, rfl⟩, h3⟩, h4⟩ := h
    obtain ⟨i1, i2⟩ := pa_cs hsc hmg cl ns ys h4
    refine ⟨fun z hz => (List.mem_cons.mp hz).elim (fun q => by rw [q]; exact h1) (i1 z), ?_⟩
    refine PA.imp (pa_cons (pe_glob (v := .ref (G.C.cl n)) (by show X.env.scope.names.lookup _ = _; rw [hsc]; exact (glB_ok h3).1) (by rw [hmg]; exact cl.mg n h1) rfl (glB_ok h3).2.1) i2) fun σ H Q q => ?_
    exact q
/-- isinstance of the exception at hand -/
theorem hot_isx (hg : HotG G k X m a oe) (cl : ClsF G rs) (hK : X.K = G.C.K) (hmg : X.mg = G.mg) (hN : X.N = c.N) (hsc : X.env.scope = sc) (blt : ∀ x ∈ bltNames, G.mg x = none) {e : E} {x : Expr} (he : isxE e = true) (h : ckE G.toGt c sc e x = true) : PE X x (tE G Wx e) := by
  obtain ⟨hm, hz, hf⟩ := hg.ob
  have gl : ∀ {y : Str}, glB sc y = true → Gl X y := fun {y} z => by
    show X.env.scope.names.lookup y = _
    rw [hsc]
    exact (glB_ok z).1
  have mgN : ∀ {y : Str}, y ∈ bltNames → X.mg y = none := fun {y} z => by rw [hmg]; exact blt y z
  have ci := call_isEH (X := X) (a := a) (D := G.C.cl m) (oe := oe) (by rw [hK]; exact cl.exc m hm) hz hf (fun I => (hg.at_ I).1)
  have key : ∀ {i : Nat} {f : D → Res Bool} {g : Nat → Bool} {env : Env} {σ : L2.St} {H : Hp} {O fp : List Addr} {Q : VK}, (∀ d y, f d ≠ .exc y) → (∀ d b, f d = .ok b → ∃ n l, d = .ins .exn n l ∧ b = g n) → OkF G.C O env σ H fp →
      WG G.C (fp ++ O) Wx σ H (do return D.bl (← f (← getE env i))) (fun d => VR G.C (fp ++ O) fp H d Q) → σ[i]? = some (some (.ref a)) ∧ ∀ H', Same H H' → Q (.bl (g m)) H' := fun {i f g env σ H O fp Q} nx hv ok hw => by
    cases q : getE env i with
    | exc y => exact absurd q (getE_ne y)
    | bad => rw [q] at hw; exact hw.elim
    | ok d =>
      rw [q] at hw
      have hw' : WG G.C (fp ++ O) Wx σ H (do return D.bl (← f d)) (fun d => VR G.C (fp ++ O) fp H d Q) := hw
      cases q2 : f d with
      | exc y => exact absurd q2 (nx d y)
      | bad => rw [q2] at hw'; exact hw'.elim
      | ok b =>
        rw [q2] at hw'
        obtain ⟨n, l, rfl, rfl⟩ := hv d b q2
        obtain ⟨v, fq, h1, r, _⟩ := ok.rel.get (getE_ok q)
        cases r with
        | insX e =>
          have e' := hg.ex.symm.trans e
          cases e'
          exact ⟨h1, fun H' e => hw' (.bl _) H' [] e (.bl _) List.nodup_nil fun _ z => nomatch z⟩
  cases e <;> first | (cases he; done) | skip
  · rename_i i n
    cases x <;> first | (simp [ckE] at h; done) | skip
    rename_i fn xs kws pos
    match fn, xs, kws, h with
    | .Name nm p0, [.Name x p1, .Name y p2], [], h =>
      simp only [ckE, Bool.and_eq_true, decide_eq_true_eq] at h
      obtain ⟨⟨⟨⟨⟨⟨⟨⟨_, h1⟩, rfl⟩, h3⟩, rfl⟩, h5⟩, h6⟩, h7⟩, h8⟩ := h
      obtain ⟨d1, d2⟩ := nmB_ok h8
      refine PE.imp (pe_callB ci (gl h5) (mgN (by simp [bltNames])) PyProof.Rows.boot_isinstance
        (pa_cons (pe_var (i := i) (by rw [hN]; exact h3) (by rw [hsc]; exact visB_ok h7) d1 d2)
          (pa_cons (pe_glob (v := .ref (G.C.cl n)) (gl h6) (by rw [hmg]; exact cl.mg n h1) rfl (glB_ok h6).2.1) pa_nil))) ?_
      rintro σ H Q ⟨env, O, fp, ok, hw⟩
      simp only [evE] at hw
      obtain ⟨e1, e2⟩ := key (f := isxD G.T n) (g := fun m => G.T.sub m n) (fun d y => by unfold isxD; split <;> intro z <;> cases z) (fun d b z => by unfold isxD at z; split at z <;> cases z; exact ⟨_, _, rfl, rfl⟩) ok hw
      exact ⟨_, e1, .ref (G.C.cl n), _, rfl, .inl ⟨Value.ref (G.C.cl n), fun u r => by cases r; rfl, by rw [hK]; exact cl.kit m hm n h1⟩, e2 H (Same.refl _)⟩
  · rename_i i
    cases x <;> first | (simp [ckE] at h; done) | skip
    rename_i fn xs kws pos
    match fn, xs, kws, h with
    | .Name nm p0, [.Name x p1, .Name y p2], [], h =>
      simp only [ckE, Bool.and_eq_true, decide_eq_true_eq] at h
      obtain ⟨⟨⟨⟨⟨⟨⟨_, rfl⟩, h3⟩, rfl⟩, h5⟩, h6⟩, h7⟩, h8⟩ := h
      obtain ⟨d1, d2⟩ := nmB_ok h8
      refine PE.imp (pe_callB ci (gl h5) (mgN (by simp [bltNames])) PyProof.Rows.boot_isinstance
        (pa_cons (pe_var (i := i) (by rw [hN]; exact h3) (by rw [hsc]; exact visB_ok h7) d1 d2)
          (pa_cons (pe_bltn (v := .ty "ValueError") (gl h6) (mgN (by simp [bltNames])) boot_VE rfl (by decide) (by decide)) pa_nil))) ?_
      rintro σ H Q ⟨env, O, fp, ok, hw⟩
      simp only [evE] at hw
      obtain ⟨e1, e2⟩ := key (f := isvD) (g := fun _ => true) (fun d y => by unfold isvD; split <;> intro z <;> cases z) (fun d b z => by unfold isvD at z; split at z <;> cases z; exact ⟨_, _, rfl, rfl⟩) ok hw
      exact ⟨_, e1, .ty "ValueError", _, rfl, .inl ⟨Value.type "ValueError", fun u r => by cases r; rfl, by rw [hK]; exact cl.ve m hm⟩, e2 H (Same.refl _)⟩
  · rename_i i ns
    cases x <;> first | (simp [ckE] at h; done) | skip
    rename_i fn xs kws pos
    match fn, xs, kws, h with
    | .Name nm p0, [.Name x p1, .Tuple ys tc p2], [], h =>
      simp only [ckE, Bool.and_eq_true, decide_eq_true_eq] at h
      obtain ⟨⟨⟨⟨⟨⟨⟨_, hl⟩, rfl⟩, h3⟩, h4⟩, h5⟩, h7⟩, h8⟩ := h
      obtain ⟨d1, d2⟩ := nmB_ok h8
      obtain ⟨hn, hy⟩ := pa_cs (X := X) hsc hmg cl ns ys h4
      refine PE.imp (pe_callB ci (gl h5) (mgN (by simp [bltNames])) PyProof.Rows.boot_isinstance
        (pa_cons (pe_var (i := i) (by rw [hN]; exact h3) (by rw [hsc]; exact visB_ok h7) d1 d2)
          (pa_cons (pe_tup hy) pa_nil))) ?_
      rintro σ H Q ⟨env, O, fp, ok, hw⟩
      simp only [evE] at hw
      obtain ⟨e1, e2⟩ := key (f := isxsD G.T ns) (g := fun m => ns.any (G.T.sub m)) (fun d y => by unfold isxsD; split <;> intro z <;> cases z) (fun d b z => by unfold isxsD at z; split at z <;> cases z; exact ⟨_, _, rfl, rfl⟩) ok hw
      exact ⟨_, e1, by rw [List.length_map]; exact line_le hl, fun p hp => ⟨.ref p, _, rfl, .inr ⟨p, _, _, rfl, upd_same, pairs_cl ns, kitAny_any (f := G.T.sub m) ns fun n hn' => by rw [hK]; exact cl.kit m hm n (hn n hn')⟩, e2 _ (same_new hp)⟩⟩
end
theorem suite_good {G : Gx} {c : Cn} {sc : Scope} {Wx : WX} {X : Cx} {k : Nat} {m : Nat} {a : Addr} {oe : Obj} {pn : List (Addr × Obj)} (g : GoodS G c k sc Wx X) (hh : c.hot = false) (hm : m ∈ G.T.xs) (hz : L2N.Zn (.ref (G.C.cl m)) none oe) (hf : ∃ vs, oe.data = .fields vs) :
    GoodS (G.hotX m a) { c with hot := true, fs := [] } k sc noHX (X.suite a ((a, oe) :: pn)) :=
  let hg : HotG (G.hotX m a) k (X.suite a ((a, oe) :: pn)) m a oe :=
    { ex := rfl
      ob := ⟨hm, hz, hf⟩
      at_ := fun I => by
        have P1 := I.pin (a, oe) (List.mem_append_left _ List.mem_cons_self)
        exact ⟨P1.1, P1.2.1, fun z => (List.mem_cons.mp (I.stkSub _ z)).elim P1.2.2.1 P1.2.2.2.1⟩
      hc := by
        obtain ⟨vs, hv⟩ := hf
        exact ⟨(a, oe), ⟨rfl, vs, hv, hz.2.2 vs hv⟩, List.mem_cons_self⟩
      room := ⟨(g.g.room hh).dp, (g.g.room hh).un⟩ }
  let cls : ClsF (G.hotX m a) c.rs := { mg := g.cls.mg, sub := g.cls.sub, exI := g.cls.exI, kp := g.cls.kp, bs := g.cls.bs, ty := g.cls.ty, exm := g.cls.exm, kit := g.cls.kit, exc := g.cls.exc, ve := g.cls.ve }
  {
  g := { hP := g.g.hP, hw := g.g.hw, hK := g.g.hK, hmg := g.g.hmg, hb := g.g.hb, hN := g.g.hN, nd := g.g.nd, hsc := g.g.hsc
         calm := fun z => by cases z
         room := fun z => by cases z
         units := g.g.units
         tk := fun u s' ⟨_, _, _, _, _, _, _, _, _, _, _, _, _, _, _, _, z⟩ => z
         po := PassesOwn.never
         blt := g.g.blt
         glo := g.g.glo
         fns := fun i z => (List.not_mem_nil z).elim
         fnh := fun i hi => ⟨(g.g.fnh i hi).ex⟩
         hotg := fun _ => ⟨m, a, oe, hg⟩
         isx := fun _ e x he hx => hot_isx (c := { c with hot := true, fs := [] }) hg cls g.g.hK g.g.hmg g.g.hN g.g.hsc g.g.blt he hx }
  fn := g.fn
  st := g.st
  fr := g.fr
  cls := cls
  exn := fun z => by cases z }
theorem sndS_tryX {b h : S} (n i : Nat) (hb : SndS b) (hh : SndS h) : SndS (.tryX b n i h) := by
  refine sndS_one (fun {G c k sc Wx X st} g hc => ?_) (fun G c sc sts => by cases sts <;> rfl)
  cases st <;> first | (simp [ck1] at hc; done) | skip
  rename_i xs hs els fin pos
  match hs, els, fin, hc with
  | [.ExceptHandler (some (.Name x np)) (some nm) ys p2], [], [], hc =>
    simp only [ck1, Bool.and_eq_true, Bool.not_eq_true', decide_eq_true_eq] at hc
    obtain ⟨⟨⟨⟨⟨⟨⟨⟨hh0, h1⟩, rfl⟩, h3⟩, h4⟩, h5⟩, h6⟩, h7⟩, h8⟩ := hc
    have hex := g.exn hh0
    match ys, h6, h8 with
    | y :: ys, _, h8 =>
      have ts : ∀ (a : Addr) (oe : Obj) (cls : Value) (d : Option Addr) (pn : List (Addr × Obj)), L2N.Zn cls d oe → (∃ vs, oe.data = .fields vs) → PSs (X.suite a ((a, oe) :: pn)) (y :: ys)
          (fun Z σ H => ∃ m, cls = .ref (G.C.cl m) ∧ d = none ∧ m ∈ G.T.xs ∧ tS (G.hotX m a) noHX (evS G.T h) Z σ H) := fun a oe cls d pn hz hf =>
        ⟨fun pins s σ H Z I hq => by
          obtain ⟨m, rfl, rfl, hm, hq⟩ := hq
          exact (hh.all (suite_good g hh0 hm hz hf) h8).run pins s σ H Z I hq⟩
      refine PS.imp (L2N.ps_try_as (c := .ref (G.C.cl n)) (i := i) (Wout := Wx) g.st g.fr g.nd (g.ni h4) (by show X.env.scope.names.lookup nm = _; rw [g.g.hsc]; exact h5) ⟨g.g.gl h3, (glB_ok h3).2.1, .inl (by rw [g.g.hmg]; exact g.cls.mg n h1)⟩ g.g.tk
        (tb := fun W => tS G W (evS G.T b)) (fun W pn xe tk po => hb.all (X := X.tr pn xe) (sc := sc) (c := c) (k := k)
          { g := { hP := g.g.hP, hw := g.g.hw, hK := g.g.hK, hmg := g.g.hmg, hb := g.g.hb, hN := g.g.hN, nd := g.g.nd, hsc := g.g.hsc, calm := g.g.calm, room := g.g.room, units := g.g.units, tk := tk, po := po, blt := g.g.blt, glo := g.g.glo, fns := g.g.fns, fnh := g.g.fnh, hotg := fun z => (by rw [hh0] at z; cases z), isx := fun z => by rw [hh0] at z; cases z }
            fn := g.fn, st := g.st, fr := g.fr, cls := g.cls, exn := g.exn } h7) ts) ?_
      rintro Z σ H ⟨env, O, H0, fp, ok, s0, n0, hw⟩
      simp only [evS] at hw
      refine ⟨env, O, H0, fp, ok, s0, n0, ?_⟩
      cases e : evS G.T b env with
      | nx e1 => rw [e] at hw; exact hw
      | ret d => rw [e] at hw; exact hw
      | brk e1 => rw [e] at hw; exact hw
      | cnt e1 => rw [e] at hw; exact hw
      | bad => rw [e] at hw; exact hw
      | exc x e1 =>
        rw [e] at hw
        intro cls dx σ1 H1 fp1 ok1 s1 n1 rx
        simp only at hw
        split at hw
        · rename_i hcc
          simp only [Bool.and_eq_true, decide_eq_true_eq, List.contains_iff_mem] at hcc
          obtain ⟨⟨⟨hm, hfs⟩, hfr⟩, hi⟩ := hcc
          have hfs' : x.fs = [] := by simpa using hfs
          obtain ⟨rfl, hdx⟩ := rx
          have hdx' : dx = none := hdx.elim (fun z => z.2) fun ⟨_, _, z, _⟩ => absurd hfs' z
          subst hdx'
          refine ⟨G.T.sub x.c n, by rw [g.g.hK]; exact g.cls.exm x.c hm n h1, fun hy a ha => ⟨x.c, rfl, rfl, hm, ?_⟩, fun hn => ?_⟩
          · rw [hy, if_pos rfl] at hw
            have ok2 : OkF (G.hotX x.c a).C O e1 σ1 H1 fp1 := OkF.cx (C := G.C) (C' := (G.hotX x.c a).C) rfl rfl ok1 (.inr hex)
            obtain ⟨fp3, ok3, hs3⟩ := ok2.put (fq := []) (v := .ref a) (d := .ins .exn x.c []) (i := i) (W := []) (Same.refl _) (.insX rfl) List.nodup_nil (fun _ z => nomatch z) rfl hi
            refine ⟨_, O, H0, fp3, ok3, s1, fun b hb => n1 b ((hs3 b hb).resolve_left List.not_mem_nil), ?_⟩
            cases e2 : evS G.T h (e1.set i (some (.ins .exn x.c []))) with
            | nx e3 =>
              rw [e2] at hw
              intro σ4 H4 fp4 ok4 s4 n4
              simp only [clrO] at hw
              split at hw
              · rename_i hk
                simp only [Bool.and_eq_true] at hk
                obtain ⟨fp5, ok5, hs5⟩ := ok4.gone (i := i)
                exact hw _ H4 fp5 (OkF.cx (C := (G.hotX x.c a).C) (C' := G.C) rfl rfl ok5 (.inl hk.2)) s4 fun b hb => n4 b (hs5 b hb)
              · exact (show False from hw).elim
            | ret d =>
              rw [e2] at hw
              intro v H4 fq e4 r4 nq hf
              simp only [clrO] at hw
              split at hw
              · rename_i hk
                exact hw v H4 fq e4 (Rl.cx (C := (G.hotX x.c a).C) (C' := G.C) rfl rfl r4 (.inl hk)) nq hf
              · exact (show False from hw).elim
            | brk e3 => rw [e2] at hw; exact (show False from hw).elim
            | cnt e3 => rw [e2] at hw; exact (show False from hw).elim
            | exc y e3 => rw [e2] at hw; exact (show False from hw).elim
            | bad => rw [e2] at hw; exact (show False from hw).elim
          · rw [hn, if_neg Bool.false_ne_true] at hw
            exact hw _ none σ1 H1 fp1 ok1 s1 n1 ⟨rfl, .inl ⟨hfs', rfl⟩⟩
        · exact (show False from hw).elim
end Pv
/-! Pv21: own containers changed in place. -/
namespace Pv
open PySem L2 PySem.Spec
/-- what stands at an own slot is another thing now -/
theorem EnvR.mut {C : Kc} {B H : Hp} {a : Addr} {o' : HO} {d d' : Pv.D} (hown : ∀ {f}, Rl C B H [] (.ref a) d f → a ∈ f) (hn : Rl C B (upd H a o') [] (.ref a) d' [a]) : ∀ {σ : L2.St} {env : Env} {fp : List Addr} {i : Nat}, EnvR C B H σ env fp → fp.Nodup → env[i]? = some (some d) → σ[i]? = some (some (.ref a)) →
    ∃ fp', EnvR C B (upd H a o') σ (env.set i (some d')) fp' ∧ (∀ b ∈ fp', b ∈ fp) ∧ fp'.Nodup
  | _, _, _, i, .nil, _, h, _ => by simp at h
  | _, _, _, 0, .skip _, _, h, _ => by simp at h
  | _, _, _, i + 1, .skip e, nd, h, hs => by
    obtain ⟨fp', h1, h2, h3⟩ := EnvR.mut hown hn (i := i) e nd (by simpa using h) (by simpa using hs)
    exact ⟨fp', .skip h1, h2, h3⟩
  | _, _, _, i + 1, .put (fq := f0) (fp := fp) (σ := σ0) (env := env0) r e, nd, h, hs => by
    obtain ⟨n1, n2, n3⟩ := List.nodup_append.mp nd
    have h' : env0[i]? = some (some d) := by simpa using h
    have hs' : σ0[i]? = some (some (.ref a)) := by simpa using hs
    obtain ⟨fp', h1, h2, h3⟩ := EnvR.mut hown hn (i := i) e n2 h' hs'
    obtain ⟨w, fq, hw, rw', hq⟩ := e.get h'
    rw [hs'] at hw
    cases hw
    have hm : a ∈ fp := hq _ (hown rw')
    refine ⟨f0 ++ fp', .put (r.app1 fun z => n3 a z a hm rfl) h1, fun b hb => (List.mem_append.mp hb).elim (List.mem_append_left _) fun z => List.mem_append_right _ (h2 b z), List.nodup_append.mpr ⟨n1, h3, fun x hx y hy exy => n3 x hx y (h2 y hy) exy⟩⟩
  | _, _, _, 0, .put (fq := f0) (fp := fp) r e, nd, h, hs => by
    obtain ⟨n1, n2, n3⟩ := List.nodup_append.mp nd
    simp at h
    subst h
    simp at hs
    subst hs
    have hm := hown r
    refine ⟨[a] ++ fp, .put hn (e.app1 fun z => n3 a hm a z rfl), fun b hb => ?_, List.nodup_append.mpr ⟨by simp, n2, fun x hx y hy exy => ?_⟩⟩
    · rcases List.mem_append.mp hb with z | z
      · have eb : b = a := by simpa using z
        rw [eb]
        exact List.mem_append_left _ hm
      · exact List.mem_append_right _ z
    · have ex : x = a := by simpa using hx
      exact n3 a hm y hy (ex ▸ exy)
theorem OkF.mut {C : Kc} {O fp : List Addr} {env : Env} {σ : L2.St} {H : Hp} {i : Nat} {a : Addr} {o' : HO} {d d' : Pv.D} (ok : OkF C O env σ H fp) (hl : env[i]? = some (some d)) (hs : σ[i]? = some (some (.ref a))) (hown : ∀ {f}, Rl C (cut H (fp ++ O)) H [] (.ref a) d f → a ∈ f)
    (hn : Rl C (cut H (fp ++ O)) (upd H a o') [] (.ref a) d' [a]) : ∃ fp', OkF C O (env.set i (some d')) σ (upd H a o') fp' ∧ (∀ b ∈ fp', b ∈ fp) ∧ a ∈ fp := by
  obtain ⟨fp', h1, h2, h3⟩ := ok.rel.mut hown hn ok.nd hl hs
  obtain ⟨w, fq, hw, rw', hq⟩ := ok.rel.get hl
  rw [hs] at hw
  cases hw
  have hm : a ∈ fp := hq _ (hown rw')
  refine ⟨fp', ⟨h1.mono (fun b o z => ?_) (Same.refl _), h3, fun b hb => ok.dj b (h2 b hb), fun b hb => ?_⟩, h2, hm⟩
  · obtain ⟨z1, z2⟩ := cut_some z
    rw [cut_out fun y => z2 ((List.mem_append.mp y).elim (fun y => List.mem_append_left _ (h2 b y)) (List.mem_append_right _))]
    rw [upd_ne (fun y => z2 (List.mem_append_left _ (by rw [y]; exact hm)))]
    exact z1
  · obtain ⟨o, z, m⟩ := ok.od b hb
    by_cases hb' : b = a
    · subst hb'; exact absurd hb (ok.dj _ hm)
    · exact ⟨o, by rw [upd_ne hb']; exact z, m⟩
theorem same_mut {H0 H : Hp} {a : Addr} {o : HO} (s : Same H0 H) (n : H0 a = none) : Same H0 (upd H a o) := fun b u hb => by
  rw [upd_ne]
  · exact s b u hb
  · intro z
    subst z
    rw [n] at hb; cases hb
/-- x.clear() -/
theorem sndS_clr (i : Nat) : SndS (.clr i) := by
  refine sndS_one (fun {G c k sc Wx X st} g h => ?_) (fun G c sc sts => by cases sts <;> rfl)
  cases st <;> first | (simp [ck1] at h; done) | skip
  rename_i ex pos
  cases ex <;> first | (simp [ck1] at h; done) | skip
  rename_i fn as kws cp
  cases fn <;> first | (simp [ck1] at h; done) | skip
  rename_i o m ap
  cases o <;> first | (simp [ck1] at h; done) | skip
  rename_i x xp
  match as, kws, h with
  | [], [], h =>
    simp only [ck1, Bool.and_eq_true, decide_eq_true_eq] at h
    obtain ⟨⟨⟨⟨h1, h2⟩, h3⟩, rfl⟩, h5⟩ := h
    obtain ⟨d1, d2⟩ := nmB_ok h3
    refine PS.imp (ps_expr (pe_bm0 PySem.F.plainAttrs_list PySem.F.slot_list_clear PySem.F.type_list_clear mt_clear (pe_var (i := i) (g.ni h1) (by rw [g.g.hsc]; exact visB_ok h2) d1 d2) rfl h5) rfl) ?_
    rintro Z σ H ⟨env, O, H0, fp, ok, s0, n0, hw⟩
    simp only [evS] at hw
    split at hw
    · rename_i l hl
      obtain ⟨w, f0, hv, r0, hf0⟩ := ok.rel.get hl
      cases r0 with
      | lstO ha0 l0 =>
        rename_i a vs f1
        obtain ⟨fp', ok', hs', hm⟩ := ok.mut (d' := .lst .own []) (o' := .lst []) hl hv (fun r => by cases r; exact List.mem_cons_self) (.lstO (fp := []) upd_same .nil)
        exact ⟨_, hv, .inl ⟨rfl, _, SqL.of ha0⟩, a, vs, rfl, rfl, ha0, hw σ _ fp' ok' (same_mut s0 (n0 a hm)) fun b hb => n0 b (hs' b hb)⟩
    · exact (show False from hw).elim
/-- x.insert(k, v) -/
theorem sndS_ins (i : Nat) (k v : E) : SndS (.ins i k v) := by
  refine sndS_one (fun {G c k' sc Wx X st} g h => ?_) (fun G c sc sts => by cases sts <;> rfl)
  cases st <;> first | (simp [ck1] at h; done) | skip
  rename_i ex pos
  cases ex <;> first | (simp [ck1] at h; done) | skip
  rename_i fn as kws cp
  cases fn <;> first | (simp [ck1] at h; done) | skip
  rename_i o m ap
  cases o <;> first | (simp [ck1] at h; done) | skip
  rename_i x xp
  match as, kws, h with
  | [ka, va], [], h =>
    simp only [ck1, Bool.and_eq_true, decide_eq_true_eq] at h
    obtain ⟨⟨⟨⟨⟨⟨h1, h2⟩, h3⟩, rfl⟩, h5⟩, h6⟩, h7⟩ := h
    obtain ⟨d1, d2⟩ := nmB_ok h3
    have n1 := ck_notSt h6
    have n2 := ck_notSt h7
    have few : ∀ {env : PySem.Env}, ((backTo cp (starEach [ka, va] env)).all (fun x => !x.1) && (backToKw cp (keywordEach [] env)).all (fun x => x.1.isSome)
      && decide (([ka, va] : List Expr).length + ([] : List Keyword).length + (if ([] : List Keyword).isEmpty then 0 else 1) < 30)) = true := fun {env} => by
        rw [star_cons n1, star_cons n2]; rfl
    refine PS.imp (ps_expr (pe_bm PySem.F.plainAttrs_list PySem.F.slot_list_insert PySem.F.type_list_insert mt_insert (pe_var (i := i) (g.ni h1) (by rw [g.g.hsc]; exact visB_ok h2) d1 d2) (pa_cons ((snd k).E g.g h6) (pa_cons ((snd v).E g.g h7) pa_nil (star_cons n2)) (star_cons n1)) rfl few h5 (star_cons n1) (by rw [star_cons n2]; rfl)) rfl) ?_
    rintro Z σ H ⟨env, O, H0, fp, ok, s0, n0, hw⟩
    simp only [evS] at hw
    split at hw
    · rename_i l hl
      obtain ⟨w, f0, hv, r0, hf0⟩ := ok.rel.get hl
      cases r0 with
      | lstO ha0 l0 =>
        rename_i a vs f1
        refine ⟨_, hv, .inl ⟨rfl, _, SqL.of ha0⟩, env, O, fp, ok, (OS.out hw ok s0 n0).id (Same.refl H) (fun _ z => z) fun xd _ q u1 H1 fq1 e1 r1 nq1 hf1 => ?_⟩
        have dd : ∀ b ∈ fq1, ∃ o, H1 b = some o ∧ Mutb o := r1.mutb
        have ok1 := ok.wide e1 hf1 dd
        have okg := ok.grow e1
        have sub1 : ∀ z ∈ fp ++ O, z ∈ fp ++ (fq1 ++ O) := fun z hz => (List.mem_append.mp hz).elim (List.mem_append_left _) fun hz => List.mem_append_right _ (List.mem_append_right _ hz)
        refine ⟨env, fq1 ++ O, fp, ok1, (OS.out q okg (s0.trans e1) n0).id (Same.refl H1) sub1 fun d _ q u H2 fq e2 r2 nq hf => ?_⟩
        obtain ⟨n, rfl⟩ : ∃ n, xd = .int n := by
          cases xd with
          | int n => exact ⟨n, rfl⟩
          | _ => exact (show False from q).elim
        obtain ⟨rfl, _⟩ := r1.int_inv
        by_cases hc : (decide (0 ≤ n) && decide (n.natAbs < 1000000) && noBrw d && lineOk l.length && amL noOwnM l) = true
        · simp only [hc, if_true] at q
          simp only [Bool.and_eq_true, decide_eq_true_eq] at hc
          obtain ⟨⟨⟨⟨c1, c2⟩, c3⟩, c4⟩, c5⟩ := hc
          have l1 := l0.nown c5
          have ha2 := e2 _ _ (e1 _ _ ha0)
          have e12 := e1.trans e2
          refine ⟨a, vs, n, u, rfl, rfl, ha2, by rw [l0.len]; exact line_lt c4, c1, by omega, ?_⟩
          have ham : a ∈ fp := hf0 a List.mem_cons_self
          have ok2 := ok.grow e12
          have nf2 : ∀ b ∈ fq, b ∉ fp ++ O := fun b hb z => ok1.nf hf b hb (sub1 b z)
          have ru := (r2.keep (W' := []) (Same.refl _) c3 fun _ _ _ z => z).froze (os' := fp ++ O) (fq := []) (Same.refl _) (fun b hb => List.mem_append_right _ (sub1 b hb)) nf2 fun _ z => (List.not_mem_nil z).elim
          subst l1
          have l2 : RlL G.C (cut H2 (fp ++ O)) H2 [] vs l [] := l0.mono (cut_mono e12) e12
          have key := RlL.app (RlL.app (RlL.take0 n.toNat l2) (.cons (fp := []) (fq := []) ru .nil)) (RlL.drop0 n.toNat l2)
          obtain ⟨fp', ok', hs', hm⟩ := ok2.mut (d' := .lst .own (l.take n.toNat ++ [Pv.fz d] ++ l.drop n.toNat)) (o' := .lst (vs.take n.toNat ++ [u] ++ vs.drop n.toNat)) hl hv (fun r => by cases r; exact List.mem_cons_self)
            (.lstO (fp := []) upd_same (key.hm (Same.refl _) (fun _ z => (List.not_mem_nil z).elim) fun _ z => (List.not_mem_nil z).elim))
          exact q σ _ fp' ok' (same_mut (s0.trans e12) (n0 a hm)) fun b hb => n0 b (hs' b hb)
        · simp only [hc] at q
          exact (show False from q).elim
    · exact (show False from hw).elim
/-- d[k] = v -/
theorem sndS_setk (i : Nat) (k v : E) : SndS (.setk i k v) := by
  refine sndS_one (fun {G c k' sc Wx X st} g h => ?_) (fun G c sc sts => by cases sts <;> rfl)
  cases st <;> first | (simp [ck1] at h; done) | skip
  rename_i tgs w pos
  match tgs, h with
  | [.Subscript (.Name x xp) y sp], h =>
    simp only [ck1, Bool.and_eq_true, Bool.not_eq_true', decide_eq_true_eq] at h
    obtain ⟨⟨⟨⟨⟨h0, h1⟩, h2⟩, h3⟩, h4⟩, h5⟩ := h
    obtain ⟨d1, d2⟩ := nmB_ok h3
    refine PS.imp (ps_dput (Nat.lt_of_le_of_lt (Nat.add_le_add_left (show 1 ≤ 65 by decide) _) g.g.units) (pe_var (i := i) (g.ni h1) (by rw [g.g.hsc]; exact visB_ok h2) d1 d2) ((snd k).E g.g h4) ((snd v).E g.g h5) (swF h5 h0)) ?_
    rintro Z σ H ⟨env, O, H0, fp, ok, s0, n0, hw⟩
    simp only [evS] at hw
    split at hw
    · rename_i kvs hl
      obtain ⟨w0, f0, hv, r0, hf0⟩ := ok.rel.get hl
      cases r0 with
      | dkO ha0 l0 =>
        rename_i a vs f1
        refine ⟨env, O, fp, ok, (OS.out hw ok s0 n0).id (Same.refl H) (fun _ z => z) fun d _ q u H1 fq1 e1 r1 nq1 hf1 => ?_⟩
        have dd : ∀ b ∈ fq1, ∃ o, H1 b = some o ∧ Mutb o := r1.mutb
        have ok1 := ok.wide e1 hf1 dd
        have okg := ok.grow e1
        have sub1 : ∀ z ∈ fp ++ O, z ∈ fp ++ (fq1 ++ O) := fun z hz => (List.mem_append.mp hz).elim (List.mem_append_left _) fun hz => List.mem_append_right _ (List.mem_append_right _ hz)
        refine ⟨_, hv, env, fq1 ++ O, fp, ok1, (OS.out q okg (s0.trans e1) n0).id (Same.refl H1) sub1 fun yd _ q yv H2 fq e2 r2 nq hf => ?_⟩
        cases hk : keyD yd with
        | none => simp only [hk] at q; exact (show False from q).elim
        | some kk =>
          simp only [hk] at q
          by_cases hc : (noBrw d && lineOk kvs.length && amK noOwnM kvs) = true
          · simp only [hc, if_true] at q
            simp only [Bool.and_eq_true] at hc
            obtain ⟨⟨c1, c2⟩, c3⟩ := hc
            have l1 := l0.nownK c3
            have ha2 := e2 _ _ (e1 _ _ ha0)
            have e12 := e1.trans e2
            have ey := keyD_ok hk r2
            subst ey
            have nf1 : ∀ b ∈ fq1, b ∉ fp ++ O := ok.nf hf1
            have ru := (r1.keep (W' := []) (H' := H1) (Same.refl _) c1 fun _ _ _ z => z).froze (H' := H2) (os' := fp ++ O) (fq := []) e2 (fun b hb => List.mem_append_right _ hb) nf1 fun _ z => (List.not_mem_nil z).elim
            subst l1
            have l2 : RlP G.C (cut H2 (fp ++ O)) H2 [] Key vs kvs [] := l0.mono (cut_mono e12) e12
            have key := RlP.put kk ru l2
            have ok2 := ok.grow e12
            obtain ⟨fp', ok', hs', hm⟩ := ok2.mut (d' := .dk .own (putKD kvs kk (Pv.fz d))) (o' := .dK (putK vs kk u)) hl hv (fun r => by cases r; exact List.mem_cons_self)
              (.dkO (fp := []) upd_same (key.hm (Same.refl _) (fun _ z => (List.not_mem_nil z).elim) fun _ z => (List.not_mem_nil z).elim))
            exact ⟨a, _, rfl, DPut.k ha2 (by rw [l0.len]; exact line_lt c2), q σ _ fp' ok' (same_mut (s0.trans e12) (n0 a hm)) fun b hb => n0 b (hs' b hb)⟩
          · simp only [hc] at q
            exact (show False from q).elim
    · rename_i kvs hl
      obtain ⟨w0, f0, hv, r0, hf0⟩ := ok.rel.get hl
      cases r0 with
      | dtO ha0 l0 =>
        rename_i a vs f1
        refine ⟨env, O, fp, ok, (OS.out hw ok s0 n0).id (Same.refl H) (fun _ z => z) fun d _ q u H1 fq1 e1 r1 nq1 hf1 => ?_⟩
        have dd : ∀ b ∈ fq1, ∃ o, H1 b = some o ∧ Mutb o := r1.mutb
        have ok1 := ok.wide e1 hf1 dd
        have okg := ok.grow e1
        have sub1 : ∀ z ∈ fp ++ O, z ∈ fp ++ (fq1 ++ O) := fun z hz => (List.mem_append.mp hz).elim (List.mem_append_left _) fun hz => List.mem_append_right _ (List.mem_append_right _ hz)
        refine ⟨_, hv, env, fq1 ++ O, fp, ok1, (OS.out q okg (s0.trans e1) n0).id (Same.refl H1) sub1 fun yd hyd q yv H2 fq e2 r2 nq hf => ?_⟩
        clear hyd
        cases yd <;> first | (exact (show False from q).elim) | skip
        rename_i l
        cases hk : keysD l with
        | none => simp only [hk] at q; exact (show False from q).elim
        | some kk =>
          simp only [hk] at q
          by_cases hc : (noBrw d && lineOk kvs.length && amT noOwnM kvs) = true
          · simp only [hc, if_true] at q
            simp only [Bool.and_eq_true] at hc
            obtain ⟨⟨c1, c2⟩, c3⟩ := hc
            have l1 := l0.nownT c3
            have ha2 := e2 _ _ (e1 _ _ ha0)
            have e12 := e1.trans e2
            obtain ⟨b, ws, rfl, hb, _, lw⟩ := r2.tup_inv2
            have ey := keysD_ok hk lw
            subst ey
            have nf1 : ∀ b ∈ fq1, b ∉ fp ++ O := ok.nf hf1
            have ru := (r1.keep (W' := []) (H' := H1) (Same.refl _) c1 fun _ _ _ z => z).froze (H' := H2) (os' := fp ++ O) (fq := []) e2 (fun b hb => List.mem_append_right _ hb) nf1 fun _ z => (List.not_mem_nil z).elim
            subst l1
            have l2 : RlP G.C (cut H2 (fp ++ O)) H2 [] (List Key) vs kvs [] := l0.mono (cut_mono e12) e12
            have key := RlP.put kk ru l2
            have ok2 := ok.grow e12
            obtain ⟨fp', ok', hs', hm⟩ := ok2.mut (d' := .dt .own (putKD kvs kk (Pv.fz d))) (o' := .dT (putK vs kk u)) hl hv (fun r => by cases r; exact List.mem_cons_self)
              (.dtO (fp := []) upd_same (key.hm (Same.refl _) (fun _ z => (List.not_mem_nil z).elim) fun _ z => (List.not_mem_nil z).elim))
            exact ⟨a, _, rfl, DPut.t ha2 hb (by rw [l0.len]; exact line_lt c2), q σ _ fp' ok' (same_mut (s0.trans e12) (n0 a hm)) fun b hb => n0 b (hs' b hb)⟩
          · simp only [hc] at q
            exact (show False from q).elim
    · exact (show False from hw).elim
/-- d.setdefault(k, v) -/
theorem sndS_setd (i : Nat) (k v : E) : SndS (.setd i k v) := by
  refine sndS_one (fun {G c k' sc Wx X st} g h => ?_) (fun G c sc sts => by cases sts <;> rfl)
  cases st <;> first | (simp [ck1] at h; done) | skip
  rename_i ex pos
  cases ex <;> first | (simp [ck1] at h; done) | skip
  rename_i fn as kws cp
  cases fn <;> first | (simp [ck1] at h; done) | skip
  rename_i o m ap
  cases o <;> first | (simp [ck1] at h; done) | skip
  rename_i x xp
  match as, kws, h with
  | [ka, va], [], h =>
    simp only [ck1, Bool.and_eq_true, decide_eq_true_eq] at h
    obtain ⟨⟨⟨⟨⟨⟨h1, h2⟩, h3⟩, rfl⟩, h5⟩, h6⟩, h7⟩ := h
    obtain ⟨d1, d2⟩ := nmB_ok h3
    have n1 := ck_notSt h6
    have n2 := ck_notSt h7
    have tr : starEach [ka, va] X.env = [(false, eval ka X.env), (false, eval va X.env)] := by rw [star_cons n1, star_cons n2]; rfl
    refine PS.imp (ps_expr (pe_dsetd (pe_var (i := i) (g.ni h1) (by rw [g.g.hsc]; exact visB_ok h2) d1 d2) ((snd k).E g.g h6) ((snd v).E g.g h7) ⟨rfl, by rw [tr]; rfl, h5, by rw [tr]; rfl⟩) rfl) ?_
    rintro Z σ H ⟨env, O, H0, fp, ok, s0, n0, hw⟩
    simp only [evS] at hw
    split at hw
    · rename_i kvs hl
      obtain ⟨w, f0, hv, r0, hf0⟩ := ok.rel.get hl
      cases r0 with
      | dkO ha0 l0 =>
        rename_i a vs f1
        refine ⟨_, hv, a, rfl, .inl ⟨vs, .inl ha0⟩, env, O, fp, ok, (OS.out hw ok s0 n0).id (Same.refl H) (fun _ z => z) fun yd _ q yv H1 fq1 e1 r1 nq1 hf1 => ?_⟩
        have dd : ∀ b ∈ fq1, ∃ o, H1 b = some o ∧ Mutb o := r1.mutb
        have ok1 := ok.wide e1 hf1 dd
        have okg := ok.grow e1
        have sub1 : ∀ z ∈ fp ++ O, z ∈ fp ++ (fq1 ++ O) := fun z hz => (List.mem_append.mp hz).elim (List.mem_append_left _) fun hz => List.mem_append_right _ (List.mem_append_right _ hz)
        refine ⟨env, fq1 ++ O, fp, ok1, (OS.out q okg (s0.trans e1) n0).id (Same.refl H1) sub1 fun d _ q u H2 fq e2 r2 nq hf => ?_⟩
        cases hk : keyD yd with
        | none => simp only [hk] at q; exact (show False from q).elim
        | some kk =>
          simp only [hk] at q
          by_cases hc : (noBrw d && lineOk kvs.length && amK noOwnM kvs) = true
          · simp only [hc, if_true] at q
            simp only [Bool.and_eq_true] at hc
            obtain ⟨⟨c1, c2⟩, c3⟩ := hc
            have l1 := l0.nownK c3
            have ha2 := e2 _ _ (e1 _ _ ha0)
            have e12 := e1.trans e2
            have ey := keyD_ok hk r1
            subst ey
            refine ⟨vs, kk, ha2, rfl, by rw [l0.len]; exact line_lt c2, fun w hw => ?_, fun hw => ?_⟩
            · rcases l0.find kk with ⟨z1, z2⟩ | ⟨x, w', g', z1, z2, _⟩
              · rw [z2] at hw
                cases hw
              · rw [z1] at q
                exact q σ H2 fp (ok.grow e12) (s0.trans e12) n0
            · rcases l0.find kk with ⟨z1, z2⟩ | ⟨x, w', g', z1, z2, _⟩
              · rw [z1] at q
                have nf2 : ∀ b ∈ fq, b ∉ fp ++ O := fun b hb z => ok1.nf hf b hb (sub1 b z)
                have ru := (r2.keep (W' := []) (Same.refl _) c1 fun _ _ _ z => z).froze (os' := fp ++ O) (fq := []) (Same.refl _) (fun b hb => List.mem_append_right _ (sub1 b hb)) nf2 fun _ z => (List.not_mem_nil z).elim
                subst l1
                have l2 : RlP G.C (cut H2 (fp ++ O)) H2 [] Key vs kvs [] := l0.mono (cut_mono e12) e12
                have key := RlP.put kk ru l2
                have ok2 := ok.grow e12
                obtain ⟨fp', ok', hs', hm⟩ := ok2.mut (d' := .dk .own (putKD kvs kk (Pv.fz d))) (o' := .dK (putK vs kk u)) hl hv (fun r => by cases r; exact List.mem_cons_self)
                  (.dkO (fp := []) upd_same (key.hm (Same.refl _) (fun _ z => (List.not_mem_nil z).elim) fun _ z => (List.not_mem_nil z).elim))
                exact q σ _ fp' ok' (same_mut (s0.trans e12) (n0 a hm)) fun b hb => n0 b (hs' b hb)
              · rw [z2] at hw
                cases hw
          · simp only [hc] at q
            exact (show False from q).elim
    · exact (show False from hw).elim
theorem subA {G : Gt} {c : Cn} {sc : Scope} {e : E} {y : Expr} {x : Str} {xp sp : Pos} {env : PySem.Env} (h : ckE G c sc e y = true) : ∀ v, assign (.Subscript (.Name x xp) y sp) env v = (do
      let ov ← holding [v] (eval (.Name x xp) env)
      let iv ← holding [v, ov] (eval y env)
      standAt sp
      holding [v, ov, iv] (setItem ov iv v)
      release [v, ov, iv] []) := by
  intro v
  cases y <;> first | rfl | (cases e <;> simp [ckE] at h)
/-- what is never run -/
theorem sndS_stuck : SndS .stuck := by
  refine sndS_one (fun {G c k' sc Wx X st} g h => ⟨fun pins s σ H Z I q => ?_⟩) (fun G c sc sts => by cases sts <;> rfl)
  obtain ⟨env, O, H0, fp, ok, s0, n0, hw⟩ := q
  simp only [evS] at hw
  exact (show False from hw).elim
theorem RlL.set0 {C : Kc} {B H : Hp} {W : List Addr} {u : V} {x : D} (r : Rl C B H W u x []) : ∀ {vs : List V} {ds : List D} (j : Nat), RlL C B H W vs ds [] → RlL C B H W (vs.set j u) (ds.set j x) []
  | [], [], _, _ => .nil
  | [], _ :: _, _, h => nomatch h
  | _ :: _, [], _, h => nomatch h
  | v :: vs, d :: ds, j, h => by
    generalize hf : ([] : List Addr) = f at h
    cases h with
    | cons r1 l =>
      obtain ⟨e1, e2⟩ := List.append_eq_nil_iff.mp hf.symm
      subst e1 e2
      cases j with
      | zero => exact .cons (fp := []) (fq := []) r l
      | succ j => exact .cons (fp := []) (fq := []) r1 (RlL.set0 r j l)
/-- l[k] = v -/
theorem sndS_setl (i : Nat) (k v : E) : SndS (.setl i k v) := by
  refine sndS_one (fun {G c k' sc Wx X st} g h => ?_) (fun G c sc sts => by cases sts <;> rfl)
  cases st <;> first | (simp [ck1] at h; done) | skip
  rename_i tgs w pos
  match tgs, h with
  | [.Subscript (.Name x xp) y sp], h =>
    simp only [ck1, Bool.and_eq_true, Bool.not_eq_true', decide_eq_true_eq] at h
    obtain ⟨⟨⟨⟨⟨⟨h0, h0'⟩, h1⟩, h2⟩, h3⟩, h4⟩, h5⟩ := h
    obtain ⟨d1, d2⟩ := nmB_ok h3
    refine PS.imp (ps_asg ((snd v).E g.g h5) (pg_sub (pe_var (i := i) (g.ni h1) (by rw [g.g.hsc]; exact visB_ok h2) d1 d2) ((snd k).E g.g h4) set_list (subA h4)) (by unfold swapsWithSole; exact swF h5 h0) (swT (e := v) h0') rfl) ?_
    rintro Z σ H ⟨env, O, H0, fp, ok, s0, n0, hw⟩
    simp only [evS] at hw
    split at hw
    · rename_i l hl
      obtain ⟨w0, f0, hv, r0, hf0⟩ := ok.rel.get hl
      cases r0 with
      | lstO ha0 l0 =>
        rename_i a vs f1
        refine ⟨env, O, fp, ok, (OS.out hw ok s0 n0).id (Same.refl H) (fun _ z => z) fun d _ q u H1 fq1 e1 r1 nq1 hf1 => ?_⟩
        have dd : ∀ b ∈ fq1, ∃ o, H1 b = some o ∧ Mutb o := r1.mutb
        have ok1 := ok.wide e1 hf1 dd
        have okg := ok.grow e1
        have sub1 : ∀ z ∈ fp ++ O, z ∈ fp ++ (fq1 ++ O) := fun z hz => (List.mem_append.mp hz).elim (List.mem_append_left _) fun hz => List.mem_append_right _ (List.mem_append_right _ hz)
        refine ⟨_, hv, env, fq1 ++ O, fp, ok1, (OS.out q okg (s0.trans e1) n0).id (Same.refl H1) sub1 fun yd _ q yv H2 fq e2 r2 nq hf => ?_⟩
        obtain ⟨n, rfl⟩ : ∃ n, yd = .int n := by
          cases yd with
          | int n => exact ⟨n, rfl⟩
          | _ => exact (show False from q).elim
        obtain ⟨rfl, _⟩ := r2.int_inv
        cases hj : ixN l.length n with
        | none => simp only [hj] at q; exact (show False from q).elim
        | some j =>
          simp only [hj] at q
          by_cases hc : (noBrw d && amL noOwnM l) = true
          · simp only [hc, if_true] at q
            simp only [Bool.and_eq_true] at hc
            obtain ⟨c1, c3⟩ := hc
            have l1 := l0.nown c3
            have ha2 := e2 _ _ (e1 _ _ ha0)
            have e12 := e1.trans e2
            have nf1 : ∀ b ∈ fq1, b ∉ fp ++ O := ok.nf hf1
            have ru := (r1.keep (W' := []) (H' := H1) (Same.refl _) c1 fun _ _ _ z => z).froze (H' := H2) (os' := fp ++ O) (fq := []) e2 (fun b hb => List.mem_append_right _ hb) nf1 fun _ z => (List.not_mem_nil z).elim
            subst l1
            have l2 : RlL G.C (cut H2 (fp ++ O)) H2 [] vs l [] := l0.mono (cut_mono e12) e12
            have key := RlL.set0 ru j l2
            have ok2 := ok.grow e12
            obtain ⟨fp', ok', hs', hm⟩ := ok2.mut (d' := .lst .own (l.set j (Pv.fz d))) (o' := .lst (vs.set j u)) hl hv (fun r => by cases r; exact List.mem_cons_self)
              (.lstO (fp := []) upd_same (key.hm (Same.refl _) (fun _ z => (List.not_mem_nil z).elim) fun _ z => (List.not_mem_nil z).elim))
            exact ⟨a, vs, n, j, rfl, rfl, ha2, by rw [l0.len]; exact hj, q σ _ fp' ok' (same_mut (s0.trans e12) (n0 a hm)) fun b hb => n0 b (hs' b hb)⟩
          · simp only [hc] at q
            exact (show False from q).elim
    · exact (show False from hw).elim
end Pv
/-! Pv17: loops over a list, over a range. -/
namespace Pv
open PySem L2 PySem.Spec
theorem Rl.lst0 {C : Kc} {B H : Hp} {m : Md} {l : List Pv.D} {v : V} {f : List Addr} (r : Rl C B H [] v (.lst m l) f) (hf : f = []) : ∃ a vs, v = .ref a ∧ SqL C.K B a vs ∧ RlL C B H [] vs l [] := by
  cases r with
  | lstK h l => exact ⟨_, _, rfl, h, l⟩
  | lstS h l => exact ⟨_, _, rfl, .inl (.inl h), l⟩
  | lstB w _ _ => exact (List.not_mem_nil w).elim
  | lstO _ _ => cases hf
theorem putEs_len : ∀ {is : List Nat} {ds : List Pv.D} {env env' : Env}, putEs env is ds = .nx env' → is.length = ds.length
  | [], [], _, _, _ => rfl
  | [], _ :: _, _, _, h => by cases h
  | _ :: _, [], _, _, h => by cases h
  | i :: is, d :: ds, env, env', h => by
    unfold putEs at h
    unfold putE at h
    split at h
    · exact congrArg Nat.succ (putEs_len h)
    · cases h
/-- a loop's target -/
def gTg (K : Frag) : List Nat → TG
  | [i] => gName i
  | is => gTup K is.length (gNs is)
section
variable {G : Gx} {c : Cn} {k : Nat} {sc : Scope} {Wx : WX} {X : Cx}
theorem pg_ck (g : GoodS G c k sc Wx X) (hh : c.hot = false) {is : List Nat} {tg : Expr} (h : ckTg c sc is tg = true) : PG X tg (gTg X.K is) := by
  match is, tg, h with
  | [i], .Name x p, h =>
    simp only [ckTg, Bool.and_eq_true, decide_eq_true_eq] at h
    exact pg_name (i := i) g.nd (g.ni h.1) (g.loc h.2) (.inl (g.fn _))
  | i :: j :: is, .Tuple xs tk tp, h =>
    have h1 : ckN c sc (i :: j :: is) xs = true := h
    obtain ⟨l1, l2⟩ := names_len (env := X.env) h1
    exact pg_tup (g.g.calm hh) (pgs_names g h1) l1 l2
theorem tg_rd {is : List Nat} {d : Pv.D} {env env1 : Env} {O fp : List Addr} {σ : L2.St} {H : Hp} {x : V} {Q : L2.St → Hp → Prop} (he : tgE env is d = .nx env1) (r : Rl G.C (cut H (fp ++ O)) H [] x d []) (ok : OkF G.C O env σ H fp)
    (kk : ∀ σ' fp', OkF G.C O env1 σ' H fp' → (∀ a ∈ fp', a ∈ fp) → Q σ' H) : gTg G.C.K is x σ H Q := by
  match is, he with
  | [i], he =>
    have he' : putE env i d = .nx env1 := by cases d <;> exact he
    obtain ⟨h1, h2, h3⟩ := putE_nx (env' := env) (P := fun o => o = .nx env1) he' (fun z => by cases z)
    cases h3
    obtain ⟨fp', ok', hs⟩ := ok.put (fq := []) (Same.refl _) r List.nodup_nil (fun _ z => nomatch z) h1 h2
    exact kk _ fp' ok' fun a ha => (hs a ha).resolve_left List.not_mem_nil
  | i :: j :: is, he =>
    cases d <;> first | (cases he; done) | skip
    rename_i l he0
    have he' : putEs env (i :: j :: is) l = .nx env1 := he
    obtain ⟨a, vs, rfl, hT, _, ll⟩ := r.tup_inv
    refine ⟨a, vs, rfl, hT, ?_, ?_⟩
    · rw [ll.len]
      exact (putEs_len he').symm
    · refine putEs_rd (H0 := fun _ => none) ll ok (fun _ _ => rfl) ⟨fun o => o = .nx env1, he', ?_, ?_⟩
      · intro z
        cases z
      · intro env' e σ' fp' ok' hs
        cases e
        exact kk σ' fp' ok' hs
/-- a loop's invariant -/
def LpW (G : Gx) (Wx : WX) (O : List Addr) (Hk : Hp) (Z : Ends) (f : Env → Out) (t : Env → Pv.D → Out) (ds : List Pv.D) (i : Nat) (σ : L2.St) (H : Hp) : Prop :=
  ∃ env fp, OkF G.C O env σ H fp ∧ Same Hk H ∧ (∀ a ∈ fp, Hk a = none) ∧ OS G Wx O Hk Z (loopD f t (ds.drop i) env)
theorem lp_turn {b : S} {is : List Nat} {ds : List Pv.D} {i : Nat} {x : V} {d : Pv.D} {O : List Addr} {Hk H : Hp} {Z : Ends} {σ : L2.St} (hd : ds[i]? = some d) (w : LpW G Wx O Hk Z (evS G.T b) (fun e x => tgE e is x) ds i σ H)
    (r : ∀ fp : List Addr, (∀ a ∈ fp, Hk a = none) → Same Hk H → Rl G.C (cut H (fp ++ O)) H [] x d []) :
    gTg G.C.K is x σ H fun σ2 H2 => tS G Wx (evS G.T b) { Z with nx := LpW G Wx O Hk Z (evS G.T b) (fun e x => tgE e is x) ds (i + 1), ct := LpW G Wx O Hk Z (evS G.T b) (fun e x => tgE e is x) ds (i + 1), bk := Z.nx } σ2 H2 := by
  obtain ⟨env, fp, ok, s, n, h⟩ := w
  obtain ⟨hi, hdi⟩ := List.getElem?_eq_some_iff.mp hd
  rw [List.drop_eq_getElem_cons hi, hdi] at h
  simp only [loopD] at h
  cases e : tgE env is d with
  | nx e1 =>
    rw [e] at h
    refine tg_rd e (r fp n s) ok fun σ' fp' ok' hs => ⟨e1, O, Hk, fp', ok', s, fun a ha => n a (hs a ha), ?_⟩
    simp only at h
    cases e2 : evS G.T b e1 with
    | nx e3 => rw [e2] at h; exact fun σ' H' fp' ok' s' n' => ⟨e3, fp', ok', s', n', h⟩
    | cnt e3 => rw [e2] at h; exact fun σ' H' fp' ok' s' n' => ⟨e3, fp', ok', s', n', h⟩
    | brk e3 => rw [e2] at h; exact h
    | ret d => rw [e2] at h; exact h
    | exc y e3 => rw [e2] at h; exact h
    | bad => rw [e2] at h; exact h
  | _ => rw [e] at h; exact (show False from h).elim
theorem OS.weak {O : List Addr} {H0 Hk : Hp} {Z : Ends} {o : Out} (h : OS G Wx O H0 Z o) (s : Same H0 Hk) : OS G Wx O Hk Z o := by
  have nn : ∀ {fp : List Addr}, (∀ a ∈ fp, Hk a = none) → ∀ a ∈ fp, H0 a = none := fun n a ha => fresh_b s (n a ha)
  cases o with
  | nx env => exact fun σ' H' fp' ok s' n' => h σ' H' fp' ok (s.trans s') (nn n')
  | ret d => exact VR.weak h s fun _ z => z
  | brk env => exact fun σ' H' fp' ok s' n' => h σ' H' fp' ok (s.trans s') (nn n')
  | cnt env => exact fun σ' H' fp' ok s' n' => h σ' H' fp' ok (s.trans s') (nn n')
  | exc x env => exact fun cls dx σ' H' fp' ok s' n' => h cls dx σ' H' fp' ok (s.trans s') (nn n')
  | bad => exact h
theorem lp_start {O fp : List Addr} {H0 H : Hp} {Z : Ends} {σ : L2.St} {env : Env} {f : Env → Out} {t : Env → Pv.D → Out} {ds : List Pv.D} (ok : OkF G.C O env σ H fp) (s0 : Same H0 H) (n0 : ∀ a ∈ fp, H0 a = none) (h : OS G Wx O H0 Z (loopD f t ds env)) :
    LpW G Wx O (cut H fp) Z f t ds 0 σ H ∧ Same H0 (cut H fp) := by
  have s1 : Same H0 (cut H fp) := fun a o e => by
    rw [cut_out]
    · exact s0 a o e
    · intro z
      rw [n0 a z] at e
      cases e
  exact ⟨⟨env, fp, ok, same_cut _ _, fun a ha => cut_in ha, h.weak s1⟩, s1⟩
end
theorem sndS_forL {is : List Nat} {src : E} {b : S} (hb : SndS b) : SndS (.forL is src b) := by
  refine sndS_one (fun {G c k sc Wx X st} g h => ?_) (fun G c sc sts => by cases sts <;> rfl)
  cases st <;> first | (simp [ck1] at h; done) | skip
  rename_i tg iter xs els pos
  cases els <;> first | (simp [ck1] at h; done) | skip
  simp only [ck1, Bool.and_eq_true, Bool.not_eq_true'] at h
  obtain ⟨⟨⟨hh, h1⟩, h2⟩, h3⟩ := h
  refine PS.imp (ps_for g.g.po (g.g.calm hh) (pi_list ((snd src).E g.g h2)) (pg_ck g hh h1) (hb.all g h3) (fold_ck h2)) ?_
  rintro Z σ H ⟨env, O, H0, fp, ok, s0, n0, hw⟩
  simp only [evS] at hw
  refine ⟨env, O, fp, ok, (OS.out hw ok s0 n0).id (Same.refl H) (fun _ z => z) fun d hde q v H1 fq e1 r1 nq hf => ?_⟩
  clear hde
  cases d <;> first | (exact (show False from q).elim) | skip
  rename_i m l
  by_cases hc : (amL noBrwM l && noBrw (.lst m l)) = true
  · simp only [hc, if_true] at q
    simp only [Bool.and_eq_true] at hc
    have nf := ok.nf hf
    have fr : Rl G.C (cut H1 (fp ++ O)) H1 [] v (Pv.fz (.lst m l)) [] := (r1.keep (W' := []) (Same.refl _) hc.2 fun _ _ _ z => z).froze (os' := fp ++ O) (fq := []) (Same.refl _) (fun b hb => List.mem_append_right _ hb) nf fun _ z => (List.not_mem_nil z).elim
    obtain ⟨a, vs, rfl, hS, ll⟩ := Rl.lst0 (m := fzM m) (l := mpL fzM l) fr rfl
    have ok1 := ok.grow e1
    have s1 := s0.trans e1
    have q' : OS G Wx O H0 Z (loopD (evS G.T b) (fun e x => tgE e is x) (mpL fzM l) env) := q
    obtain ⟨w0, _⟩ := lp_start ok1 s1 n0 q'
    have sB : ∀ {H' : Hp} {fp' : List Addr}, (∀ a ∈ fp', cut H1 fp a = none) → Same (cut H1 fp) H' → Same (cut H1 (fp ++ O)) (cut H' (fp' ++ O)) := fun {H' fp'} n s b o e => by
      obtain ⟨e2, e3⟩ := cut_some e
      have e4 : cut H1 fp b = some o := by
        rw [cut_out fun z => e3 (List.mem_append_left _ z)]
        exact e2
      rw [cut_out]
      · exact s b o e4
      · intro z
        rcases List.mem_append.mp z with z | z
        · rw [n b z] at e4
          cases e4
        · exact e3 (List.mem_append_right _ z)
    have hlen : vs.length = (mpL fzM l).length := ll.len
    have hS' : ∀ {H' : Hp}, Same (cut H1 fp) H' → SqL X.K H' a vs := fun {H'} s => by
      rw [g.g.hK]
      exact Same.sqL (sB (fp' := []) (fun _ z => (List.not_mem_nil z).elim) s |>.trans (same_cut _ _)) hS
    refine ⟨a, rfl, ⟨vs, hS' (same_cut _ _)⟩, ?_⟩
    rw [show gTg X.K is = gTg G.C.K is by rw [g.g.hK]]
    refine for_list (xs := vs) (LpW G Wx O (cut H1 fp) Z (evS G.T b) (fun e x => tgE e is x) (mpL fzM l)) w0 (fun i σ' H' _ ⟨_, _, _, s, _⟩ => hS' s) (fun i x σ' H' hx w => ?_) fun σ' H' w => ?_
    · obtain ⟨d, hd, rd⟩ := ll.getV hx
      exact lp_turn hd w fun fp' n s => rd.keep (sB n s) rd.nb fun _ z => (List.not_mem_nil z).elim
    · obtain ⟨env', fp', ok', s', n', h'⟩ := w
      rw [hlen, List.drop_length] at h'
      exact h' σ' H' fp' ok' s' n'
  · simp only [hc] at q
    exact (show False from q).elim
theorem sndS_forR {j : Nat} {n : E} {b : S} (hb : SndS b) : SndS (.forR j n b) := by
  refine sndS_one (fun {G c k sc Wx X st} g h => ?_) (fun G c sc sts => by cases sts <;> rfl)
  cases st <;> first | (simp [ck1] at h; done) | skip
  rename_i tg iter xs els pos
  match tg, iter, els, h with
  | .Name x p, .Call (.Name r rp) [a] [] cp, [], h =>
    simp only [ck1, Bool.and_eq_true, Bool.not_eq_true', decide_eq_true_eq] at h
    obtain ⟨⟨⟨⟨⟨⟨hh, h1⟩, h2⟩, rfl⟩, h4⟩, h5⟩, h6⟩ := h
    refine PS.imp (ps_for g.g.po (g.g.calm hh) (pi_range1 (g.g.gl h4) (g.g.mgN (by simp [bltNames])) (pa_cons ((snd n).E g.g h5) pa_nil (star_cons (ck_notSt h5))) (star_cons (ck_notSt h5))) (pg_name (i := j) g.nd (g.ni h1) (g.loc h2) (.inl (g.fn _))) (hb.all g h6)) ?_
    rintro Z σ H ⟨env, O, H0, fp, ok, s0, n0, hw⟩
    simp only [evS] at hw
    refine ⟨env, O, fp, ok, (OS.out hw ok s0 n0).id (Same.refl H) (fun _ z => z) fun d hde q v H1 fq e1 r1 nq hf => ?_⟩
    clear hde
    cases d <;> first | (exact (show False from q).elim) | skip
    rename_i m
    obtain ⟨rfl, _⟩ := r1.int_inv
    by_cases hc : decide (m.natAbs < 1000000) = true
    · simp only [hc, if_true] at q
      simp only [decide_eq_true_eq] at hc
      have q' : OS G Wx O H0 Z (loopD (evS G.T b) (fun e x => tgE e [j] x) (rngD m) env) := q
      obtain ⟨w0, _⟩ := lp_start (ok.grow e1) (s0.trans e1) n0 q'
      refine ⟨m, rfl, by omega, by omega, ?_⟩
      refine for_range (LpW G Wx O (cut H1 fp) Z (evS G.T b) (fun e x => tgE e [j] x) (rngD m)) w0 (fun i σ' H' hi w => ?_) fun σ' H' w => ?_
      · rw [show (0 : Int) + (i : Int) = (i : Int) from Int.zero_add _]
        exact lp_turn (rngD_get hi) w fun fp' n s => .int _
      · obtain ⟨env', fp', ok', s', n', h'⟩ := w
        rw [show m.toNat = (rngD m).length from (rngD_len m).symm, List.drop_length] at h'
        exact h' σ' H' fp' ok' s' n'
    · simp only [hc] at q
      exact (show False from q).elim
theorem enum_at : ∀ (l : List Pv.D) (n i : Nat), (enumD n l)[i]? = (l[i]?).map fun d => Pv.D.tup [.int ((n + i : Nat) : Int), d]
  | [], n, i => by simp [enumD]
  | d :: l, n, 0 => by simp [enumD]
  | d :: l, n, i + 1 => by
    rw [enumD, List.getElem?_cons_succ, List.getElem?_cons_succ, enum_at l (n + 1) i, show n + 1 + i = n + (i + 1) by omega]
theorem enum_len : ∀ (l : List Pv.D) (n : Nat), (enumD n l).length = l.length
  | [], _ => rfl
  | d :: l, n => by rw [enumD, List.length_cons, List.length_cons, enum_len l]
theorem lp_turnE {G : Gx} {Wx : WX} {b : S} {is : List Nat} {ds : List Pv.D} {i : Nat} {x : V} {d : Pv.D} {O : List Addr} {Hk H H' : Hp} {Z : Ends} {σ : L2.St} (hd : ds[i]? = some d) (w : LpW G Wx O Hk Z (evS G.T b) (fun e x => tgE e is x) ds i σ H) (e : Same H H')
    (r : ∀ fp : List Addr, (∀ a ∈ fp, Hk a = none) → Same Hk H → (∀ a ∈ fp ++ O, ∃ o, H a = some o) → Rl G.C (cut H' (fp ++ O)) H' [] x d []) :
    gTg G.C.K is x σ H' fun σ2 H2 => tS G Wx (evS G.T b) { Z with nx := LpW G Wx O Hk Z (evS G.T b) (fun e x => tgE e is x) ds (i + 1), ct := LpW G Wx O Hk Z (evS G.T b) (fun e x => tgE e is x) ds (i + 1), bk := Z.nx } σ2 H2 := by
  obtain ⟨env, fp, ok, s, n, h⟩ := w
  obtain ⟨hi, hdi⟩ := List.getElem?_eq_some_iff.mp hd
  rw [List.drop_eq_getElem_cons hi, hdi] at h
  simp only [loopD] at h
  cases e0 : tgE env is d with
  | nx e1 =>
    rw [e0] at h
    refine tg_rd e0 (r fp n s ok.osd) (ok.grow e) fun σ' fp' ok' hs => ⟨e1, O, Hk, fp', ok', s.trans e, fun a ha => n a (hs a ha), ?_⟩
    simp only at h
    cases e2 : evS G.T b e1 with
    | nx e3 => rw [e2] at h; exact fun σ' H' fp' ok' s' n' => ⟨e3, fp', ok', s', n', h⟩
    | cnt e3 => rw [e2] at h; exact fun σ' H' fp' ok' s' n' => ⟨e3, fp', ok', s', n', h⟩
    | brk e3 => rw [e2] at h; exact h
    | ret d => rw [e2] at h; exact h
    | exc y e3 => rw [e2] at h; exact h
    | bad => rw [e2] at h; exact h
  | _ => rw [e0] at h; exact (show False from h).elim
/-- for i, x in enumerate(xs) -/
theorem sndS_forE {i j : Nat} {src : E} {b : S} (hb : SndS b) : SndS (.forE i j src b) := by
  refine sndS_one (fun {G c k sc Wx X st} g h => ?_) (fun G c sc sts => by cases sts <;> rfl)
  cases st <;> first | (simp [ck1] at h; done) | skip
  rename_i tg iter xs els pos
  match tg, iter, els, h with
  | .Tuple tgs tk tp, .Call (.Name r rp) [a] [] cp, [], h =>
    simp only [ck1, Bool.and_eq_true, Bool.not_eq_true', decide_eq_true_eq] at h
    obtain ⟨⟨⟨⟨⟨hh, h1⟩, rfl⟩, h4⟩, h5⟩, h6⟩ := h
    refine PS.imp (ps_for g.g.po (g.g.calm hh) (pi_enum (g.g.gl h4) (g.g.mgN (by simp [bltNames])) (pa_cons ((snd src).E g.g h5) pa_nil (star_cons (ck_notSt h5))) (star_cons (ck_notSt h5))) (pg_ck g hh h1) (hb.all g h6)) ?_
    rintro Z σ H ⟨env, O, H0, fp, ok, s0, n0, hw⟩
    simp only [evS] at hw
    refine ⟨env, O, fp, ok, (OS.out hw ok s0 n0).id (Same.refl H) (fun _ z => z) fun d hde q v H1 fq e1 r1 nq hf => ?_⟩
    clear hde
    cases d <;> first | (exact (show False from q).elim) | skip
    rename_i m l
    by_cases hc : (amL noBrwM l && noBrw (.lst m l)) = true
    · simp only [hc, if_true] at q
      simp only [Bool.and_eq_true] at hc
      have nf := ok.nf hf
      have fr : Rl G.C (cut H1 (fp ++ O)) H1 [] v (Pv.fz (.lst m l)) [] := (r1.keep (W' := []) (Same.refl _) hc.2 fun _ _ _ z => z).froze (os' := fp ++ O) (fq := []) (Same.refl _) (fun b hb => List.mem_append_right _ hb) nf fun _ z => (List.not_mem_nil z).elim
      obtain ⟨a, vs, rfl, hS, ll⟩ := Rl.lst0 (m := fzM m) (l := mpL fzM l) fr rfl
      have ok1 := ok.grow e1
      have s1 := s0.trans e1
      have q' : OS G Wx O H0 Z (loopD (evS G.T b) (fun e x => tgE e [i, j] x) (enumD 0 (mpL fzM l)) env) := q
      obtain ⟨w0, _⟩ := lp_start ok1 s1 n0 q'
      have sB : ∀ {H' : Hp} {fp' : List Addr}, (∀ a ∈ fp', cut H1 fp a = none) → Same (cut H1 fp) H' → Same (cut H1 (fp ++ O)) (cut H' (fp' ++ O)) := fun {H' fp'} n s b o e => by
        obtain ⟨e2, e3⟩ := cut_some e
        have e4 : cut H1 fp b = some o := by
          rw [cut_out fun z => e3 (List.mem_append_left _ z)]
          exact e2
        rw [cut_out]
        · exact s b o e4
        · intro z
          rcases List.mem_append.mp z with z | z
          · rw [n b z] at e4
            cases e4
          · exact e3 (List.mem_append_right _ z)
      have hlen : vs.length = (mpL fzM l).length := ll.len
      have hS' : ∀ {H' : Hp}, Same (cut H1 fp) H' → SqL X.K H' a vs := fun {H'} s => by
        rw [g.g.hK]
        exact Same.sqL (sB (fp' := []) (fun _ z => (List.not_mem_nil z).elim) s |>.trans (same_cut _ _)) hS
      refine ⟨a, vs, rfl, hS' (same_cut _ _), ?_⟩
      rw [show gTg X.K [i, j] = gTg G.C.K [i, j] by rw [g.g.hK]]
      refine for_it (walk_enum (xs := vs)) (LpW G Wx O (cut H1 fp) Z (evS G.T b) (fun e x => tgE e [i, j] x) (enumD 0 (mpL fzM l))) w0 (fun i σ' H' _ ⟨_, _, _, s, _⟩ => hS' s) (fun n x σ' H' H2 hn w y => ?_) fun σ' H' w => ?_
      · obtain ⟨T, p1, p2, rfl, hT, rfl, hp1, hp2⟩ := y
        cases hp1
        obtain ⟨d, hd, rd⟩ := ll.getV hp2
        have hd' : (enumD 0 (mpL fzM l))[n]? = some (.tup [.int ((n : Nat) : Int), d]) := by
          rw [enum_at, hd, Nat.zero_add]
          rfl
        refine lp_turnE hd' w (same_new hT) fun fp' n' s od => ?_
        have rd' := rd.keep (W' := []) (H' := upd H' T (.tup [.int ((n : Nat) : Int), p2])) (B' := cut (upd H' T (.tup [.int ((n : Nat) : Int), p2])) (fp' ++ O)) (sB n' (s.trans (same_new hT))) rd.nb fun _ z => (List.not_mem_nil z).elim
        refine .tup (fp := []) ?_ (.cons (fp := []) (fq := []) (.int _) (.cons (fp := []) (fq := []) rd' .nil))
        rw [cut_out]
        · exact upd_same
        · intro z
          obtain ⟨o, y⟩ := od T z
          rw [hT] at y
          cases y
      · obtain ⟨env', fp', ok', s', n', h'⟩ := w
        rw [hlen, show (mpL fzM l).length = (enumD 0 (mpL fzM l)).length from (enum_len _ _).symm, List.drop_length] at h'
        exact h' σ' H' fp' ok' s' n'
    · simp only [hc] at q
      exact (show False from q).elim
theorem sndS (s : S) : SndS s := by
  induction s with
  | nop => exact sndS_nop
  | seq a b ha hb => exact sndS_seq ha hb
  | asg i e => exact sndS_asg i e
  | asgT is e => exact sndS_asgT is e
  | exp e => exact sndS_exp e
  | app i e => exact sndS_app i e
  | aug i o e => exact sndS_aug i o e
  | ret e => exact sndS_ret e
  | retN => exact sndS_retN
  | retV i => exact sndS_retV i
  | ife c a b ha hb => exact sndS_ife ha hb
  | forL is src b hb => exact sndS_forL hb
  | forR j n b hb => exact sndS_forR hb
  | whl n c b hb => exact sndS_whl hb
  | brk => exact sndS_brk
  | cnt => exact sndS_cnt
  | rse n => exact sndS_rse n
  | tryX b n i h hb hh => exact sndS_tryX n i hb hh
  | ins i k v => exact sndS_ins i k v
  | clr i => exact sndS_clr i
  | setk i k v => exact sndS_setk i k v
  | stuck => exact sndS_stuck
  | setl i k v => exact sndS_setl i k v
  | fz i => exact sndS_fz i
  | forE i j src b hb => exact sndS_forE hb
  | setd i k v => exact sndS_setd i k v
end Pv
/-! Pv15: a def is worth its body. -/
namespace Pv
open PySem L2 PySem.Spec
/-- a body's worth -/
def bodyD (T : Tb) (s : S) (n : Nat) (ds : List D) : Res D := match evS T s (ds.map some ++ List.replicate (n - ds.length) none) with
  | .nx _ => .ok .non
  | .ret d => .ok d
  | .exc x _ => .exc x
  | _ => .bad
theorem EnvR.blank {C : Kc} {B H : Hp} : ∀ n, EnvR C B H (List.replicate n none) (List.replicate n none) []
  | 0 => .nil
  | n + 1 => .skip (EnvR.blank n)
theorem EnvR.start {C : Kc} {B H : Hp} (n : Nat) : ∀ {vs : List V} {ds : List D} {fp : List Addr}, RlL C B H [] vs ds fp → EnvR C B H (vs.map some ++ List.replicate n none) (ds.map some ++ List.replicate n none) fp
  | _, _, _, .nil => EnvR.blank n
  | _, _, _, .cons h l => .put h (EnvR.start n l)
/-- what a def's text must say -/
structure DefT (G : Gt) (c : Cn) (ps : List Str) (sc : Scope) (body : List Stmt) (s : S) : Prop where
  sco : FnScope c.N ps sc
  ck : ckS G c sc s body = true
  hot : c.hot = false
/-- what the world must say -/
structure WorldT (G : Gx) (rs : List Nat) : Prop where
  cls : ClsF G rs
  ex : G.C.ex = none
  blt : ∀ x ∈ bltNames, G.mg x = none
  glo : ∀ n ∈ G.gs, GlF G n
/-- THE RULE for a def -/
theorem def_ok {G : Gx} {c : Cn} {k : Nat} {x qual : Str} {params : Arguments} {body : List Stmt} {sc : Scope} {dvs : List V} {f : Addr} {fd : FuncData} {ps : List Str} {s : S} {F : Fm}
    (hF : FunD G.C.K x qual params body sc dvs [] f fd) (t : DefT G c ps sc body s) (w : WorldT G c.rs) (sn : SndS s) (fns : ∀ i ∈ c.fs, FnIs G k i) (fnh : ∀ i ∈ c.hs, FnIHs G k i) (ar : F.ar = ps.length) (hm : ∀ ds, ds.length = ps.length → F.m ds = bodyD G.T s c.N.length ds) :
    FnOk G.P G.w G.C.K G.mg G.base (L2N.CX G.P G.w) (k + 1) f fd ps (spD G.C F) := by
  refine hF.ok t.sco (fun vs H Q E ⟨O, ds, r, _, hl, _⟩ => by rw [r.len, hl, ar]) fun cdv A outer s0 H vs Q E hr h => ?_
  obtain ⟨O, ds, r, ho, hl, h⟩ := h
  have hu := hr.un
  have g : GoodS G c k sc (fun cls d _ H => E cls d H) (cxOf (L2N.CX G.P G.w) G.P G.w G.C.K G.mg G.base c.N qual sc f cdv A outer s0 H E) :=
    { g := { hP := rfl, hw := rfl, hK := rfl, hmg := rfl, hb := rfl, hN := rfl, nd := t.sco.nd, hsc := rfl
             calm := fun _ => rfl
             room := fun _ => hr
             units := Nat.lt_of_le_of_lt (Nat.le_trans (Nat.add_le_add_left (show 65 ≤ 200 by decide) _) (Nat.add_le_add_right (Nat.le_add_right _ _) _)) hu
             tk := L2N.takes_of rfl rfl rfl rfl
             po := passes_of rfl
             blt := w.blt
             glo := w.glo
             fns := fns
             fnh := fnh
             hotg := fun z => by rw [t.hot] at z; cases z
             isx := fun z => by rw [t.hot] at z; cases z }
      fn := fun _ => rfl
      st := rfl
      fr := rfl
      cls := w.cls
      exn := fun _ => w.ex }
  refine ⟨_, sn.all g t.ck, ?_⟩
  have hvl := r.len
  refine ⟨ds.map some ++ List.replicate (c.N.length - ds.length) none, O, H, [], ?_, Same.refl _, fun _ z => (List.not_mem_nil z).elim, ?_⟩
  · refine ⟨?_, List.nodup_nil, fun _ z => (List.not_mem_nil z).elim, ho⟩
    have e := EnvR.start (c.N.length - ds.length) r
    show EnvR G.C (cut H ([] ++ O)) H (L2.start c.N vs) _ []
    unfold L2.start
    rw [hvl]
    exact e
  · rw [hm ds (by rw [hl, ar])] at h
    unfold bodyD at h
    cases e : evS G.T s (ds.map some ++ List.replicate (c.N.length - ds.length) none) with
    | nx env' =>
      rw [e] at h
      intro σ' H' fp' ok s1 n1
      exact h .non H' [] s1 .non List.nodup_nil fun _ z => nomatch z
    | ret d => rw [e] at h; exact h
    | exc x env' =>
      rw [e] at h
      intro cls dx σ' H' fp' ok s1 n1 rx
      exact h cls dx H' s1 (rx.mono (cut_sub fun a ha => List.mem_append_right _ ha))
    | brk env' => rw [e] at h; exact h.elim
    | cnt env' => rw [e] at h; exact h.elim
    | bad => rw [e] at h; exact h.elim
/-- what a def's text must say, within an except suite -/
structure DefTH (G : Gt) (c : Cn) (ps : List Str) (sc : Scope) (body : List Stmt) (s : S) : Prop where
  sco : FnScope c.N ps sc
  ck : ckS G c sc s body = true
  hot : c.hot = true
  fs : c.fs = []
/-- THE RULE for a def that is called within an except suite -/
theorem fnh_is {G : Gx} {c : Cn} {k : Nat} {x qual : Str} {params : Arguments} {body : List Stmt} {sc : Scope} {dvs : List V} {f : Addr} {fd : FuncData} {ps : List Str} {s : S} {F : Fm}
    (hF : FunD G.C.K x qual params body sc dvs [] f fd) (t : DefTH G c ps sc body s) (w : WorldT G c.rs) (sn : SndS s) (fnh : ∀ i ∈ c.hs, FnIHs G k i) (ar : F.ar = ps.length) (hm : ∀ ds, F.m ds = bodyD G.T s c.N.length ds)
    (hmg : G.mg x = some (.ref f)) (hb : ∀ n, n ≤ F.dfl.length → ∃ us, Binds G.C.K fd ps us ∧ Vals ((F.dfl.drop n).map scV) us) (hd : F.dfl.all isSc = true) : FnIH G (k + 1) F x := by
  refine ⟨f, fd, ps, fun m a oe base ob kb ha => ?_, hmg, hF.kp, ar.symm, hb, hd⟩
  obtain ⟨oc, od, dV, kV, doc, pm, an, cdv, ct, osl, e, l, cd, _, _⟩ := hF.ex
  subst e
  refine L2H.fn_ofH l cd t.sco (fun vs H Q E ⟨O, ds, r, _, hl, _⟩ => by rw [r.len, hl]; exact ar) fun A outer s0 H vs Q E p hot hr h => ?_
  obtain ⟨O, ds, r, ho, hl, h⟩ := h
  let G' : Gx := { G with C := ⟨G.C.K, G.C.cl, some (m, a)⟩, base := base }
  have cls : ClsF G' c.rs := { mg := w.cls.mg, sub := w.cls.sub, exI := w.cls.exI, kp := w.cls.kp, bs := w.cls.bs, ty := w.cls.ty, exm := w.cls.exm, kit := w.cls.kit, exc := w.cls.exc, ve := w.cls.ve }
  have hg : HotG G' k (L2H.cxH (L2N.CX G.P G.w) G.P G.w G.C.K G.mg base c.N qual sc f cdv A outer s0 H E p) m a oe :=
    { ex := rfl
      ob := ob
      at_ := fun {pins σ H1 s1} I => by
        have q := I.bs a oe ha
        refine ⟨q.1, q.2, fun z => ?_⟩
        have y := (I.env0.funs.mem z).1
        rw [show (L2H.cxH (L2N.CX G.P G.w) G.P G.w G.C.K G.mg base c.N qual sc f cdv A outer s0 H E p).base = base from rfl, ha] at y
        cases y
      hc := ⟨p, hot, List.mem_singleton.mpr rfl⟩
      room := hr }
  have g : GoodS G' c k sc noHX (L2H.cxH (L2N.CX G.P G.w) G.P G.w G.C.K G.mg base c.N qual sc f cdv A outer s0 H E p) :=
    { g := { hP := rfl, hw := rfl, hK := rfl, hmg := rfl, hb := rfl, hN := rfl, nd := t.sco.nd, hsc := rfl
             calm := fun z => by rw [t.hot] at z; cases z
             room := fun z => by rw [t.hot] at z; cases z
             units := Nat.lt_of_le_of_lt (Nat.le_trans (Nat.add_le_add_left (show 65 ≤ 200 by decide) _) (Nat.add_le_add_right (Nat.le_add_right _ _) _)) hr.un
             tk := fun u s' ⟨_, _, _, _, _, _, _, _, _, _, _, _, _, _, _, _, z⟩ => z.elim
             po := passes_of rfl
             blt := w.blt
             glo := w.glo
             fns := fun i z => by rw [t.fs] at z; exact (List.not_mem_nil z).elim
             fnh := fun i hi => by
               obtain ⟨f', fd', ps', q1, q2⟩ := (fnh i hi).ex
               exact ⟨f', fd', ps', fun m' a' oe' base' ob' kb' ha' => q1 m' a' oe' base' ob' (fun b o z => kb' b o (kb b o z)) ha', q2⟩
             hotg := fun _ => ⟨m, a, oe, hg⟩
             isx := fun _ e x he hx => hot_isx hg cls rfl rfl rfl rfl w.blt he hx }
      fn := fun _ => rfl
      st := rfl
      fr := rfl
      cls := cls
      exn := fun z => by rw [t.hot] at z; cases z }
  refine ⟨_, sn.all g t.ck, ?_⟩
  have hvl := r.len
  refine ⟨ds.map some ++ List.replicate (c.N.length - ds.length) none, O, H, [], ?_, Same.refl _, fun _ z => (List.not_mem_nil z).elim, ?_⟩
  · refine ⟨?_, List.nodup_nil, fun _ z => (List.not_mem_nil z).elim, ho⟩
    have e := EnvR.start (c.N.length - ds.length) r
    show EnvR G'.C (cut H ([] ++ O)) H (L2.start c.N vs) _ []
    unfold L2.start
    rw [hvl]
    exact e
  · rw [show (hotF F).m ds = okO (F.m ds) from rfl, hm ds] at h
    unfold bodyD at h
    cases e : evS G.T s (ds.map some ++ List.replicate (c.N.length - ds.length) none) with
    | nx env' =>
      rw [e] at h
      intro σ' H' fp' ok s1 n1
      exact h .non H' [] s1 .non List.nodup_nil fun _ z => nomatch z
    | ret d => rw [e] at h; exact h
    | exc x env' => rw [e] at h; exact h.elim
    | brk env' => rw [e] at h; exact h.elim
    | cnt env' => rw [e] at h; exact h.elim
    | bad => rw [e] at h; exact h.elim
end Pv
/-! Pv16: the law's end. -/
namespace Pv
open PySem L2 PySem.Spec
theorem FnI.up {G : Gx} {j k : Nat} {F : Fm} {nm : Str} (h : FnI G j F nm) (hk : j ≤ k) : FnI G k F nm := by
  obtain ⟨f, fd, ps, h1, h2, h3, h4, h5⟩ := h.ex
  exact ⟨f, fd, ps, h1.mono hk, h2, h3, h4, h5⟩
theorem FnIH.up {G : Gx} {j k : Nat} {F : Fm} {nm : Str} (h : FnIH G j F nm) (hk : j ≤ k) : FnIH G k F nm := by
  obtain ⟨f, fd, ps, h1, h2⟩ := h.ex
  exact ⟨f, fd, ps, fun m a oe base q1 q2 q3 => ⟨(h1 m a oe base q1 q2 q3).len, fun A outer s H args us vs Q E p hr => (h1 m a oe base q1 q2 q3).run A outer s H args us vs Q E p (hr.mono hk)⟩, h2⟩
/-- what one class of errors must say -/
structure ClsO (K : PySem.W.Frag) (mg : Str → Option Value) (nm : Str) (C : Addr) : Prop where
  mg : mg nm = some (.ref C)
  bs : PySem.W.subIn K (.ref C) (.type "BaseException") = some true
  ty : PySem.W.typeIn K (.ref C) = some (.type "type")
  hd : PySem.W.hasDictIn K C = true
/-- what one that is raised must say besides -/
structure ClsR (K : PySem.W.Frag) (C : Addr) : Prop where
  kp : PySem.W.keepIn K (.ref C) = true
  exc : ExcC K C
  ve : PySem.W.subIn K (.ref C) (.type "ValueError") = some true
  ex : PySem.W.excIn K C veT "ValueError.__new__" = true
theorem kit_ref {K : PySem.W.Frag} {cls : Value} {C : Addr} {b : Bool} (hdct : PySem.W.hasDictIn K C = true) (ht : PySem.W.typeIn K (.ref C) = some (.type "type")) (h4 : PySem.W.subIn K cls (.ref C) = some b) (hr : (cls == .ref C) = true → b = true) : PySem.W.kitOne K cls (.ref C) = some b := by
  obtain ⟨cd, hc, _⟩ := PySem.W.any_some hdct
  unfold PySem.W.kitOne
  split
  · rename_i e
    rw [hr e]
  · have e2 : ((PySem.W.clsIn K C).isSome && PySem.W.typeIn K (.ref C) == some (.type "type")) = true := by rw [hc, ht] <;> rfl
    show (if ((PySem.W.clsIn K C).isSome && PySem.W.typeIn K (.ref C) == some (.type "type")) = true then PySem.W.subIn K cls (.ref C) else none) = some b
    rw [if_pos e2]
    exact h4
theorem kit_ve {K : PySem.W.Frag} {C : Addr} (h : PySem.W.subIn K (.ref C) (.type "ValueError") = some true) : PySem.W.kitOne K (.ref C) (.type "ValueError") = some true := by
  unfold PySem.W.kitOne
  rw [if_neg (show ¬ ((Value.ref C == Value.type "ValueError") = true) from fun z => by cases beq_iff_eq.mp z)]
  show (if PySem.W.kitMeta "ValueError" = true then PySem.W.subIn K (.ref C) (.type "ValueError") else none) = some true
  rw [if_pos (by decide +kernel)]
  exact h
theorem clsF_of {G : Gx} {rs : List Nat} (one : ∀ n ∈ G.T.cs, ClsO G.C.K G.mg (G.cn n) (G.C.cl n)) (hrs : ∀ n ∈ rs, n ∈ G.T.xs) (rd : ∀ n ∈ G.T.xs, n ∈ G.T.cs ∧ ClsR G.C.K (G.C.cl n))
    (pr : ∀ m ∈ G.T.xs, ∀ n ∈ G.T.cs, PySem.W.subIn G.C.K (.ref (G.C.cl m)) (.ref (G.C.cl n)) = some (G.T.sub m n)) (rf : ∀ m ∈ G.T.xs, ∀ n ∈ G.T.cs, G.C.cl m = G.C.cl n → G.T.sub m n = true) : ClsF G rs where
  mg := fun n h => (one n h).mg
  sub := fun n h => (rd n (hrs n h)).1
  exI := fun n h => (rd n (hrs n h)).2.ex
  kp := fun n h => (rd n (hrs n h)).2.kp
  bs := fun n h => (one n (rd n (hrs n h)).1).bs
  ty := fun n h => (one n (rd n (hrs n h)).1).ty
  exm := fun m hm n hn => PySem.W.exm_ref (one n hn).bs (one n hn).hd (one n hn).ty (pr m hm n hn)
  kit := fun m hm n hn => kit_ref (one n hn).hd (one n hn).ty (pr m hm n hn) fun e => rf m hm n hn (Value.ref.inj (beq_iff_eq.mp e))
  exc := fun n h => (rd n h).2.exc
  ve := fun n h => kit_ve (rd n h).2.ve
theorem fn_is {G : Gx} {c : Cn} {k : Nat} {x qual : Str} {params : Arguments} {body : List Stmt} {sc : Scope} {dvs : List V} {f : Addr} {fd : FuncData} {ps : List Str} {s : S} {F : Fm}
    (hF : FunD G.C.K x qual params body sc dvs [] f fd) (t : DefT G c ps sc body s) (w : WorldT G c.rs) (sn : SndS s) (fns : ∀ i ∈ c.fs, FnIs G k i) (fnh : ∀ i ∈ c.hs, FnIHs G k i) (ar : F.ar = ps.length) (hm : ∀ ds, F.m ds = bodyD G.T s c.N.length ds)
    (hmg : G.mg x = some (.ref f)) (hb : ∀ n, n ≤ F.dfl.length → ∃ us, Binds G.C.K fd ps us ∧ Vals ((F.dfl.drop n).map scV) us) (hd : F.dfl.all isSc = true) : FnI G (k + 1) F x :=
  ⟨f, fd, ps, def_ok hF t w sn fns fnh ar fun ds _ => hm ds, hmg, hF.kp, ar.symm, hb, hd⟩
/-- the law's classes and names -/
structure Lw where
  cs : List Nat
  sub : Nat → Nat → Bool
  rs : List Nat
  fnm : Nat → Str
  cnm : Nat → Str
  gs : List Nat
  gnm : Nat → Str
  gl : Nat → Pv.D
/-- what the top must have written of them -/
structure Wd (L : Lw) (K : PySem.W.Frag) (mg : Str → Option Value) (cl : Nat → Addr) : Prop where
  one : ∀ n ∈ L.cs, ClsO K mg (L.cnm n) (cl n)
  rd : ∀ n ∈ L.rs, n ∈ L.cs ∧ ClsR K (cl n)
  pr : ∀ m ∈ L.rs, ∀ n ∈ L.cs, PySem.W.subIn K (.ref (cl m)) (.ref (cl n)) = some (L.sub m n)
  rf : ∀ m ∈ L.rs, ∀ n ∈ L.cs, cl m = cl n → L.sub m n = true
  blt : ∀ x ∈ bltNames, mg x = none
  glo : ∀ n ∈ L.gs, ∃ u v, mg (L.gnm n) = some u ∧ RelV v u ∧ ∀ ex B H W, Rl ⟨K, cl, ex⟩ B H W v (L.gl n) []
def dfF : Fm := ⟨0, [], fun _ => .bad⟩
def gx (L : Lw) (f : Nat → Fm) (P : Program) (w : World) (K : PySem.W.Frag) (mg : Str → Option Value) (base : Heap) (cl : Nat → Addr) : Gx := { T := ⟨f, L.sub, L.cs, L.rs, L.gl⟩, fn := L.fnm, cn := L.cnm, gs := L.gs, gn := L.gnm, P := P, w := w, C := ⟨K, cl, none⟩, mg := mg, base := base }
section
variable {L : Lw} {f g : Nat → Fm} {P : Program} {w : World} {K : PySem.W.Frag} {mg : Str → Option Value} {base : Heap} {cl : Nat → Addr}
theorem Wd.world (W : Wd L K mg cl) {rs : List Nat} (h : rs.all (fun n => decide (n ∈ L.rs)) = true) : WorldT (gx L f P w K mg base cl) rs where
  cls := clsF_of W.one (fun n hn => of_decide_eq_true (List.all_eq_true.mp h n hn)) W.rd W.pr W.rf
  ex := rfl
  blt := W.blt
  glo := W.glo
theorem FnIH.tb {k : Nat} {F : Fm} {nm : Str} (h : FnIH (gx L f P w K mg base cl) k F nm) : FnIH (gx L g P w K mg base cl) k F nm := ⟨h.ex⟩
theorem FnI.tb {k : Nat} {F : Fm} {nm : Str} (h : FnI (gx L f P w K mg base cl) k F nm) : FnI (gx L g P w K mg base cl) k F nm := ⟨h.ex⟩
end
/-- a list of texts that the module writes -/
theorem glo_list {K : PySem.W.Frag} {mg : Str → Option Value} {cl : Nat → Addr} {nm : Str} {a : Addr} {oc : Value} {osl : Array (Option Value)} {its : List Value} {n : Nat} {ys : List PySem.Str} (hm : mg nm = some (.ref a)) (l : K.lookup a = some ⟨oc, none, .seq its.toArray n, osl⟩) (hc : oc = .type "list") (hz : its.length ≤ 1000) (v : Vals (ys.map V.str) its) :
    ∃ u v, mg nm = some u ∧ RelV v u ∧ ∀ ex B H W, Rl ⟨K, cl, ex⟩ B H W v (.lst .kon (ys.map Pv.D.str)) [] := by
  refine ⟨.ref a, .ref a, hm, rfl, fun ex B H W => .lstK (.inr ⟨_, its.toArray, n, l, hc, rfl, rfl, ?_, by simpa using v⟩) ?_⟩
  · rw [List.size_toArray, sizeLine_eq]
    omega
  · have : ∀ ys : List PySem.Str, RlL ⟨K, cl, ex⟩ B H W (ys.map V.str) (ys.map Pv.D.str) [] := fun ys => by
      induction ys with
      | nil => exact .nil
      | cons y ys ih => exact .cons (fp := []) (fq := []) (.str y) ih
    exact this ys
theorem glo_str {K : PySem.W.Frag} {mg : Str → Option Value} {cl : Nat → Addr} {nm : Str} {t : Tok} {s : PySem.Str} (hm : mg nm = some (.str s t)) : ∃ u v, mg nm = some u ∧ RelV v u ∧ ∀ ex B H W, Rl ⟨K, cl, ex⟩ B H W v (.str s) [] :=
  ⟨_, .str s, hm, ⟨t, rfl⟩, fun _ _ _ _ => .str s⟩
theorem FunD.ofN {K : PySem.W.Frag} {x qual : Str} {params : Arguments} {body : List Stmt} {sc : Scope} {f : Addr} {oc : Value} {od an : Option Addr} {kV doc pm cdv ct : Value} {osl : Array (Option Value)} (l : K.lookup f = some ⟨oc, od, .func (PySem.W.fnOf x qual params body sc .none kV doc pm an cdv ct), osl⟩)
    (c : PySem.W.codeIn K cdv qual = true) (k : PySem.W.keepIn K (.ref f) = true) : FunD K x qual params body sc [] [] f (PySem.W.fnOf x qual params body sc .none kV doc pm an cdv ct) := ⟨⟨oc, od, .none, kV, doc, pm, an, cdv, ct, osl, rfl, l, c, .inl ⟨rfl, rfl⟩, .inl rfl⟩, k⟩
theorem FunD.ofD {K : PySem.W.Frag} {x qual : Str} {params : Arguments} {body : List Stmt} {sc : Scope} {f Ta : Addr} {oc oc' : Value} {od od' an : Option Addr} {kV doc pm cdv ct : Value} {osl osl' : Array (Option Value)} {its : List Value} {n : Nat} {dvs : List V} (l : K.lookup f = some ⟨oc, od, .func (PySem.W.fnOf x qual params body sc (.ref Ta) kV doc pm an cdv ct), osl⟩)
    (c : PySem.W.codeIn K cdv qual = true) (k : PySem.W.keepIn K (.ref f) = true) (d : K.lookup Ta = some ⟨oc', od', .seq its.toArray n, osl'⟩) (ne : dvs ≠ []) (v : Vals dvs its) : FunD K x qual params body sc dvs [] f (PySem.W.fnOf x qual params body sc (.ref Ta) kV doc pm an cdv ct) :=
  ⟨⟨oc, od, .ref Ta, kV, doc, pm, an, cdv, ct, osl, rfl, l, c, .inr ⟨ne, Ta, _, its, n, rfl, d, rfl, v⟩, .inl rfl⟩, k⟩
theorem bind0 {K : PySem.W.Frag} {fd : FuncData} {ps : List Str} (b : Binds K fd ps []) : ∀ n, n ≤ ([] : List Pv.D).length → ∃ us, Binds K fd ps us ∧ Vals ((([] : List Pv.D).drop n).map scV) us := fun n _ => ⟨[], b, by cases n <;> exact .nil⟩
/-- the law's promise -/
def spLawB (K : PySem.W.Frag) : Sp := fun vs H Q _ => ∃ (a : Addr) (ns : List Int), vs = [.ref a] ∧ SqL K H a (ns.map V.int) ∧ ns.length ≤ 63 ∧ (∀ z ∈ ns, Builtin.Int.intBits z ≤ 1048576) ∧ ∀ H', Q (.bl true) H'
theorem RlL.scr {C : Kc} {B H : Hp} {W : List Addr} : ∀ ns : List Int, RlL C B H W (ns.map V.int) (ns.map D.int) []
  | [] => .nil
  | n :: ns => .cons (fp := []) (fq := []) (.int n) (RlL.scr ns)
theorem law_ok {G : Gx} {k : Nat} {f : Addr} {fd : FuncData} {ps : List Str} {F : Fm} (h : FnOk G.P G.w G.C.K G.mg G.base (L2N.CX G.P G.w) k f fd ps (spD G.C F)) (ar : F.ar = 1)
    (law : ∀ ns : List Int, ns.length ≤ 63 → (∀ z ∈ ns, Builtin.Int.intBits z ≤ 1048576) → F.m [.lst .kon (ns.map D.int)] = .ok (.bl true)) : FnOk G.P G.w G.C.K G.mg G.base (L2N.CX G.P G.w) k f fd ps (spLawB G.C.K) := by
  refine h.imp fun vs H Q E ⟨a, ns, e, hs, hl, hb, hq⟩ => ?_
  subst e
  refine ⟨[], [.lst .kon (ns.map D.int)], .cons (fp := []) (fq := []) (.lstK (by rw [cut_nil]; exact hs) (RlL.scr ns)) .nil, fun _ z => (List.not_mem_nil z).elim, ar.symm, ?_⟩
  rw [law ns hl hb]
  intro v H' fq e r nq hf
  obtain ⟨rfl, _⟩ := r.bl_inv
  exact hq H'
theorem walk_k {l : PySem.W.OpenLaw} {k : Nat} {q : Program} {loose : List Str} {XP : (Str → Option Value) → Heap → Prop} {YP : World → Heap → Prop} {d : DefRec} {K : Params → PySem.W.Frag} (x : Str) (hn : l.most = some 63) (hdf : d.params.defaults = []) (hr : Room k callerA)
    (hY : ∀ (w : World) (h : Heap), YP w h → (K w.params).In h)
    (F : ∀ (w : World) (mg : Str → Option Value) (fa : Addr) (h : Heap), (K w.params).In h → h.Ns mainGlobals mg → mg d.name = some (.ref fa) →
      ∃ fd : FuncData, (∀ (s : Shared) (u : Value), BindsTo s fd ⟨[u], []⟩ [(x, u)]) ∧ ∀ base : Heap, (K w.params).In base → base.Ns mainGlobals mg → FnOk l.prog w (K w.params) mg base (L2N.CX l.prog w) k fa fd [x] (spLawB (K w.params))) :
    PySem.W.WalkO q loose XP YP l.row.toRowW d [] (fun f vs => PySem.call f vs) :=
  L2.walk_ofB (n := 63) (k := k) (x := x) (CX := fun w => L2N.CX l.prog w) (sp := fun w => spLawB (K w.params)) hn (by decide) hdf hr hY F (fun _ _ a ns hl hb _ hS => ⟨a, ns, rfl, hS, hl, hb, fun _ => rfl⟩) fun _ _ _ _ _ z => by
    obtain ⟨_, _, _, _, _, _, _, _, _, _, _, _, z⟩ := z
    exact z
end Pv
/-! Pv18: reckoning with evS. -/
namespace Pv
open PySem L2
theorem nonrfl {α : Sort _} {a b : α} (h : a = b) : a = b := h
/-- what a body's end tells the caller -/
def Out.res : Out → Res Pv.D
  | .nx _ => .ok .non
  | .ret d => .ok d
  | .exc x _ => .exc x
  | _ => .bad
theorem bodyD_eq (T : Tb) (s : S) (n : Nat) (ds : List Pv.D) : bodyD T s n ds = (evS T s (ds.map some ++ List.replicate (n - ds.length) none)).res := by
  unfold bodyD Out.res
  rfl
theorem res_nx (e : Env) : (Out.nx e).res = .ok .non := nonrfl rfl
theorem res_ret (d : Pv.D) : (Out.ret d).res = .ok d := nonrfl rfl
theorem res_exc (x : Xc) (e : Env) : (Out.exc x e).res = .exc x := nonrfl rfl
theorem res_ite {p : Prop} [Decidable p] (a b : Out) : (if p then a else b).res = if p then a.res else b.res := by split <;> rfl
theorem thn_nx (e : Env) (f : Env → Out) : (Out.nx e).thn f = f e := nonrfl rfl
theorem thn_ret (d : Pv.D) (f : Env → Out) : (Out.ret d).thn f = .ret d := nonrfl rfl
theorem thn_exc (x : Xc) (e : Env) (f : Env → Out) : (Out.exc x e).thn f = .exc x e := nonrfl rfl
theorem thn_brk (e : Env) (f : Env → Out) : (Out.brk e).thn f = .brk e := nonrfl rfl
theorem thn_cnt (e : Env) (f : Env → Out) : (Out.cnt e).thn f = .cnt e := nonrfl rfl
theorem thn_ite {p : Prop} [Decidable p] (a b : Out) (f : Env → Out) : (if p then a else b).thn f = if p then a.thn f else b.thn f := by split <;> rfl
theorem out_ok {α : Type} (a : α) (e : Env) (f : α → Out) : (Res.ok a).out e f = f a := nonrfl rfl
theorem out_exc {α : Type} (x : Xc) (e : Env) (f : α → Out) : (Res.exc x : Res α).out e f = .exc x e := nonrfl rfl
theorem eqD_int (i j : Int) : eqD (.int i) (.int j) = .ok (decide (i = j)) := by
  have h : ∀ i : Int, plain (.int i) = true := fun i => rfl
  unfold eqD
  rw [h, h]
  simp only [Bool.and_self, if_true]
  show Res.ok (i == j) = _
  congr 1
theorem getE0 (d : Pv.D) (r : Env) : getE (some d :: r) 0 = .ok d := nonrfl rfl
theorem getEs (o : Option Pv.D) (r : Env) (i : Nat) : getE (o :: r) (i + 1) = getE r i := nonrfl rfl
theorem addI (i j : Int) : addD (.int i) (.int j) = .ok (.int (i + j)) := nonrfl rfl
theorem subI (i j : Int) : subD (.int i) (.int j) = .ok (.int (i - j)) := nonrfl rfl
theorem negI (i : Int) : negD (.int i) = .ok (.int (-i)) := nonrfl rfl
theorem fdivI {i j : Int} (h : 0 < j) (h2 : j < 2 ^ 9000) : fdivD (.int i) (.int j) = .ok (.int (i / j)) := by
  have h1 : divOk j = true := by
    unfold divOk
    simp only [Bool.and_eq_true, decide_eq_true_eq]
    refine ⟨by omega, ?_⟩
    rw [Nat.log2_lt (by omega)]
    omega
  show (if divOk j then Res.ok (Pv.D.int (i.fdiv j)) else .bad) = _
  rw [if_pos h1, Int.fdiv_eq_ediv_of_nonneg _ (by omega)]
theorem modI {i j : Int} (h : 0 < j) : modD (.int i) (.int j) = .ok (.int (i % j)) := by
  show (if decide (j ≠ 0) then Res.ok (Pv.D.int (i.fmod j)) else .bad) = _
  rw [if_pos (by simp; omega), Int.fmod_eq_emod_of_nonneg _ (by omega)]
theorem log2_lt' {n k : Nat} (h : n < 2 ^ k) (hk : 0 < k) : n.log2 < k := by
  by_cases z : n = 0
  · subst z
    simpa using hk
  · exact (Nat.log2_lt z).mpr h
theorem mulI {i j : Int} (a b : Nat) (ha : 0 < a) (hb : 0 < b) (hab : a + b ≤ 1000000) (hi : i.natAbs < 2 ^ a) (hj : j.natAbs < 2 ^ b) : mulD (.int i) (.int j) = .ok (.int (i * j)) := by
  have h1 : mulOk i j = true := decide_eq_true (mulx_ok hi hj (by omega))
  show (if mulOk i j then Res.ok (Pv.D.int (i * j)) else .bad) = _
  rw [if_pos h1]
theorem mulX {i j : Int} (b : Nat) (hi : Builtin.Int.intBits i ≤ 2000000) (hj : j.natAbs < 2 ^ b) (hb : b ≤ 1000000) : mulD (.int i) (.int j) = .ok (.int (i * j)) := by
  have h1 : mulOk i j = true := by
    have h2 : Builtin.Int.intBits j ≤ b := PyProof.Rows.intBits_le hj
    refine decide_eq_true ?_
    omega
  show (if mulOk i j then Res.ok (Pv.D.int (i * j)) else .bad) = _
  rw [if_pos h1]
theorem powI {i : Int} {n : Nat} (h : n ≤ 1000000) (hi : i.natAbs < 2 ^ 64) : powD (.int i) (.int n) = .ok (.int (i ^ n)) := by
  have h1 : powOk i n = true := by
    unfold powOk
    simp only [Bool.and_eq_true, decide_eq_true_eq]
    omega
  show (if powOk i n then Res.ok (Pv.D.int (i ^ (n : Int).toNat)) else .bad) = _
  rw [if_pos h1, Int.toNat_natCast]
theorem absI (i : Int) : bltD .abs [.int i] = .ok (.int i.natAbs) := by
  show Res.ok (Pv.D.int (if i < 0 then -i else i)) = _
  congr 2
  split <;> omega
theorem amL_ints (f : Md → Bool) : ∀ ns : List Int, amL f (ns.map Pv.D.int) = true
  | [] => rfl
  | n :: ns => by
    show (am f (.int n) && amL f (ns.map Pv.D.int)) = true
    rw [amL_ints f ns]
    rfl
theorem ixI (m : Md) (ns : List Int) (k : Nat) (h : k < ns.length) : ixD (.lst m (ns.map Pv.D.int)) (.int k) = .ok (.int (ns.getD k 0)) := by
  have e : atI (ns.map Pv.D.int) (k : Int) = some (.int (ns.getD k 0)) := by
    unfold atI ixN
    have h1 : (k : Int) < ((ns.map Pv.D.int).length : Nat) := by rw [List.length_map]; omega
    simp [h, List.getD_eq_getElem?_getD]
  show (match atI (ns.map Pv.D.int) (k : Int) with | some d => Res.ok (fz d) | none => .bad) = _
  rw [e]
  rfl
theorem call_ok {F : Fm} {ds : List Pv.D} {r : Pv.D} (ar : (Nat.ble ds.length F.ar && Nat.ble F.ar (ds.length + F.dfl.length)) = true) (h : F.m (mpL shM ds ++ F.dfl.drop (ds.length + F.dfl.length - F.ar)) = .ok r) (hb : (amL noBrwM ds || clean r) = true) : callD F ds = .ok r := by
  have ar' : ds.length ≤ F.ar ∧ F.ar ≤ ds.length + F.dfl.length := by simpa using ar
  unfold callD
  rw [if_pos ar', h]
  simp only [hb, if_true]
theorem call_exc {F : Fm} {ds : List Pv.D} {x : Xc} (ar : (Nat.ble ds.length F.ar && Nat.ble F.ar (ds.length + F.dfl.length)) = true) (h : F.m (mpL shM ds ++ F.dfl.drop (ds.length + F.dfl.length - F.ar)) = .exc x) (hb : (amL noBrwM ds || amF isOwn x.fs) = true) : callD F ds = .exc x := by
  have ar' : ds.length ≤ F.ar ∧ F.ar ≤ ds.length + F.dfl.length := by simpa using ar
  unfold callD
  rw [if_pos ar', h]
  simp only [hb, if_true]
theorem lenL (m : Md) (l : List Pv.D) : bltD .len [.lst m l] = .ok (.int l.length) := nonrfl rfl
theorem ok_bindN {α β : Type} (a : α) (f : α → Res β) : (Res.ok a >>= f) = f a := nonrfl rfl
theorem exc_bindN {α β : Type} (x : Xc) (f : α → Res β) : ((Res.exc x : Res α) >>= f) = .exc x := nonrfl rfl
theorem bad_bindN {α β : Type} (f : α → Res β) : ((Res.bad : Res α) >>= f) = .bad := nonrfl rfl
theorem pure_okN {α : Type} (a : α) : (pure a : Res α) = .ok a := nonrfl rfl
/-! the worth's equations, as rules that are no reductions -/
theorem eS1 : type_of% @evS.eq_1 := by intros; apply nonrfl; (apply evS.eq_1 <;> assumption)
theorem eS2 : type_of% @evS.eq_2 := by intros; apply nonrfl; (apply evS.eq_2 <;> assumption)
theorem eS3 : type_of% @evS.eq_3 := by intros; apply nonrfl; (apply evS.eq_3 <;> assumption)
theorem eS4 : type_of% @evS.eq_4 := by intros; apply nonrfl; (apply evS.eq_4 <;> assumption)
theorem eS5 : type_of% @evS.eq_5 := by intros; apply nonrfl; (apply evS.eq_5 <;> assumption)
theorem eS6 : type_of% @evS.eq_6 := by intros; apply nonrfl; (apply evS.eq_6 <;> assumption)
theorem eS7 : type_of% @evS.eq_7 := by intros; apply nonrfl; (apply evS.eq_7 <;> assumption)
theorem eS8 : type_of% @evS.eq_8 := by intros; apply nonrfl; (apply evS.eq_8 <;> assumption)
theorem eS9 : type_of% @evS.eq_9 := by intros; apply nonrfl; (apply evS.eq_9 <;> assumption)
theorem eS10 : type_of% @evS.eq_10 := by intros; apply nonrfl; (apply evS.eq_10 <;> assumption)
theorem eS11 : type_of% @evS.eq_11 := by intros; apply nonrfl; (apply evS.eq_11 <;> assumption)
theorem eS12 : type_of% @evS.eq_12 := by intros; apply nonrfl; (apply evS.eq_12 <;> assumption)
theorem eS13 : type_of% @evS.eq_13 := by intros; apply nonrfl; (apply evS.eq_13 <;> assumption)
theorem eS14 : type_of% @evS.eq_14 := by intros; apply nonrfl; (apply evS.eq_14 <;> assumption)
theorem eS15 : type_of% @evS.eq_15 := by intros; apply nonrfl; (apply evS.eq_15 <;> assumption)
theorem eS16 : type_of% @evS.eq_16 := by intros; apply nonrfl; (apply evS.eq_16 <;> assumption)
theorem eS17 : type_of% @evS.eq_17 := by intros; apply nonrfl; (apply evS.eq_17 <;> assumption)
theorem eS18 : type_of% @evS.eq_18 := by intros; apply nonrfl; (apply evS.eq_18 <;> assumption)
theorem eS19 : type_of% @evS.eq_19 := by intros; apply nonrfl; (apply evS.eq_19 <;> assumption)
theorem eE1 : type_of% @evE.eq_1 := by intros; apply nonrfl; (apply evE.eq_1 <;> assumption)
theorem eE2 : type_of% @evE.eq_2 := by intros; apply nonrfl; (apply evE.eq_2 <;> assumption)
theorem eE3 : type_of% @evE.eq_3 := by intros; apply nonrfl; (apply evE.eq_3 <;> assumption)
theorem eE4 : type_of% @evE.eq_4 := by intros; apply nonrfl; (apply evE.eq_4 <;> assumption)
theorem eE5 : type_of% @evE.eq_5 := by intros; apply nonrfl; (apply evE.eq_5 <;> assumption)
theorem eE6 : type_of% @evE.eq_6 := by intros; apply nonrfl; (apply evE.eq_6 <;> assumption)
theorem eE7 : type_of% @evE.eq_7 := by intros; apply nonrfl; (apply evE.eq_7 <;> assumption)
theorem eE8 : type_of% @evE.eq_8 := by intros; apply nonrfl; (apply evE.eq_8 <;> assumption)
theorem eE9 : type_of% @evE.eq_9 := by intros; apply nonrfl; (apply evE.eq_9 <;> assumption)
theorem eE10 : type_of% @evE.eq_10 := by intros; apply nonrfl; (apply evE.eq_10 <;> assumption)
theorem eE11 : type_of% @evE.eq_11 := by intros; apply nonrfl; (apply evE.eq_11 <;> assumption)
theorem eE12 : type_of% @evE.eq_12 := by intros; apply nonrfl; (apply evE.eq_12 <;> assumption)
theorem eE13 : type_of% @evE.eq_13 := by intros; apply nonrfl; (apply evE.eq_13 <;> assumption)
theorem eE14 : type_of% @evE.eq_14 := by intros; apply nonrfl; (apply evE.eq_14 <;> assumption)
theorem eE15 : type_of% @evE.eq_15 := by intros; apply nonrfl; (apply evE.eq_15 <;> assumption)
theorem eE16 : type_of% @evE.eq_16 := by intros; apply nonrfl; (apply evE.eq_16 <;> assumption)
theorem eE17 : type_of% @evE.eq_17 := by intros; apply nonrfl; (apply evE.eq_17 <;> assumption)
theorem eE18 : type_of% @evE.eq_18 := by intros; apply nonrfl; (apply evE.eq_18 <;> assumption)
theorem eE19 : type_of% @evE.eq_19 := by intros; apply nonrfl; (apply evE.eq_19 <;> assumption)
theorem eE20 : type_of% @evE.eq_20 := by intros; apply nonrfl; (apply evE.eq_20 <;> assumption)
theorem eE21 : type_of% @evE.eq_21 := by intros; apply nonrfl; (apply evE.eq_21 <;> assumption)
theorem eE22 : type_of% @evE.eq_22 := by intros; apply nonrfl; (apply evE.eq_22 <;> assumption)
theorem eE23 : type_of% @evE.eq_23 := by intros; apply nonrfl; (apply evE.eq_23 <;> assumption)
theorem eE24 : type_of% @evE.eq_24 := by intros; apply nonrfl; (apply evE.eq_24 <;> assumption)
theorem eE25 : type_of% @evE.eq_25 := by intros; apply nonrfl; (apply evE.eq_25 <;> assumption)
theorem eE26 : type_of% @evE.eq_26 := by intros; apply nonrfl; (apply evE.eq_26 <;> assumption)
theorem eE27 : type_of% @evE.eq_27 := by intros; apply nonrfl; (apply evE.eq_27 <;> assumption)
theorem eT1 : type_of% @evT.eq_1 := by intros; apply nonrfl; (apply evT.eq_1 <;> assumption)
theorem eT2 : type_of% @evT.eq_2 := by intros; apply nonrfl; (apply evT.eq_2 <;> assumption)
theorem eT3 : type_of% @evT.eq_3 := by intros; apply nonrfl; (apply evT.eq_3 <;> assumption)
theorem eT4 : type_of% @evT.eq_4 := by intros; apply nonrfl; (apply evT.eq_4 <;> assumption)
theorem eT5 : type_of% @evT.eq_5 := by intros; apply nonrfl; (apply evT.eq_5 <;> assumption)
theorem eT6 : type_of% @evT.eq_6 := by intros; apply nonrfl; (apply evT.eq_6 <;> assumption)
theorem eT7 : type_of% @evT.eq_7 := by intros; apply nonrfl; (apply evT.eq_7 <;> assumption)
theorem eT8 : type_of% @evT.eq_8 := by intros; apply nonrfl; (apply evT.eq_8 <;> assumption)
theorem eT9 : type_of% @evT.eq_9 := by intros; apply nonrfl; (apply evT.eq_9 <;> assumption)
theorem eT10 : type_of% @evT.eq_10 := by intros; apply nonrfl; (apply evT.eq_10 <;> assumption)
theorem eT11 : type_of% @evT.eq_11 := by intros; apply nonrfl; (apply evT.eq_11 <;> assumption)
theorem eT12 : type_of% @evT.eq_12 := by intros; apply nonrfl; (apply evT.eq_12 <;> assumption)
theorem eT13 : type_of% @evT.eq_13 := by intros; apply nonrfl; (apply evT.eq_13 <;> assumption)
theorem eL1 : type_of% @evL.eq_1 := by intros; apply nonrfl; (apply evL.eq_1 <;> assumption)
theorem eL2 : type_of% @evL.eq_2 := by intros; apply nonrfl; (apply evL.eq_2 <;> assumption)
theorem eL3 : type_of% @evL.eq_3 := by intros; apply nonrfl; (apply evL.eq_3 <;> assumption)
theorem eC1 : type_of% @evC.eq_1 := by intros; apply nonrfl; (apply evC.eq_1 <;> assumption)
theorem eC2 : type_of% @evC.eq_2 := by intros; apply nonrfl; (apply evC.eq_2 <;> assumption)
theorem eC3 : type_of% @evC.eq_3 := by intros; apply nonrfl; (apply evC.eq_3 <;> assumption)
theorem eA1 : type_of% @evA.eq_1 := by intros; apply nonrfl; (apply evA.eq_1 <;> assumption)
theorem eA2 : type_of% @evA.eq_2 := by intros; apply nonrfl; (apply evA.eq_2 <;> assumption)
theorem eA3 : type_of% @evA.eq_3 := by intros; apply nonrfl; (apply evA.eq_3 <;> assumption)
theorem eO1 : type_of% @evO.eq_1 := by intros; apply nonrfl; (apply evO.eq_1 <;> assumption)
theorem eO2 : type_of% @evO.eq_2 := by intros; apply nonrfl; (apply evO.eq_2 <;> assumption)
theorem eO3 : type_of% @evO.eq_3 := by intros; apply nonrfl; (apply evO.eq_3 <;> assumption)
theorem eAV1 : type_of% @evAV.eq_1 := by intros; apply nonrfl; (apply evAV.eq_1 <;> assumption)
theorem eAV2 : type_of% @evAV.eq_2 := by intros; apply nonrfl; (apply evAV.eq_2 <;> assumption)
theorem eAV3 : type_of% @evAV.eq_3 := by intros; apply nonrfl; (apply evAV.eq_3 <;> assumption)
theorem eOV1 : type_of% @evOV.eq_1 := by intros; apply nonrfl; (apply evOV.eq_1 <;> assumption)
theorem eOV2 : type_of% @evOV.eq_2 := by intros; apply nonrfl; (apply evOV.eq_2 <;> assumption)
theorem eOV3 : type_of% @evOV.eq_3 := by intros; apply nonrfl; (apply evOV.eq_3 <;> assumption)
theorem eE28 : type_of% @evE.eq_28 := by intros; apply nonrfl; (apply evE.eq_28 <;> assumption)
theorem eE29 : type_of% @evE.eq_29 := by intros; apply nonrfl; (apply evE.eq_29 <;> assumption)
theorem eE30 : type_of% @evE.eq_30 := by intros; apply nonrfl; (apply evE.eq_30 <;> assumption)
theorem eE31 : type_of% @evE.eq_31 := by intros; apply nonrfl; (apply evE.eq_31 <;> assumption)
theorem eE32 : type_of% @evE.eq_32 := by intros; apply nonrfl; (apply evE.eq_32 <;> assumption)
theorem eS20 : type_of% @evS.eq_20 := by intros; apply nonrfl; (apply evS.eq_20 <;> assumption)
theorem eS21 : type_of% @evS.eq_21 := by intros; apply nonrfl; (apply evS.eq_21 <;> assumption)
theorem eS22 : type_of% @evS.eq_22 := by intros; apply nonrfl; (apply evS.eq_22 <;> assumption)
theorem eE33 : type_of% @evE.eq_33 := by intros; apply nonrfl; (apply evE.eq_33 <;> assumption)
theorem eE34 : type_of% @evE.eq_34 := by intros; apply nonrfl; (apply evE.eq_34 <;> assumption)
theorem eS23 : type_of% @evS.eq_23 := by intros; apply nonrfl; (apply evS.eq_23 <;> assumption)
theorem eS24 : type_of% @evS.eq_24 := by intros; apply nonrfl; (apply evS.eq_24 <;> assumption)
theorem eS25 : type_of% @evS.eq_25 := by intros; apply nonrfl; (apply evS.eq_25 <;> assumption)
theorem eS26 : type_of% @evS.eq_26 := by intros; apply nonrfl; (apply evS.eq_26 <;> assumption)
theorem eE35 : type_of% @evE.eq_35 := by intros; apply nonrfl; (apply evE.eq_35 <;> assumption)
theorem eE36 : type_of% @evE.eq_36 := by intros; apply nonrfl; (apply evE.eq_36 <;> assumption)
end Pv
/-! Pv19: loops and comprehensions reckoned. -/
namespace Pv
open PySem L2
/-- a loop that goes through -/
theorem loopD_inv {f : Env → Out} {t : Env → Pv.D → Out} (I : Nat → Env → Prop) : ∀ (ds : List Pv.D) (k : Nat) (env : Env), I k env →
    (∀ i d env, ds[i]? = some d → I (k + i) env → ∃ e1 e2, t env d = .nx e1 ∧ (f e1 = .nx e2 ∨ f e1 = .cnt e2) ∧ I (k + i + 1) e2) → ∃ env', loopD f t ds env = .nx env' ∧ I (k + ds.length) env'
  | [], k, env, h0, hs => ⟨env, rfl, h0⟩
  | d :: ds, k, env, h0, hs => by
    obtain ⟨e1, e2, h1, h2, h3⟩ := hs 0 d env rfl h0
    have ih := loopD_inv I ds (k + 1) e2 h3 fun i d env hd hi => by
      have q := hs (i + 1) d env hd (by rw [show k + (i + 1) = k + 1 + i by omega]; exact hi)
      rw [show k + (i + 1) = k + 1 + i by omega] at q
      exact q
    obtain ⟨env', q1, q2⟩ := ih
    refine ⟨env', ?_, by rw [List.length_cons, show k + (ds.length + 1) = k + 1 + ds.length by omega]; exact q2⟩
    unfold loopD
    rw [h1]
    rcases h2 with h2 | h2
    · simp only [h2]; exact q1
    · simp only [h2]; exact q1
/-- a loop that ends at the item k otherwise -/
theorem loopD_end {f : Env → Out} {t : Env → Pv.D → Out} (I : Nat → Env → Prop) (o : Out → Prop) (ho : ∀ r, o r → (∀ e, r ≠ .nx e) ∧ (∀ e, r ≠ .cnt e) ∧ (∀ e, r ≠ .brk e)) : ∀ (ds : List Pv.D) (k m : Nat) (env : Env), I k env → m < ds.length →
    (∀ i d env, i < m → ds[i]? = some d → I (k + i) env → ∃ e1 e2, t env d = .nx e1 ∧ (f e1 = .nx e2 ∨ f e1 = .cnt e2) ∧ I (k + i + 1) e2) →
    (∀ d env, ds[m]? = some d → I (k + m) env → ∃ e1, t env d = .nx e1 ∧ o (f e1)) → o (loopD f t ds env)
  | [], k, m, env, h0, hm, hs, he => by cases hm
  | d :: ds, k, 0, env, h0, hm, hs, he => by
    obtain ⟨e1, h1, h2⟩ := he d env rfl h0
    obtain ⟨n1, n2, n3⟩ := ho _ h2
    unfold loopD
    rw [h1]
    simp only
    generalize f e1 = r at *
    cases r with
    | nx e => exact absurd rfl (n1 e)
    | cnt e => exact absurd rfl (n2 e)
    | brk e => exact absurd rfl (n3 e)
    | ret d => exact h2
    | exc x e => exact h2
    | bad => exact h2
  | d :: ds, k, m + 1, env, h0, hm, hs, he => by
    obtain ⟨e1, e2, h1, h2, h3⟩ := hs 0 d env (Nat.succ_pos _) rfl h0
    have ih := loopD_end I o ho ds (k + 1) m e2 h3 (Nat.lt_of_succ_lt_succ hm) (fun i d env hi hd hI => by
      have q := hs (i + 1) d env (Nat.succ_lt_succ hi) hd (by rw [show k + (i + 1) = k + 1 + i by omega]; exact hI)
      rw [show k + (i + 1) = k + 1 + i by omega] at q
      exact q) fun d env hd hI => he d env hd (by rw [show k + (m + 1) = k + 1 + m by omega]; exact hI)
    unfold loopD
    rw [h1]
    rcases h2 with h2 | h2
    · simp only [h2]; exact ih
    · simp only [h2]; exact ih
theorem lcD_map {f : Pv.D → Res (Option Pv.D)} {g : Pv.D → Pv.D} : ∀ l : List Pv.D, (∀ d ∈ l, f d = .ok (some (g d))) → lcD f l = .ok (l.map g)
  | [], _ => rfl
  | d :: r, h => by
    unfold lcD
    rw [h d List.mem_cons_self, ok_bind, lcD_map r fun x hx => h x (List.mem_cons_of_mem _ hx), ok_bind]
    rfl
theorem forL_eq (T : Tb) (is : List Nat) (src : E) (b : S) (env : Env) (m : Md) (l : List Pv.D) (h : evE T src env = .ok (.lst m l)) (hb : (amL noBrwM l && noBrw (.lst m l)) = true) : evS T (.forL is src b) env = loopD (evS T b) (fun e x => tgE e is x) (mpL fzM l) env := by
  simp only [evS, h, out_ok, hb, if_true]
theorem forR_eq (T : Tb) (j : Nat) (src : E) (b : S) (env : Env) (m : Int) (h : evE T src env = .ok (.int m)) (h1 : m.natAbs < 1000000) : evS T (.forR j src b) env = loopD (evS T b) (fun e x => tgE e [j] x) (rngD m) env := by
  have h3 : decide (m.natAbs < 1000000) = true := decide_eq_true h1
  simp only [evS]
  rw [h]
  show (if decide (m.natAbs < 1000000) = true then loopD (evS T b) (fun e x => tgE e [j] x) (rngD m) env else Out.bad) = _
  exact if_pos h3
theorem intsOfL : ∀ ns : List Int, intsOf (ns.map Pv.D.int) = some ns
  | [] => rfl
  | n :: ns => by
    show (intsOf (ns.map Pv.D.int)).map (n :: ·) = _
    rw [intsOfL ns]
    rfl
theorem sumL (m : Md) (ns : List Int) : bltD .sum [.lst m (ns.map .int)] = .ok (.int ns.sum) := by
  show (match intsOf (ns.map Pv.D.int) with | some ns => Res.ok (Pv.D.int ns.sum) | none => .bad) = _
  rw [intsOfL]
theorem listL (m : Md) (l : List Pv.D) : bltD .list [.lst m l] = .ok (.lst .own (mpL fzM l)) := rfl
theorem getD_map (ns : List Int) {i : Nat} {d : Pv.D} (h : (ns.map Pv.D.int)[i]? = some d) : i < ns.length ∧ d = .int (ns.getD i 0) := by
  rw [List.getElem?_map] at h
  cases e : ns[i]? with
  | none => rw [e] at h; cases h
  | some n =>
    rw [e] at h
    cases h
    exact ⟨(List.getElem?_eq_some_iff.mp e).1, by rw [List.getD_eq_getElem?_getD, e]; rfl⟩
theorem tgE1 (env : Env) (i : Nat) (d : Pv.D) (hb : noBrw d = true) (hi : i < env.length) : tgE env [i] d = .nx (env.set i (some d)) := by
  have e : tgE env [i] d = putE env i d := by cases d <;> rfl
  rw [e]
  unfold putE
  simp [hb, hi]
theorem py_ints : ∀ ns : List Int, pyL (ns.map Pv.D.int) = ns.map PyData.int
  | [] => rfl
  | n :: ns => by
    show py (.int n) :: pyL (ns.map Pv.D.int) = _
    rw [py_ints ns]
    rfl
theorem lay_ints : ∀ ns : List Int, PyData.canLayAll0 (ns.map PyData.int) = true
  | [] => rfl
  | n :: ns => by
    show (PyData.canLay0 (.int n) && PyData.canLayAll0 (ns.map PyData.int)) = true
    rw [lay_ints ns]
    rfl
theorem depth_ints : ∀ ns : List Int, PyData.depthAll (ns.map PyData.int) ≤ 1
  | [] => by simp [PyData.depthAll]
  | n :: ns => by
    have h := depth_ints ns
    simp only [List.map_cons, PyData.depthAll, PyData.depth]
    omega
theorem plain_ints (m : Md) (ns : List Int) : plain (.lst m (ns.map .int)) = true := by
  unfold plain SeqAt.shaped
  have e : py (.lst m (ns.map .int)) = .list (ns.map PyData.int) := by
    show PyData.list (pyL (ns.map Pv.D.int)) = _
    rw [py_ints]
  rw [e]
  simp only [PyData.canLay0, lay_ints, PyData.depth, Bool.true_and, decide_eq_true_eq]
  exact decide_eq_true (Nat.le_trans (Nat.succ_le_succ (depth_ints ns)) (show 2 ≤ 64 by decide))
theorem eqv_ints : ∀ a b : List Int, PyData.eqvAll (a.map PyData.int) (b.map PyData.int) = decide (a = b)
  | [], [] => rfl
  | [], _ :: _ => rfl
  | _ :: _, [] => rfl
  | x :: a, y :: b => by
    show (PyData.eqv (.int x) (.int y) && PyData.eqvAll (a.map PyData.int) (b.map PyData.int)) = _
    rw [eqv_ints a b]
    show ((x == y) && decide (a = b)) = _
    by_cases h : x = y <;> by_cases h2 : a = b <;> simp [h, h2]
theorem eqD_ints (m n : Md) (a b : List Int) : eqD (.lst m (a.map .int)) (.lst n (b.map .int)) = .ok (decide (a = b)) := by
  unfold eqD
  rw [plain_ints, plain_ints]
  simp only [Bool.and_self, if_true]
  have e : ∀ (m : Md) (a : List Int), py (.lst m (a.map .int)) = .list (a.map PyData.int) := fun m a => by
    show PyData.list (pyL (a.map Pv.D.int)) = _
    rw [py_ints]
  unfold deq
  rw [e, e]
  show Res.ok (PyData.eqvAll _ _) = _
  rw [eqv_ints]
theorem lineOk_le {n : Nat} (h : n ≤ 1000) : lineOk n = true := decide_eq_true (L2.small1000 h)
/-- a slice of ints -/
def cutI (ns : List Int) (lo hi : Option Int) : List Int := (ns.drop (HT.sIx ns.length 0 lo)).take (HT.sIx ns.length ns.length hi - HT.sIx ns.length 0 lo)
theorem cutI_len (ns : List Int) (lo hi : Option Int) : (cutI ns lo hi).length ≤ ns.length := by
  unfold cutI
  rw [List.length_take, List.length_drop]
  omega
theorem cutI_mem {ns : List Int} {lo hi : Option Int} {n : Int} (h : n ∈ cutI ns lo hi) : n ∈ ns := List.mem_of_mem_drop (List.mem_of_mem_take h)
theorem slI (m : Md) (ns : List Int) (lo hi : Option Int) : slD (.lst m (ns.map .int)) lo hi = .ok (.lst .own ((cutI ns lo hi).map .int)) := by
  show Res.ok (Pv.D.lst .own (mpL fzM (cutD (ns.map Pv.D.int) lo hi))) = _
  have e : cutD (ns.map Pv.D.int) lo hi = (cutI ns lo hi).map Pv.D.int := by
    unfold cutD cutI
    rw [List.length_map, List.map_take, List.map_drop]
  rw [e, mpL_ints]
theorem addL_ints (a b : List Int) (h : a.length + b.length ≤ 1000) : addD (.lst .own (a.map .int)) (.lst .own (b.map .int)) = .ok (.lst .own ((a ++ b).map .int)) := by
  have c : (notKon .own && notKon .own && lineOk ((a.map Pv.D.int).length + (b.map Pv.D.int).length)) = true := by
    rw [List.length_map, List.length_map, lineOk_le h]
    rfl
  show (if (notKon .own && notKon .own && lineOk ((a.map Pv.D.int).length + (b.map Pv.D.int).length)) = true then Res.ok (Pv.D.lst .own (mpL fzM (a.map Pv.D.int) ++ mpL fzM (b.map Pv.D.int))) else .bad) = _
  rw [if_pos c, mpL_ints, mpL_ints, List.map_append]
theorem lc_ints {T : Tb} {j : Nat} {src e : E} {env : Env} {m : Md} {ns : List Int} (g : Int → Int) (hsrc : evE T src env = .ok (.lst m (ns.map .int))) (he : ∀ n ∈ ns, evE T e (env.set j (some (.int n))) = .ok (.int (g n))) (hl : ns.length ≤ 1000) (hf : freeE env j = true) :
    evE T (.lc j src .nil e) env = .ok (.lst .own ((ns.map g).map .int)) := by
  have q : lcD (fun d => do if (← evC T .nil (env.set j (some d))) then return some (fz (← evE T e (env.set j (some d)))) else return none) (ns.map Pv.D.int) = .ok ((ns.map Pv.D.int).map fun d => match d with | .int n => .int (g n) | d => d) := lcD_map _ (by
    intro d hd
    obtain ⟨n, hn, rfl⟩ := List.mem_map.mp hd
    simp only [evC, ok_bind, he n hn, if_true]
    rfl)
  have c : (amL noBrwM (ns.map Pv.D.int) && lineOk (ns.map Pv.D.int).length && freeE env j) = true := by
    rw [amL_ints, List.length_map, lineOk_le hl, hf]
    rfl
  simp only [evE, hsrc, ok_bind, mpL_ints]
  rw [q]
  simp only [okO, ok_bind]
  rw [if_pos c]
  show Res.ok (Pv.D.lst .own ((ns.map Pv.D.int).map _)) = _
  rw [List.map_map, List.map_map]
  rfl
theorem clean_ints (ns : List Int) : clean (.lst .own (ns.map Pv.D.int)) = true := by
  show (true && amL isOwn (ns.map Pv.D.int)) = true
  rw [amL_ints]
  rfl
theorem rngD_at {n k : Nat} {d : Pv.D} (h : (rngD n)[k]? = some d) : k < n ∧ d = .int (k : Int) := by
  unfold rngD at h
  rw [Int.toNat_natCast, List.getElem?_map] at h
  by_cases hk : k < n
  · rw [List.getElem?_range hk] at h
    cases h
    exact ⟨hk, rfl⟩
  · rw [List.getElem?_eq_none (by rw [List.length_range]; omega)] at h
    cases h
theorem rngD_length (n : Nat) : (rngD (n : Int)).length = n := by
  unfold rngD
  rw [List.length_map, List.length_range, Int.toNat_natCast]
end Pv
/-! Pv22: texts and tuples reckoned. -/
namespace Pv
open PySem L2
abbrev strOk (z : Str) : Bool := PyData.strOk z
def okD : Pv.D → Bool
  | .str s => strOk s
  | .int _ => true
  | .bl _ => true
  | .non => true
  | _ => false
def okT : Pv.D → Bool
  | .tup l => l.all okD
  | d => okD d
theorem okD_mp (f : Md → Md) {d : Pv.D} (h : okD d = true) : mp f d = d := by
  cases d <;> first | rfl | cases h
theorem okD_mpL (f : Md → Md) : ∀ {l : List Pv.D}, l.all okD = true → mpL f l = l
  | [], _ => rfl
  | d :: l, h => by
    simp only [List.all_cons, Bool.and_eq_true] at h
    rw [mpL, okD_mp f h.1, okD_mpL f h.2]
theorem okT_mp (f : Md → Md) {d : Pv.D} (h : okT d = true) : mp f d = d := by
  cases d with
  | tup l => show Pv.D.tup (mpL f l) = _; rw [okD_mpL f h]
  | _ => first | rfl | cases h
theorem okD_am (f : Md → Bool) {d : Pv.D} (h : okD d = true) : am f d = true := by
  cases d <;> first | rfl | cases h
theorem okD_amL (f : Md → Bool) : ∀ {l : List Pv.D}, l.all okD = true → amL f l = true
  | [], _ => rfl
  | d :: l, h => by
    simp only [List.all_cons, Bool.and_eq_true] at h
    rw [amL, okD_am f h.1, okD_amL f h.2]
    rfl
theorem okT_am (f : Md → Bool) {d : Pv.D} (h : okT d = true) : am f d = true := by
  cases d with
  | tup l => exact okD_amL f h
  | _ => first | rfl | cases h
theorem okT_mpL (f : Md → Md) : ∀ {l : List Pv.D}, l.all okT = true → mpL f l = l
  | [], _ => rfl
  | d :: l, h => by
    simp only [List.all_cons, Bool.and_eq_true] at h
    rw [mpL, okT_mp f h.1, okT_mpL f h.2]
theorem okT_amL (f : Md → Bool) : ∀ {l : List Pv.D}, l.all okT = true → amL f l = true
  | [], _ => rfl
  | d :: l, h => by
    simp only [List.all_cons, Bool.and_eq_true] at h
    rw [amL, okT_am f h.1, okT_amL f h.2]
    rfl
theorem okD_lay {d : Pv.D} (h : okD d = true) : (py d).canLay0 = true ∧ (py d).depth ≤ 1 ∧ PyData.eqv (py d) (py d) = true := by
  cases d with
  | str s => exact ⟨h, by simp [py, PyData.depth], by simp [py, PyData.eqv]⟩
  | int i => exact ⟨rfl, by simp [py, PyData.depth], by simp [py, PyData.eqv]⟩
  | bl i => exact ⟨rfl, by simp [py, PyData.depth], by simp [py, PyData.eqv]⟩
  | non => exact ⟨rfl, by simp [py, PyData.depth], by simp [py, PyData.eqv]⟩
  | _ => cases h
theorem okD_layL : ∀ {l : List Pv.D}, l.all okD = true → PyData.canLayAll0 (pyL l) = true ∧ PyData.depthAll (pyL l) ≤ 1 ∧ PyData.eqvAll (pyL l) (pyL l) = true
  | [], _ => ⟨rfl, by simp [pyL, PyData.depthAll], by simp [pyL, PyData.eqvAll]⟩
  | d :: l, h => by
    simp only [List.all_cons, Bool.and_eq_true] at h
    obtain ⟨a1, a2, a3⟩ := okD_lay h.1
    obtain ⟨b1, b2, b3⟩ := okD_layL h.2
    refine ⟨?_, ?_, ?_⟩
    · show ((py d).canLay0 && PyData.canLayAll0 (pyL l)) = true
      rw [a1, b1]
      rfl
    · simp only [pyL, PyData.depthAll]
      omega
    · simp only [pyL, PyData.eqvAll, a3, b3, Bool.and_self]
theorem okT_lay {d : Pv.D} (h : okT d = true) : (py d).canLay0 = true ∧ (py d).depth ≤ 2 ∧ PyData.eqv (py d) (py d) = true := by
  cases d with
  | tup l =>
    obtain ⟨b1, b2, b3⟩ := okD_layL (l := l) h
    refine ⟨b1, ?_, ?_⟩
    · simp only [py, PyData.depth]
      omega
    · simp only [py, PyData.eqv, b3]
  | str s => exact ⟨h, by simp [py, PyData.depth], by simp [py, PyData.eqv]⟩
  | int i => exact ⟨rfl, by simp [py, PyData.depth], by simp [py, PyData.eqv]⟩
  | bl i => exact ⟨rfl, by simp [py, PyData.depth], by simp [py, PyData.eqv]⟩
  | non => exact ⟨rfl, by simp [py, PyData.depth], by simp [py, PyData.eqv]⟩
  | _ => cases h
theorem okT_layL : ∀ {l : List Pv.D}, l.all okT = true → PyData.canLayAll0 (pyL l) = true ∧ PyData.depthAll (pyL l) ≤ 2 ∧ PyData.eqvAll (pyL l) (pyL l) = true
  | [], _ => ⟨rfl, by simp [pyL, PyData.depthAll], by simp [pyL, PyData.eqvAll]⟩
  | d :: l, h => by
    simp only [List.all_cons, Bool.and_eq_true] at h
    obtain ⟨a1, a2, a3⟩ := okT_lay h.1
    obtain ⟨b1, b2, b3⟩ := okT_layL h.2
    refine ⟨?_, ?_, ?_⟩
    · show ((py d).canLay0 && PyData.canLayAll0 (pyL l)) = true
      rw [a1, b1]
      rfl
    · simp only [pyL, PyData.depthAll]
      omega
    · simp only [pyL, PyData.eqvAll, a3, b3, Bool.and_self]
theorem plain_okL (m : Md) {l : List Pv.D} (h : l.all okT = true) : plain (.lst m l) = true := by
  obtain ⟨b1, b2, _⟩ := okT_layL h
  unfold plain SeqAt.shaped
  simp only [py, PyData.canLay0, PyData.depth, b1, Bool.true_and, decide_eq_true_eq]
  omega
theorem eqD_ord {a b : Pv.D} (h : isDk1 a = false) : eqD a b = if plain a && plain b then .ok (deq a b) else .bad := by
  unfold eqD
  rw [h]
  rfl
theorem eqD_same (m n : Md) {l : List Pv.D} (h : l.all okT = true) : eqD (.lst m l) (.lst n l) = .ok true := by
  obtain ⟨_, _, b3⟩ := okT_layL h
  rw [eqD_ord rfl]
  unfold deq
  rw [plain_okL m h, plain_okL n h]
  simp only [Bool.and_self, if_true, py, PyData.eqv, b3]
theorem plain_okD {d : Pv.D} (h : okD d = true) : plain d = true := by
  obtain ⟨b1, b2, _⟩ := okD_lay h
  unfold plain SeqAt.shaped
  simp only [b1, Bool.true_and, decide_eq_true_eq]
  omega
theorem eqD_str (a b : Str) (ha : strOk a = true) (hb : strOk b = true) : eqD (.str a) (.str b) = .ok (decide (a = b)) := by
  rw [eqD_ord rfl]
  unfold deq
  rw [plain_okD (d := .str a) ha, plain_okD (d := .str b) hb]
  simp only [Bool.and_self, if_true, py, PyData.eqv]
  congr 1
theorem slL (m : Md) (l : List Pv.D) (lo hi : Option Int) : slD (.lst m l) lo hi = .ok (.lst .own (mpL fzM (cutD l lo hi))) := nonrfl rfl
theorem cut_take (l : List Pv.D) (k : Nat) : cutD l none (some (k : Int)) = l.take k := by
  unfold cutD
  rw [HT.sIx_nat, show HT.sIx l.length 0 none = 0 from rfl, List.drop_zero, Nat.sub_zero]
  by_cases h : k ≤ l.length
  · rw [Nat.min_eq_left h]
  · rw [Nat.min_eq_right (by omega), List.take_of_length_le (Nat.le_refl _), List.take_of_length_le (by omega)]
theorem cut_drop (l : List Pv.D) (k : Nat) : cutD l (some (k : Int)) none = l.drop k := by
  unfold cutD
  rw [HT.sIx_nat, show HT.sIx l.length l.length none = l.length from rfl]
  by_cases h : k ≤ l.length
  · rw [Nat.min_eq_left h]
    exact List.take_of_length_le (by rw [List.length_drop]; exact Nat.le_refl _)
  · rw [Nat.min_eq_right (by omega), List.drop_of_length_le (Nat.le_refl _), List.drop_of_length_le (by omega), List.take_nil]
theorem addL (a b : List Pv.D) (m n : Md) (hm : notKon m = true) (hn : notKon n = true) (h : a.length + b.length ≤ 1000) : addD (.lst m a) (.lst n b) = .ok (.lst .own (mpL fzM a ++ mpL fzM b)) := by
  show (if (notKon m && notKon n && lineOk (a.length + b.length)) = true then Res.ok (Pv.D.lst .own (mpL fzM a ++ mpL fzM b)) else .bad) = _
  rw [hm, hn, lineOk_le h]
  rfl
theorem ixL (m : Md) {l : List Pv.D} {k : Nat} {d : Pv.D} (h : l[k]? = some d) : ixD (.lst m l) (.int k) = .ok (fz d) := by
  have e : atI l (k : Int) = some d := by
    have hk := (List.getElem?_eq_some_iff.mp h).1
    have hg := (List.getElem?_eq_some_iff.mp h).2
    unfold atI ixN
    simp [hk, hg]
  show (match atI l (k : Int) with | some d => Res.ok (fz d) | none => .bad) = _
  rw [e]
theorem lcD_fm {f : Pv.D → Res (Option Pv.D)} {g : Pv.D → Option Pv.D} : ∀ l : List Pv.D, (∀ d ∈ l, f d = .ok (g d)) → lcD f l = .ok (l.filterMap g)
  | [], _ => rfl
  | d :: r, h => by
    unfold lcD
    rw [h d List.mem_cons_self, ok_bind, lcD_fm r fun x hx => h x (List.mem_cons_of_mem _ hx), ok_bind, List.filterMap_cons]
    cases g d <;> rfl
/-- a comprehension over a range -/
theorem lcr_eq {T : Tb} {j : Nat} {src e : E} {env : Env} {n : Nat} (g : Nat → Pv.D) (hsrc : evE T src env = .ok (.int (n : Int))) (he : ∀ i, i < n → evE T e (env.set j (some (.int (i : Int)))) = .ok (g i)) (hn : n ≤ 1000) (hf : freeE env j = true) :
    evE T (.lcr j src .nil e) env = .ok (.lst .own ((List.range n).map fun i => fz (g i))) := by
  have q : lcD (fun d => do if (← evC T .nil (env.set j (some d))) then return some (fz (← evE T e (env.set j (some d)))) else return none) (rngD (n : Int)) = .ok ((rngD (n : Int)).map fun d => match d with | .int i => fz (g i.toNat) | d => d) := lcD_map _ (by
    intro d hd
    obtain ⟨i, hi, rfl⟩ := List.mem_map.mp (show d ∈ (List.range (n : Int).toNat).map fun (k : Nat) => Pv.D.int (k : Int) from hd)
    rw [Int.toNat_natCast, List.mem_range] at hi
    simp only [evC, ok_bind, he i hi, if_true, Int.toNat_natCast]
    rfl)
  have c : (decide ((n : Int).natAbs < 1000000) && freeE env j) = true := by
    rw [hf, Bool.and_true, decide_eq_true_eq]
    omega
  simp only [evE, hsrc, ok_bind]
  rw [q]
  simp only [okO, ok_bind]
  rw [if_pos c]
  show Res.ok (Pv.D.lst .own ((rngD (n : Int)).map _)) = _
  unfold rngD
  rw [List.map_map, Int.toNat_natCast]
  rfl
theorem strsOf_map : ∀ ys : List PySem.Str, strsOf (ys.map Pv.D.str) = some ys
  | [] => rfl
  | y :: ys => by
    show (strsOf (ys.map Pv.D.str)).map (y :: ·) = _
    rw [strsOf_map ys]
    rfl
theorem joinL (s : Str) (m : Md) (ys : List PySem.Str) (h : (ys.map (fun y => y.length)).sum + ys.length * s.length ≤ 16777216) : joinD s (.lst m (ys.map Pv.D.str)) = .ok (.str (Txt.join s ys)) := by
  show (match strsOf (ys.map Pv.D.str) with | some ys => (if decide ((ys.map (fun y : PySem.Str => y.length)).sum + ys.length * s.length ≤ 16777216) then Res.ok (Pv.D.str (Txt.join s ys)) else .bad) | none => .bad) = _
  rw [strsOf_map]
  simp only [h, decide_true, if_true]
theorem strOk_app (a b : Str) (ha : strOk a = true) (hb : strOk b = true) : strOk (a ++ b) = true := by
  unfold strOk PyData.strOk at *
  show (a.cps ++ b.cps).all _ = true
  rw [Array.all_append, ha, hb]
  rfl
theorem strOk_join (s : Str) (hs : strOk s = true) : ∀ ys : List Str, (∀ y ∈ ys, strOk y = true) → strOk (Str.join s ys) = true
  | [], _ => (by decide +kernel : strOk Str.empty = true)
  | [y], h => h y List.mem_cons_self
  | x :: y :: ys, h => strOk_app _ _ (strOk_app _ _ (h x List.mem_cons_self) hs) (strOk_join s hs (y :: ys) fun z hz => h z (List.mem_cons_of_mem _ hz))
theorem letOk {ch : Nat} (h : ch < 0x110000) : strOk (⟨#[ch]⟩ : Str) = true := by
  unfold strOk PyData.strOk
  simp [h]
/-! the letters -/
abbrev letters : Str := "abcdefghijklmnopqrstuvwxyz"
theorem let_len : letters.length = 26 := rfl
theorem atI_some {α : Type} (l : List α) (i : Int) (h0 : 0 ≤ i) (h1 : i < l.length) : ∃ x, atI l i = some x ∧ x ∈ l := by
  obtain ⟨n, rfl⟩ := Int.eq_ofNat_of_zero_le h0
  have hn : n < l.length := by omega
  refine ⟨l[n], ?_, List.getElem_mem hn⟩
  unfold atI ixN
  simp [hn]
theorem let_all : letters.cps.toList.all (fun c => decide (c < 0x110000)) = true := by decide +kernel
theorem let_at (i : Int) (h0 : 0 ≤ i) (h1 : i < 26) : ∃ ch, ixD (.str letters) (.int i) = .ok (.str ⟨#[ch]⟩) ∧ strOk (⟨#[ch]⟩ : Str) = true := by
  obtain ⟨ch, h, hm⟩ := atI_some letters.cps.toList i h0 (by show i < 26; exact h1)
  refine ⟨ch, ?_, letOk (of_decide_eq_true (List.all_eq_true.mp let_all ch hm))⟩
  show (if lineOk letters.length then (match atI letters.cps.toList i with | some ch => Res.ok (Pv.D.str ⟨#[ch]⟩) | none => .bad) else .bad) = _
  rw [let_len, lineOk_le (by omega), if_pos rfl, h]
/-! steps -/
theorem app_eq {T : Tb} {i : Nat} {e : E} {env : Env} {l : List Pv.D} {d : Pv.D} (h : env[i]? = some (some (.lst .own l))) (he : evE T e env = .ok d) (hb : noBrw d = true) (hl : lineOk l.length = true) : evS T (.app i e) env = .nx (env.set i (some (.lst .own (l ++ [Pv.fz d])))) := by
  simp only [evS, h, he, out_ok, hb, hl, Bool.and_self, if_true]
theorem ife_eq {T : Tb} {c : E} {a b : S} {env : Env} {k : Bool} (h : evT T c env = .ok k) : evS T (.ife c a b) env = if k = true then evS T a env else evS T b env := by
  rw [evS, h, out_ok]
theorem ife_t {T : Tb} {c : E} {a b : S} {env : Env} (h : evT T c env = .ok true) : evS T (.ife c a b) env = evS T a env := by
  rw [evS, h, out_ok]
  exact if_pos rfl
theorem ife_f {T : Tb} {c : E} {a b : S} {env : Env} (h : evT T c env = .ok false) : evS T (.ife c a b) env = evS T b env := by
  rw [evS, h, out_ok]
  exact if_neg (by decide)
theorem seq_nx {T : Tb} {a b : S} {env env' : Env} (h : evS T a env = .nx env') : evS T (.seq a b) env = evS T b env' := by
  rw [evS, h, thn_nx]
theorem seq_ret {T : Tb} {a b : S} {env : Env} {d : Pv.D} (h : evS T a env = .ret d) : evS T (.seq a b) env = .ret d := by
  rw [evS, h, thn_ret]
theorem seq_nop {T : Tb} {a : S} {env : Env} : evS T (.seq a .nop) env = evS T a env := by
  rw [evS]
  cases evS T a env with
  | nx e => rw [thn_nx, evS]
  | _ => rfl
theorem nop_eq {T : Tb} {env : Env} : evS T .nop env = .nx env := by rw [evS]
theorem asg_eq {T : Tb} {i : Nat} {e : E} {env : Env} {d : Pv.D} (h : evE T e env = .ok d) (hb : noBrw d = true) (hi : i < env.length) : evS T (.asg i e) env = .nx (env.set i (some d)) := by
  rw [evS, h, out_ok]
  unfold putE
  rw [hb, decide_eq_true hi]
  exact if_pos rfl
theorem ret_eq {T : Tb} {e : E} {env : Env} {d : Pv.D} (h : evE T e env = .ok d) : evS T (.ret e) env = .ret (Pv.rt d) := by
  rw [evS, h, out_ok]
theorem sum_ones : ∀ ys : List PySem.Str, (∀ y ∈ ys, y.length = 1) → (ys.map (fun y => y.length)).sum = ys.length
  | [], _ => rfl
  | y :: ys, h => by
    rw [List.map_cons, List.sum_cons, sum_ones ys fun z hz => h z (List.mem_cons_of_mem _ hz), h y List.mem_cons_self, List.length_cons]
    omega
/-- a comprehension of letters over a range -/
theorem lcr_strs {T : Tb} {j : Nat} {src e : E} {env : Env} {n : Nat} (hsrc : evE T src env = .ok (.int (n : Int))) (he : ∀ i, i < n → ∃ y : PySem.Str, evE T e (env.set j (some (.int (i : Int)))) = .ok (.str y) ∧ y.length = 1 ∧ strOk y = true) (hn : n ≤ 1000) (hf : freeE env j = true) :
    ∃ ys : List PySem.Str, evE T (.lcr j src .nil e) env = .ok (.lst .own (ys.map Pv.D.str)) ∧ ys.length = n ∧ ∀ y ∈ ys, y.length = 1 ∧ strOk y = true := by
  have he' : ∀ i, ∃ y : PySem.Str, i < n → evE T e (env.set j (some (.int (i : Int)))) = .ok (.str y) ∧ y.length = 1 ∧ strOk y = true := fun i => by
    by_cases h : i < n
    · obtain ⟨y, hy⟩ := he i h
      exact ⟨y, fun _ => hy⟩
    · exact ⟨"", fun z => absurd z h⟩
  refine ⟨(List.range n).map fun i => Classical.choose (he' i), ?_, by rw [List.length_map, List.length_range], fun y hy => ?_⟩
  · have q := lcr_eq (T := T) (j := j) (src := src) (e := e) (env := env) (n := n) (fun i => .str (Classical.choose (he' i))) hsrc (fun i hi => (Classical.choose_spec (he' i) hi).1) hn hf
    rw [q, List.map_map]
    rfl
  · obtain ⟨i, hi, rfl⟩ := List.mem_map.mp hy
    exact (Classical.choose_spec (he' i) (List.mem_range.mp hi)).2
def okS (l : List PySem.Str) : Prop := ∀ z ∈ l, strOk z = true
theorem okS_all {l : List PySem.Str} (h : okS l) : (l.map Pv.D.str).all okT = true := by
  rw [List.all_map, List.all_eq_true]
  exact fun z hz => h z hz
theorem join0 {m : Md} {ys : List PySem.Str} (h : ∀ y ∈ ys, y.length = 1 ∧ strOk y = true) (hl : ys.length ≤ 1000) : ∃ z : PySem.Str, joinD "" (.lst m (ys.map Pv.D.str)) = .ok (.str z) ∧ strOk z = true := by
  refine ⟨Txt.join "" ys, joinL "" m ys ?_, ?_⟩
  · rw [sum_ones ys fun y hy => (h y hy).1]
    show ys.length + ys.length * 0 ≤ _
    omega
  · rw [TL.join_eq]
    exact strOk_join "" (by decide +kernel) ys fun y hy => (h y hy).2
/-! texts without a point -/
def goodS (z : PySem.Str) : Bool := z.cps.all fun c => decide (c < 0x110000) && decide (c ≠ 46)
theorem good_ok {z : PySem.Str} (h : goodS z = true) : strOk z = true := by
  unfold goodS at h
  unfold strOk PyData.strOk
  rw [Array.all_eq_true] at h ⊢
  intro i hi
  have := h i hi
  simp only [Bool.and_eq_true] at this
  exact this.1
theorem good_app (a b : PySem.Str) (ha : goodS a = true) (hb : goodS b = true) : goodS (a ++ b) = true := by
  unfold goodS at *
  show (a.cps ++ b.cps).all _ = true
  rw [Array.all_append, ha, hb]
  rfl
theorem good_join (s : PySem.Str) (hs : goodS s = true) : ∀ ys : List PySem.Str, (∀ y ∈ ys, goodS y = true) → goodS (Str.join s ys) = true
  | [], _ => (by decide +kernel : goodS Str.empty = true)
  | [y], h => h y List.mem_cons_self
  | x :: y :: ys, h => good_app _ _ (good_app _ _ (h x List.mem_cons_self) hs) (good_join s hs (y :: ys) fun z hz => h z (List.mem_cons_of_mem _ hz))
theorem let_allG : letters.cps.toList.all (fun c => decide (c < 0x110000) && decide (c ≠ 46)) = true := by decide +kernel
theorem let_atG (i : Int) (h0 : 0 ≤ i) (h1 : i < 26) : ∃ ch, ixD (.str letters) (.int i) = .ok (.str ⟨#[ch]⟩) ∧ goodS (⟨#[ch]⟩ : PySem.Str) = true := by
  obtain ⟨ch, h, hm⟩ := atI_some letters.cps.toList i h0 (by show i < 26; exact h1)
  have hc := List.all_eq_true.mp let_allG ch hm
  refine ⟨ch, ?_, by
    unfold goodS
    simpa using hc⟩
  show (if lineOk letters.length then (match atI letters.cps.toList i with | some ch => Res.ok (Pv.D.str ⟨#[ch]⟩) | none => .bad) else .bad) = _
  rw [let_len, lineOk_le (by omega), if_pos rfl, h]
theorem lcr_strsG {T : Tb} {j : Nat} {src e : E} {env : Env} {n : Nat} (hsrc : evE T src env = .ok (.int (n : Int))) (he : ∀ i, i < n → ∃ y : PySem.Str, evE T e (env.set j (some (.int (i : Int)))) = .ok (.str y) ∧ y.length = 1 ∧ goodS y = true) (hn : n ≤ 1000) (hf : freeE env j = true) :
    ∃ ys : List PySem.Str, evE T (.lcr j src .nil e) env = .ok (.lst .own (ys.map Pv.D.str)) ∧ ys.length = n ∧ ∀ y ∈ ys, y.length = 1 ∧ goodS y = true := by
  have he' : ∀ i, ∃ y : PySem.Str, i < n → evE T e (env.set j (some (.int (i : Int)))) = .ok (.str y) ∧ y.length = 1 ∧ goodS y = true := fun i => by
    by_cases h : i < n
    · obtain ⟨y, hy⟩ := he i h
      exact ⟨y, fun _ => hy⟩
    · exact ⟨"", fun z => absurd z h⟩
  refine ⟨(List.range n).map fun i => Classical.choose (he' i), ?_, by rw [List.length_map, List.length_range], fun y hy => ?_⟩
  · have q := lcr_eq (T := T) (j := j) (src := src) (e := e) (env := env) (n := n) (fun i => .str (Classical.choose (he' i))) hsrc (fun i hi => (Classical.choose_spec (he' i) hi).1) hn hf
    rw [q, List.map_map]
    rfl
  · obtain ⟨i, hi, rfl⟩ := List.mem_map.mp hy
    exact (Classical.choose_spec (he' i) (List.mem_range.mp hi)).2
def okG (l : List PySem.Str) : Prop := ∀ z ∈ l, goodS z = true
theorem okG_all {l : List PySem.Str} (h : okG l) : (l.map Pv.D.str).all okT = true := okS_all fun z hz => good_ok (h z hz)
theorem join0G {m : Md} {ys : List PySem.Str} (h : ∀ y ∈ ys, y.length = 1 ∧ goodS y = true) (hl : ys.length ≤ 1000) : ∃ z : PySem.Str, joinD "" (.lst m (ys.map Pv.D.str)) = .ok (.str z) ∧ goodS z = true := by
  refine ⟨Txt.join "" ys, joinL "" m ys ?_, ?_⟩
  · rw [sum_ones ys fun y hy => (h y hy).1]
    show ys.length + ys.length * 0 ≤ _
    omega
  · rw [TL.join_eq]
    exact good_join "" (by decide +kernel) ys fun y hy => (h y hy).2
theorem lineOk_big {n : Nat} (h : n ≤ 1000000) : lineOk n = true := decide_eq_true (by rw [sizeLine_eq]; omega)
theorem addL_big (a b : List Pv.D) (m n : Md) (hm : notKon m = true) (hn : notKon n = true) (h : a.length + b.length ≤ 1000000) : addD (.lst m a) (.lst n b) = .ok (.lst .own (mpL fzM a ++ mpL fzM b)) := by
  show (if (notKon m && notKon n && lineOk (a.length + b.length)) = true then Res.ok (Pv.D.lst .own (mpL fzM a ++ mpL fzM b)) else .bad) = _
  rw [hm, hn, lineOk_big h]
  rfl
/-! short names -/
def nameS (z : PySem.Str) : Bool := goodS z && decide (z.length ≤ 16)
theorem name_good {z : PySem.Str} (h : nameS z = true) : goodS z = true := by
  unfold nameS at h
  rw [Bool.and_eq_true] at h
  exact h.1
theorem name_ok {z : PySem.Str} (h : nameS z = true) : strOk z = true := good_ok (name_good h)
theorem name_len {z : PySem.Str} (h : nameS z = true) : z.length ≤ 16 := by
  unfold nameS at h
  rw [Bool.and_eq_true] at h
  exact of_decide_eq_true h.2
def okN (l : List PySem.Str) : Prop := ∀ z ∈ l, nameS z = true
theorem okN_all {l : List PySem.Str} (h : okN l) : (l.map Pv.D.str).all okT = true := okS_all fun z hz => name_ok (h z hz)
theorem len_app (a b : PySem.Str) : (a ++ b).length = a.length + b.length := by
  show (a.cps ++ b.cps).size = _
  rw [Array.size_append]
  rfl
theorem len_join : ∀ ys : List PySem.Str, (∀ y ∈ ys, y.length = 1) → (Str.join "" ys).length = ys.length
  | [], _ => rfl
  | [y], h => h y List.mem_cons_self
  | x :: y :: ys, h => by
    show (x ++ "" ++ Str.join "" (y :: ys)).length = _
    rw [len_app, len_app, len_join (y :: ys) fun z hz => h z (List.mem_cons_of_mem _ hz), h x List.mem_cons_self, show ("" : PySem.Str).length = 0 from rfl]
    simp only [List.length_cons]
    omega
theorem join0N {m : Md} {ys : List PySem.Str} (h : ∀ y ∈ ys, y.length = 1 ∧ goodS y = true) (hl : ys.length ≤ 16) : ∃ z : PySem.Str, joinD "" (.lst m (ys.map Pv.D.str)) = .ok (.str z) ∧ nameS z = true := by
  refine ⟨Txt.join "" ys, joinL "" m ys ?_, ?_⟩
  · rw [sum_ones ys fun y hy => (h y hy).1]
    show ys.length + ys.length * 0 ≤ _
    omega
  · rw [TL.join_eq]
    unfold nameS
    rw [Bool.and_eq_true]
    refine ⟨good_join "" (by decide +kernel) ys fun y hy => (h y hy).2, ?_⟩
    rw [len_join ys fun y hy => (h y hy).1]
    exact decide_eq_true hl
theorem addStr (a b : PySem.Str) (h : a.length + b.length ≤ 1000000) : addD (.str a) (.str b) = .ok (.str (a ++ b)) := by
  show (if lineOk (a.length + b.length) then Res.ok (Pv.D.str (a ++ b)) else .bad) = _
  rw [lineOk_big h]
  rfl
theorem app_inj {a x y : PySem.Str} (h : a ++ x = a ++ y) : x = y := by
  have h1 : (a ++ x).cps.toList = (a ++ y).cps.toList := by rw [h]
  have e : ∀ z : PySem.Str, (a ++ z).cps.toList = a.cps.toList ++ z.cps.toList := fun z => by
    show (a.cps ++ z.cps).toList = _
    rw [Array.toList_append]
  rw [e x, e y] at h1
  have h2 := List.append_cancel_left h1
  cases x with
  | mk xs =>
    cases y with
    | mk ys =>
      congr 1
      exact Array.toList_inj.mp h2
/-! comprehensions over data told by a list -/
theorem lcD_sel {α : Type} {f : Pv.D → Res (Option Pv.D)} (dt : α → Pv.D) (q : α → Bool) (g : α → Pv.D) : ∀ l : List α, (∀ s ∈ l, f (dt s) = .ok (if q s = true then some (g s) else none)) → lcD f (l.map dt) = .ok ((l.filter q).map g)
  | [], _ => rfl
  | s :: l, h => by
    rw [List.map_cons]
    unfold lcD
    rw [h s List.mem_cons_self, ok_bind, lcD_sel dt q g l fun x hx => h x (List.mem_cons_of_mem _ hx), ok_bind]
    by_cases e : q s = true
    · rw [if_pos e, List.filter_cons_of_pos e]
      rfl
    · rw [if_neg e, List.filter_cons_of_neg e]
      rfl
theorem lc_sel {α : Type} {T : Tb} {j : Nat} {src c e : E} {env : Pv.Env} {m : Md} (l : List α) (dt : α → Pv.D) (q : α → Bool) (g : α → Pv.D) (al : (l.map dt).all okT = true) (hl : l.length ≤ 1000000) (hsrc : evE T src env = .ok (.lst m (l.map dt))) (hc : ∀ s ∈ l, evT T c (env.set j (some (dt s))) = .ok (q s)) (he : ∀ s ∈ l, evE T e (env.set j (some (dt s))) = .ok (g s)) (hf : freeE env j = true) :
    evE T (.lc j src (.cons c .nil) e) env = .ok (.lst .own ((l.filter q).map fun s => fz (g s))) := by
  have k : lcD (fun d => do if (← evC T (.cons c .nil) (env.set j (some d))) then return some (fz (← evE T e (env.set j (some d)))) else return none) (l.map dt) = .ok ((l.filter q).map fun s => fz (g s)) := lcD_sel dt q _ l (by
    intro s hs
    simp only [evC, hc s hs, ok_bind, he s hs]
    by_cases h : q s = true
    · rw [if_pos h, if_pos h]
      rfl
    · rw [if_neg h, if_neg h]
      rfl)
  have cc : (amL noBrwM (l.map dt) && lineOk (l.map dt).length && freeE env j) = true := by
    rw [okT_amL _ al, List.length_map, lineOk_big hl, hf]
    rfl
  simp only [evE, hsrc, ok_bind, okT_mpL _ al]
  rw [k]
  simp only [okO, ok_bind]
  rw [if_pos cc]
  rfl
theorem in_strs (c : PySem.Str) (m : Md) (l : List PySem.Str) : inD (.str c) (.lst m (l.map Pv.D.str)) = .ok (decide (c ∈ l)) := by
  have e : (l.map Pv.D.str).all flatD = true := by
    rw [List.all_map, List.all_eq_true]
    exact fun _ _ => rfl
  have e2 : ((l.map Pv.D.str).any fun z => deq z (.str c)) = decide (c ∈ l) := by
    rw [List.any_map, Bool.eq_iff_iff, List.any_eq_true, decide_eq_true_eq]
    constructor
    · rintro ⟨p, h1, h2⟩
      have h3 : (p == c) = true := h2
      rw [beq_iff_eq] at h3
      exact h3 ▸ h1
    · intro h
      refine ⟨c, h, ?_⟩
      show (c == c) = true
      simp
  show (if inOk (.str c) (.lst m (l.map Pv.D.str)) (l.map Pv.D.str) then Res.ok ((l.map Pv.D.str).any fun z => deq z (.str c)) else .bad) = _
  rw [show inOk (.str c) (.lst m (l.map Pv.D.str)) (l.map Pv.D.str) = true by
    unfold inOk
    rw [e]
    rfl, if_pos rfl, e2]
theorem tgE2 (env : Env) (i j : Nat) (d f : Pv.D) (hd : noBrw d = true) (hf : noBrw f = true) (hi : i < env.length) (hj : j < env.length) : tgE env [i, j] (.tup [d, f]) = .nx ((env.set i (some d)).set j (some f)) := by
  show (putE env i d).thn (fun e => (putE e j f).thn fun e => .nx e) = _
  unfold putE
  rw [hd, decide_eq_true hi, if_pos (by rfl), thn_nx, hf, List.length_set, decide_eq_true hj, if_pos (by rfl), thn_nx]
/-! dicts told by a list of keys -/
def kvG {α κ : Type} (key : α → κ) (f : α → Pv.D) (ps : List α) : List (κ × Pv.D) := ps.map fun p => (key p, f p)
def addP {α : Type} [DecidableEq α] (ps : List α) (q : α) : List α := if q ∈ ps then ps else ps ++ [q]
theorem getKD_G {α κ : Type} [DecidableEq α] [DecidableEq κ] {key : α → κ} (hk : ∀ p q, key p = key q → p = q) (f : α → Pv.D) (q : α) : ∀ ps : List α, getKD (kvG key f ps) (key q) = if q ∈ ps then some (f q) else none
  | [] => rfl
  | p :: ps => by
    have ih := getKD_G hk f q ps
    unfold getKD kvG at *
    rw [List.map_cons, List.find?_cons]
    by_cases e : p = q
    · subst e
      simp
    · have e2 : ¬ key p = key q := fun z => e (hk p q z)
      have e3 : ¬ q = p := fun z => e z.symm
      simp only [e2, decide_false, List.mem_cons, e3, false_or]
      exact ih
theorem putKD_G {α κ : Type} [DecidableEq α] [DecidableEq κ] {key : α → κ} (hk : ∀ p q, key p = key q → p = q) (f : α → Pv.D) (q : α) (v : Pv.D) (ps : List α) : putKD (kvG key f ps) (key q) v = kvG key (fun p => if p = q then v else f p) (addP ps q) := by
  have e : ((kvG key f ps).any fun kv => decide (kv.1 = key q)) = decide (q ∈ ps) := by
    unfold kvG
    rw [List.any_map, Bool.eq_iff_iff, List.any_eq_true, decide_eq_true_eq]
    constructor
    · rintro ⟨p, h1, h2⟩
      have h3 : key p = key q := by simpa using h2
      exact hk p q h3 ▸ h1
    · intro h
      exact ⟨q, h, by simp⟩
  unfold putKD addP
  rw [e]
  by_cases h : q ∈ ps
  · rw [if_pos (decide_eq_true h), if_pos h]
    unfold kvG
    rw [List.map_map]
    apply List.map_congr_left
    intro p _
    show (if key p = key q then (key p, v) else (key p, f p)) = (key p, if p = q then v else f p)
    by_cases e1 : p = q
    · simp [e1]
    · have e2 : ¬ key p = key q := fun z => e1 (hk p q z)
      simp [e1, e2]
  · rw [if_neg (by simp [h]), if_neg h]
    unfold kvG
    rw [List.map_append]
    congr 1
    · apply List.map_congr_left
      intro p hp
      have e1 : ¬ p = q := fun z => h (z ▸ hp)
      simp [e1]
    · simp
theorem kvG_congr {α κ : Type} {key : α → κ} {f g : α → Pv.D} {ps : List α} (h : ∀ p ∈ ps, f p = g p) : kvG key f ps = kvG key g ps := List.map_congr_left fun p hp => by rw [h p hp]
theorem mem_addP {α : Type} [DecidableEq α] {ps : List α} {q p : α} : p ∈ addP ps q ↔ p ∈ ps ∨ p = q := by
  unfold addP
  split
  · constructor
    · exact .inl
    · rintro (h | rfl)
      · exact h
      · assumption
  · simp
theorem addP_nodup {α : Type} [DecidableEq α] {ps : List α} {q : α} (h : ps.Nodup) : (addP ps q).Nodup := by
  unfold addP
  split
  · exact h
  · rename_i hc
    rw [List.nodup_append]
    exact ⟨h, by simp, fun a ha b hb e => hc (by rw [List.mem_singleton] at hb; rw [← hb, ← e]; exact ha)⟩
/-- what comes first, by k -/
def onesP {α β : Type} [DecidableEq β] (k : α → β) (P : List α) : List β := P.foldl (fun l s => addP l (k s)) []
theorem onesP_app {α β : Type} [DecidableEq β] (k : α → β) (P : List α) (s : α) : onesP k (P ++ [s]) = addP (onesP k P) (k s) := by
  unfold onesP
  rw [List.foldl_append]
  rfl
theorem onesP_fold {α β : Type} [DecidableEq β] (k : α → β) : ∀ (P : List α) (l : List β) (d : β), d ∈ P.foldl (fun l s => addP l (k s)) l ↔ d ∈ l ∨ ∃ s ∈ P, k s = d := by
  intro P
  induction P with
  | nil => intro l d; simp
  | cons s P ih =>
    intro l d
    rw [List.foldl_cons, ih, mem_addP]
    constructor
    · rintro ((h | h) | ⟨t, h1, h2⟩)
      · exact .inl h
      · exact .inr ⟨s, List.mem_cons_self, h.symm⟩
      · exact .inr ⟨t, List.mem_cons_of_mem _ h1, h2⟩
    · rintro (h | ⟨t, h1, h2⟩)
      · exact .inl (.inl h)
      · rcases List.mem_cons.mp h1 with rfl | h1
        · exact .inl (.inr h2.symm)
        · exact .inr ⟨t, h1, h2⟩
theorem mem_onesP {α β : Type} [DecidableEq β] (k : α → β) (P : List α) (d : β) : d ∈ onesP k P ↔ ∃ s ∈ P, k s = d := by
  have := onesP_fold k P [] d
  simpa [onesP] using this
theorem onesP_nodup {α β : Type} [DecidableEq β] (k : α → β) (P : List α) : (onesP k P).Nodup := by
  have key : ∀ (P : List α) (l : List β), l.Nodup → (P.foldl (fun l s => addP l (k s)) l).Nodup := by
    intro P
    induction P with
    | nil => intro l h; exact h
    | cons s P ih => intro l h; exact ih _ (addP_nodup h)
  exact key P [] List.nodup_nil
theorem onesP_len {α β : Type} [DecidableEq β] (k : α → β) (P : List α) : (onesP k P).length ≤ P.length := by
  have key : ∀ (P : List α) (l : List β), (P.foldl (fun l s => addP l (k s)) l).length ≤ l.length + P.length := by
    intro P
    induction P with
    | nil => intro l; simp
    | cons s P ih =>
      intro l
      have := ih (addP l (k s))
      have h : (addP l (k s)).length ≤ l.length + 1 := by unfold addP; split <;> simp
      rw [List.foldl_cons, List.length_cons]
      omega
  have := key P []
  simpa [onesP] using this
theorem mpT_G {α : Type} {key : α → List Key} {f : α → Pv.D} (m : Md → Md) (hf : ∀ p, okT (f p) = true) : ∀ ps : List α, mpT m (kvG key f ps) = kvG key f ps
  | [] => rfl
  | p :: ps => by
    show (key p, mp m (f p)) :: mpT m (kvG key f ps) = _
    rw [okT_mp m (hf p), mpT_G m hf ps]
    rfl
theorem amT_G {α : Type} {key : α → List Key} {f : α → Pv.D} (m : Md → Bool) (hf : ∀ p, okT (f p) = true) : ∀ ps : List α, amT m (kvG key f ps) = true
  | [] => rfl
  | p :: ps => by
    show (am m (f p) && amT m (kvG key f ps)) = true
    rw [okT_am m (hf p), amT_G m hf ps]
    rfl
theorem mpK_G {α : Type} {key : α → Key} {f : α → Pv.D} (m : Md → Md) (hf : ∀ p, okT (f p) = true) : ∀ ps : List α, mpK m (kvG key f ps) = kvG key f ps
  | [] => rfl
  | p :: ps => by
    show (key p, mp m (f p)) :: mpK m (kvG key f ps) = _
    rw [okT_mp m (hf p), mpK_G m hf ps]
    rfl
theorem amK_G {α : Type} {key : α → Key} {f : α → Pv.D} (m : Md → Bool) (hf : ∀ p, okT (f p) = true) : ∀ ps : List α, amK m (kvG key f ps) = true
  | [] => rfl
  | p :: ps => by
    show (am m (f p) && amK m (kvG key f ps)) = true
    rw [okT_am m (hf p), amK_G m hf ps]
    rfl
theorem setkT_eq {T : Tb} {i : Nat} {k v : E} {env : Env} {kvs : List (List Key × Pv.D)} {d : Pv.D} {l : List Pv.D} {kk : List Key} (h : env[i]? = some (some (.dt .own kvs))) (hv : evE T v env = .ok d) (hk : evE T k env = .ok (.tup l)) (hkk : keysD l = some kk) (hb : noBrw d = true) (hl : lineOk kvs.length = true) (hn : amT noOwnM kvs = true) :
    evS T (.setk i k v) env = .nx (env.set i (some (.dt .own (putKD kvs kk (Pv.fz d))))) := by
  rw [evS, h]
  simp only [hv, out_ok, hk, hkk, hb, hl, hn, Bool.and_self, if_true]
theorem setk_eq {T : Tb} {i : Nat} {k v : E} {env : Env} {kvs : List (Key × Pv.D)} {d y : Pv.D} {kk : Key} (h : env[i]? = some (some (.dk .own kvs))) (hv : evE T v env = .ok d) (hk : evE T k env = .ok y) (hkk : keyD y = some kk) (hb : noBrw d = true) (hl : lineOk kvs.length = true) (hn : amK noOwnM kvs = true) :
    evS T (.setk i k v) env = .nx (env.set i (some (.dk .own (putKD kvs kk (Pv.fz d))))) := by
  rw [evS, h]
  simp only [hv, out_ok, hk, hkk, hb, hl, hn, Bool.and_self, if_true]
theorem dget_some {x y w v : Pv.D} (h : dgetO x y = some (some v)) : dgetD x y w = .ok (Pv.fz v) := by
  unfold dgetD
  rw [h]
theorem dget_none {x y w : Pv.D} (h : dgetO x y = some none) : dgetD x y w = .ok (Pv.fz w) := by
  unfold dgetD
  rw [h]
theorem dix_some {x y v : Pv.D} (h : dgetO x y = some (some v)) : dixD x y = .ok (Pv.fz v) := by
  unfold dixD
  rw [h]
theorem ixDk (m : Md) (kvs : List (Key × Pv.D)) (y : Pv.D) : ixD (.dk m kvs) y = dixD (.dk m kvs) y := by
  cases y <;> rfl
theorem ixDt (m : Md) (kvs : List (List Key × Pv.D)) (y : Pv.D) : ixD (.dt m kvs) y = dixD (.dt m kvs) y := by
  cases y <;> rfl
/-- a comprehension over pairs -/
theorem lct_all {α : Type} {T : Tb} {i j : Nat} {src e : E} {env : Pv.Env} {m : Md} (l : List α) (dt x y g : α → Pv.D) (hx : ∀ s, tup2 (dt s) = some (x s, y s)) (hmp : mpL fzM (l.map dt) = l.map dt) (hb : amL noBrwM (l.map dt) = true) (hl : l.length ≤ 1000000) (hsrc : evE T src env = .ok (.lst m (l.map dt)))
    (he : ∀ s ∈ l, evE T e ((env.set i (some (x s))).set j (some (y s))) = .ok (g s)) (fi : freeE env i = true) (fj : freeE env j = true) (hij : i ≠ j) :
    evE T (.lct i j src .nil e) env = .ok (.lst .own (l.map fun s => fz (g s))) := by
  have q : lcD (fun d => match tup2 d with | some p => (do if (← evC T .nil ((env.set i (some p.1)).set j (some p.2))) then return some (fz (← evE T e ((env.set i (some p.1)).set j (some p.2)))) else return none) | none => .bad) (l.map dt) = .ok ((l.filter fun _ => true).map fun s => fz (g s)) := lcD_sel dt (fun _ => true) _ l (by
    intro s hs
    simp only [hx s, evC, ok_bind, he s hs, if_true]
    rfl)
  have cc : (amL noBrwM (l.map dt) && lineOk (l.map dt).length && freeE env i && freeE env j && decide (i ≠ j)) = true := by
    rw [hb, List.length_map, lineOk_big hl, fi, fj, decide_eq_true hij]
    rfl
  rw [evE, hsrc, ok_bind]
  simp only [hmp]
  show (okO (lcD (fun d => match tup2 d with | some p => (do if (← evC T .nil ((env.set i (some p.1)).set j (some p.2))) then return some (fz (← evE T e ((env.set i (some p.1)).set j (some p.2)))) else return none) | none => .bad) (l.map dt)) >>= fun r => if (amL noBrwM (l.map dt) && lineOk (l.map dt).length && freeE env i && freeE env j && decide (i ≠ j)) = true then pure (Pv.D.lst .own r) else Res.bad) = _
  rw [q]
  simp only [okO, ok_bind]
  rw [if_pos cc, List.filter_eq_self.mpr fun _ _ => rfl]
  rfl
/-- a comprehension without a test -/
theorem lc_map {α : Type} {T : Tb} {j : Nat} {src e : E} {env : Pv.Env} {m : Md} (l : List α) (dt : α → Pv.D) (g : α → Pv.D) (al : (l.map dt).all okT = true) (hl : l.length ≤ 1000000) (hsrc : evE T src env = .ok (.lst m (l.map dt))) (he : ∀ s ∈ l, evE T e (env.set j (some (dt s))) = .ok (g s)) (hf : freeE env j = true) :
    evE T (.lc j src .nil e) env = .ok (.lst .own (l.map fun s => fz (g s))) := by
  have k : lcD (fun d => do if (← evC T .nil (env.set j (some d))) then return some (fz (← evE T e (env.set j (some d)))) else return none) (l.map dt) = .ok ((l.filter fun _ => true).map fun s => fz (g s)) := lcD_sel dt (fun _ => true) _ l (by
    intro s hs
    simp only [evC, ok_bind, he s hs, if_true]
    rfl)
  have cc : (amL noBrwM (l.map dt) && lineOk (l.map dt).length && freeE env j) = true := by
    rw [okT_amL _ al, List.length_map, lineOk_big hl, hf]
    rfl
  simp only [evE, hsrc, ok_bind, okT_mpL _ al]
  rw [k]
  simp only [okO, ok_bind]
  rw [if_pos cc, List.filter_eq_self.mpr fun _ _ => rfl]
  rfl
theorem in_tup (c : PySem.Str) (l : List PySem.Str) : inD (.str c) (.tup (l.map Pv.D.str)) = .ok (decide (c ∈ l)) := by
  have h := in_strs c .own l
  have e : (l.map Pv.D.str).all flatD = true := by
    rw [List.all_map, List.all_eq_true]
    exact fun _ _ => rfl
  have o1 : inOk (.str c) (.lst .own (l.map Pv.D.str)) (l.map Pv.D.str) = true := by
    unfold inOk
    rw [e]
    rfl
  have o2 : inOk (.str c) (.tup (l.map Pv.D.str)) (l.map Pv.D.str) = true := by
    unfold inOk
    rw [e]
    rfl
  have h' : (if inOk (.str c) (.lst .own (l.map Pv.D.str)) (l.map Pv.D.str) then Res.ok ((l.map Pv.D.str).any fun z => deq z (.str c)) else .bad) = .ok (decide (c ∈ l)) := h
  show (if inOk (.str c) (.tup (l.map Pv.D.str)) (l.map Pv.D.str) then Res.ok ((l.map Pv.D.str).any fun z => deq z (.str c)) else .bad) = _
  rw [if_pos o1] at h'
  rw [if_pos o2, h']
/-! texts cut -/
theorem slStr (z : PySem.Str) (k : Nat) (h : z.length ≤ 1000000) : slD (.str z) none (some (k : Int)) = .ok (.str (L2.cutS z none (some (k : Int)))) := by
  show (if lineOk z.length then Res.ok (Pv.D.str (L2.cutS z none (some (k : Int)))) else .bad) = _
  rw [lineOk_big h]
  rfl
def allCp (z : PySem.Str) : Prop := ∀ c ∈ z.cps.toList, c < 0x110000
theorem strOk_all {z : PySem.Str} : strOk z = true ↔ allCp z := by
  unfold strOk PyData.strOk allCp
  rw [← Array.all_toList, List.all_eq_true]
  constructor
  · intro h c hc
    exact of_decide_eq_true (h c hc)
  · intro h c hc
    exact decide_eq_true (h c hc)
theorem cut_list (z : PySem.Str) (k : Nat) : (L2.cutS z none (some (k : Int))).cps.toList = z.cps.toList.take k := by
  unfold L2.cutS
  rw [HT.sIx_nat, show HT.sIx z.length 0 none = 0 from rfl, List.drop_zero, Nat.sub_zero]
  show (z.cps.toList.take (min k z.length)) = _
  rw [show z.length = z.cps.toList.length from Array.length_toList.symm]
  by_cases h : k ≤ z.cps.toList.length
  · rw [Nat.min_eq_left h]
  · rw [Nat.min_eq_right (by omega), List.take_of_length_le (Nat.le_refl _), List.take_of_length_le (by omega)]
theorem strOk_cut {z : PySem.Str} (h : strOk z = true) (k : Nat) : strOk (L2.cutS z none (some (k : Int))) = true := by
  rw [strOk_all] at *
  intro c hc
  rw [cut_list] at hc
  exact h c (List.mem_of_mem_take hc)
theorem str_eq_iff (a b : PySem.Str) : a = b ↔ a.cps.toList = b.cps.toList := by
  constructor
  · rintro rfl
    rfl
  · intro h
    cases a with
    | mk x =>
      cases b with
      | mk y =>
        congr 1
        exact Array.toList_inj.mp h
theorem cut_app (a b : PySem.Str) (k : Nat) (h : a.length = k) : L2.cutS (a ++ b) none (some (k : Int)) = a := by
  rw [str_eq_iff, cut_list, show (a ++ b).cps.toList = a.cps.toList ++ b.cps.toList by
    show (a.cps ++ b.cps).toList = _
    rw [Array.toList_append]]
  rw [List.take_append_of_le_length (by rw [show a.cps.toList.length = a.length from Array.length_toList]; omega), List.take_of_length_le (by rw [show a.cps.toList.length = a.length from Array.length_toList]; omega)]
/-- a text's first sign -/
theorem first_sign {z : PySem.Str} (h : 1 ≤ z.length) (hl : z.length ≤ 1000000) : ixD (.str z) (.int 0) = .ok (.str (L2.cutS z none (some ((1 : Nat) : Int)))) := by
  have hz : 0 < z.cps.toList.length := by rw [show z.cps.toList.length = z.length from Array.length_toList]; omega
  obtain ⟨x, r, hc⟩ : ∃ x r, z.cps.toList = x :: r := by
    cases hc : z.cps.toList with
    | nil => rw [hc] at hz; cases hz
    | cons x r => exact ⟨x, r, rfl⟩
  have e : atI z.cps.toList 0 = some x := by
    rw [hc]
    unfold atI ixN
    simp
  show (if lineOk z.length then (match atI z.cps.toList 0 with | some ch => Res.ok (Pv.D.str ⟨#[ch]⟩) | none => .bad) else .bad) = _
  rw [lineOk_big hl, if_pos rfl, e]
  show Res.ok (Pv.D.str ⟨#[x]⟩) = _
  congr 2
  rw [str_eq_iff, cut_list, hc]
  rfl
end Pv
namespace K71
open PySem L2 PySem.Spec Pv
def top (i : Nat) : Stmt := PySem.Challenge.pw_groupbooks_k71_seen_and_headings.main.body.getD i (.Pass ⟨0, 0, 0, 0⟩)
def sub (m n : Nat) : Bool := match m, n with
  | _, _ => false
def fnm : Nat → Str
  | 0 => "_law_mix"
  | 1 => "_law_names"
  | 2 => "_law_cell_at"
  | 3 => "_law_chart"
  | 4 => "_law_accounts"
  | 5 => "_law_text"
  | 6 => "seen"
  | 7 => "_law_heading"
  | 8 => "heading_of"
  | 9 => "_law_good"
  | 10 => "law"
  | _ => ""
def cnm : Nat → Str
  | _ => ""
def gnm : Nat → Str
  | 0 => "HAVE"
  | 1 => "OWN"
  | 2 => "RESULT"
  | _ => ""
def glv : Nat → Pv.D
  | 0 => .lst .kon ((["*goods", ".within", ".stake"] : List Str).map Pv.D.str)
  | 1 => .lst .kon ((["*payout", ".fund", ".payout", ".yield"] : List Str).map Pv.D.str)
  | 2 => .lst .kon ((["*sales", "*cost", "*bridge", "*rounding", ".made", ".freed", ".income", ".outlay", ".bridge"] : List Str).map Pv.D.str)
  | _ => .non
def lw : Lw := ⟨[], sub, [], fnm, cnm, [0, 1, 2], gnm, glv⟩
/-! _law_mix -/
def b0s1 : S := .seq (.ret (.bin .FloorDiv (.bin .Mod (.bin .Mult (.var 2) (.var 2)) (.int 1000000007)) (.int 16))) .nop
def b0 : S := .seq (.asg 2 (.bin .Mod (.bin .Mult (.bin .Add (.bin .Mod (.var 0) (.int 1000003)) (.int 11)) (.bin .Add (.int 716151937) (.bin .Mult (.bin .Mult (.int 39916801) (.var 1)) (.var 1)))) (.int 998244353))) b0s1
def c0 : Cn := ⟨["_law_cell", "_law_k", "_law_some"], [], false, [], []⟩
def t0 : Nat → Fm
  | _ => dfF
def T0 : Tb := ⟨t0, sub, lw.cs, lw.rs, lw.gl⟩
def f0 : Fm := ⟨2, [], bodyD T0 b0 3⟩
/-! _law_names -/
def b1w0 : S := (.seq (.asg 8 (.bin .Add (.var 8) (.ix (.var 2) (.bin .Mod (.bin .Add (.ix (.var 3) (.var 9)) (.bin .Mult (.var 4) (.blt .int (.cons (.cmp .Eq (.var 9) (.var 6)) .nil)))) (.int 26)))))
  .nop)
def b1w1 : S := (.seq (.asg 8 (.str ""))
  (.seq (.forR 9 (.var 5)
  b1w0)
  (.seq (.ife (.cmp .Eq (.bin .Mod (.var 0) (.int 3)) (.int 0))
  (.seq (.asg 8 (.join "" (.lcr 9 (.bin .Add (.var 4) (.int 1)) .nil (.ix (.var 2) (.ix (.var 3) (.var 9))))))
  .nop)
  .nop)
  (.seq (.app 7 (.var 8))
  .nop))))
def b1s6 : S := .seq (.retV 7) .nop
def b1s5 : S := .seq (.forR 4 (.var 1)
  b1w1) b1s6
def b1s4 : S := .seq (.asg 7 (.lst .nil)) b1s5
def b1s3 : S := .seq (.asg 6 (.bin .Mod (.bin .FloorDiv (.var 0) (.int 24)) (.var 5))) b1s4
def b1s2 : S := .seq (.asg 5 (.bin .Add (.int 1) (.bin .Mod (.bin .FloorDiv (.var 0) (.int 3)) (.int 8)))) b1s3
def b1s1 : S := .seq (.asg 3 (.lcr 4 (.int 8) .nil (.bin .Mod (.call 0 (.cons (.var 0) (.cons (.var 4) .nil))) (.int 26)))) b1s2
def b1 : S := .seq (.asg 2 (.str "abcdefghijklmnopqrstuvwxyz")) b1s1
def c1 : Cn := ⟨["_law_cell", "_law_many", "_law_letters", "_law_base", "_law_k", "_law_size", "_law_at", "_law_names_here", "_law_name", "_law_j"], [0], false, [], []⟩
def t1 : Nat → Fm
  | 0 => f0
  | _ => dfF
def T1 : Tb := ⟨t1, sub, lw.cs, lw.rs, lw.gl⟩
theorem u1_0 : T1.f 0 = f0 := rfl
def f1 : Fm := ⟨2, [], bodyD T1 b1 10⟩
/-! _law_cell_at -/
def b2s1 : S := .seq (.ret (.int 0)) .nop
def b2 : S := .seq (.ife (.cmp .Lt (.var 1) (.blt .len (.cons (.var 0) .nil)))
  (.seq (.ret (.ix (.var 0) (.var 1)))
  .nop)
  .nop) b2s1
def c2 : Cn := ⟨["_law_script", "_law_k"], [], false, [], []⟩
def t2 : Nat → Fm
  | _ => dfF
def T2 : Tb := ⟨t2, sub, lw.cs, lw.rs, lw.gl⟩
def f2 : Fm := ⟨2, [], bodyD T2 b2 2⟩
/-! _law_chart -/
def b3w0 : S := (.seq (.setk 2 (.var 4) (.ix (.var 1) (.bin .Mod (.call 0 (.cons (.var 0) (.cons (.bin .Add (.int 20) (.var 3)) .nil))) (.int 4))))
  .nop)
def b3s4 : S := .seq (.retV 2) .nop
def b3s3 : S := .seq (.setd 2 (.str "cash") (.str "have")) b3s4
def b3s2 : S := .seq (.forE 3 4 (.call 1 (.cons (.var 0) (.cons (.int 4) .nil)))
  b3w0) b3s3
def b3s1 : S := .seq (.asg 2 .dct) b3s2
def b3 : S := .seq (.asg 1 (.lst (.cons (.str "have") (.cons (.str "owe") (.cons (.str "own") (.cons (.str "result") .nil)))))) b3s1
def c3 : Cn := ⟨["_law_cell", "_law_heads", "_law_chart_here", "_law_k", "_law_name"], [0, 1], false, [], []⟩
def t3 : Nat → Fm
  | 0 => f0
  | 1 => f1
  | _ => dfF
def T3 : Tb := ⟨t3, sub, lw.cs, lw.rs, lw.gl⟩
theorem u3_0 : T3.f 0 = f0 := rfl
theorem u3_1 : T3.f 1 = f1 := rfl
def f3 : Fm := ⟨1, [], bodyD T3 b3 5⟩
/-! _law_accounts -/
def b4s2 : S := .seq (.ret (.bin .Add (.bin .Add (.var 2) (.lc 3 (.var 1) .nil (.bin .Add (.str ".due.") (.var 3)))) (.blt .list (.cons (.var 0) .nil)))) .nop
def b4s1 : S := .seq (.asg 2 (.bin .Add (.var 2) (.lst (.cons (.str ".payout") (.cons (.str ".yield") (.cons (.str ".made") (.cons (.str ".freed") (.cons (.str ".income") (.cons (.str ".outlay") (.cons (.str ".bridge") .nil)))))))))) b4s2
def b4 : S := .seq (.asg 2 (.lst (.cons (.str "*goods") (.cons (.str "*payout") (.cons (.str "*sales") (.cons (.str "*cost") (.cons (.str "*bridge") (.cons (.str "*rounding") (.cons (.str ".within") (.cons (.str ".stake") (.cons (.str ".fund") .nil))))))))))) b4s1
def c4 : Cn := ⟨["_law_chart_here", "_law_firms", "_law_some", "_law_firm"], [], false, [], []⟩
def t4 : Nat → Fm
  | _ => dfF
def T4 : Tb := ⟨t4, sub, lw.cs, lw.rs, lw.gl⟩
def f4 : Fm := ⟨2, [], bodyD T4 b4 4⟩
/-! _law_text -/
def b5 : S := .seq (.ret (.and (.cons (.isi (.var 0) "str") (.cons (.cmp .Eq (.var 0) (.var 1)) .nil)))) .nop
def c5 : Cn := ⟨["_law_found", "_law_due"], [], false, [], []⟩
def t5 : Nat → Fm
  | _ => dfF
def T5 : Tb := ⟨t5, sub, lw.cs, lw.rs, lw.gl⟩
def f5 : Fm := ⟨2, [], bodyD T5 b5 2⟩
/-! seen -/
def b6s1 : S := .seq (.retV 0) .nop
def b6 : S := .seq (.ife (.and (.cons (.var 1) (.cons (.cmp .Eq (.sl (.var 0) .nil (.cons (.int 1) .nil)) (.str ".")) .nil)))
  (.seq (.ret (.str "*within"))
  .nop)
  .nop) b6s1
def c6 : Cn := ⟨["account", "whole"], [], false, [], []⟩
def t6 : Nat → Fm
  | _ => dfF
def T6 : Tb := ⟨t6, sub, lw.cs, lw.rs, lw.gl⟩
def f6 : Fm := ⟨2, [.bl false], bodyD T6 b6 2⟩
/-! _law_heading -/
def b7s4 : S := .seq (.ret (.ix (.var 1) (.var 0))) .nop
def b7s3 : S := .seq (.ife (.cmp .Eq (.var 0) (.str "*within"))
  (.seq (.ret (.str "within"))
  .nop)
  .nop) b7s4
def b7s2 : S := .seq (.ife (.cmp .In (.var 0) (.tup (.cons (.str "*sales") (.cons (.str "*cost") (.cons (.str "*bridge") (.cons (.str "*rounding") (.cons (.str ".made") (.cons (.str ".freed") (.cons (.str ".income") (.cons (.str ".outlay") (.cons (.str ".bridge") .nil)))))))))))
  (.seq (.ret (.str "result"))
  .nop)
  .nop) b7s3
def b7s1 : S := .seq (.ife (.cmp .In (.var 0) (.tup (.cons (.str "*payout") (.cons (.str ".fund") (.cons (.str ".payout") (.cons (.str ".yield") .nil))))))
  (.seq (.ret (.str "own"))
  .nop)
  .nop) b7s2
def b7 : S := .seq (.ife (.or (.cons (.cmp .In (.var 0) (.tup (.cons (.str "*goods") (.cons (.str ".within") (.cons (.str ".stake") .nil))))) (.cons (.cmp .Eq (.sl (.var 0) .nil (.cons (.int 5) .nil)) (.str ".due.")) .nil)))
  (.seq (.ret (.str "have"))
  .nop)
  .nop) b7s1
def c7 : Cn := ⟨["_law_account", "_law_chart_here"], [], false, [], []⟩
def t7 : Nat → Fm
  | _ => dfF
def T7 : Tb := ⟨t7, sub, lw.cs, lw.rs, lw.gl⟩
def f7 : Fm := ⟨2, [], bodyD T7 b7 2⟩
/-! heading_of -/
def b8s4 : S := .seq (.ret (.ix (.var 1) (.var 0))) .nop
def b8s3 : S := .seq (.ife (.cmp .Eq (.var 0) (.str "*within"))
  (.seq (.ret (.str "within"))
  .nop)
  .nop) b8s4
def b8s2 : S := .seq (.ife (.cmp .In (.var 0) (.glo 2))
  (.seq (.ret (.str "result"))
  .nop)
  .nop) b8s3
def b8s1 : S := .seq (.ife (.cmp .In (.var 0) (.glo 1))
  (.seq (.ret (.str "own"))
  .nop)
  .nop) b8s2
def b8 : S := .seq (.ife (.or (.cons (.cmp .In (.var 0) (.glo 0)) (.cons (.cmp .Eq (.sl (.var 0) .nil (.cons (.int 5) .nil)) (.str ".due.")) .nil)))
  (.seq (.ret (.str "have"))
  .nop)
  .nop) b8s1
def c8 : Cn := ⟨["account", "chart"], [], false, [], []⟩
def t8 : Nat → Fm
  | _ => dfF
def T8 : Tb := ⟨t8, sub, lw.cs, lw.rs, lw.gl⟩
def f8 : Fm := ⟨2, [], bodyD T8 b8 2⟩
/-! _law_good -/
def b9s6 : S := .seq (.ret (.and (.cons (.call 5 (.cons (.call 8 (.cons (.var 2) (.cons (.var 3) .nil))) (.cons (.call 7 (.cons (.var 2) (.cons (.var 1) .nil))) .nil))) (.cons (.cmp .Eq (.var 3) (.var 1)) .nil)))) .nop
def b9s5 : S := .seq (.ife (.nt (.call 5 (.cons (.call 8 (.cons (.var 0) (.cons (.var 3) .nil))) (.cons (.call 7 (.cons (.var 0) (.cons (.var 1) .nil))) .nil))))
  (.seq (.ret (.bl false))
  .nop)
  .nop) b9s6
def b9s4 : S := .seq (.asg 3 (.dlst (.var 1))) b9s5
def b9s3 : S := .seq (.ife (.nt (.call 5 (.cons (.call 6 (.cons (.var 0) (.cons (.bl true) .nil))) (.cons (.var 2) .nil))))
  (.seq (.ret (.bl false))
  .nop)
  .nop) b9s4
def b9s2 : S := .seq (.ife (.or (.cons (.nt (.call 5 (.cons (.call 6 (.cons (.var 0) .nil)) (.cons (.var 0) .nil)))) (.cons (.nt (.call 5 (.cons (.call 6 (.cons (.var 0) (.cons (.bl false) .nil))) (.cons (.var 0) .nil)))) .nil)))
  (.seq (.ret (.bl false))
  .nop)
  .nop) b9s3
def b9s1 : S := .seq (.ife (.cmp .Eq (.ix (.var 0) (.int 0)) (.str "."))
  (.seq (.asg 2 (.str "*within"))
  .nop)
  .nop) b9s2
def b9 : S := .seq (.asg 2 (.var 0)) b9s1
def c9 : Cn := ⟨["_law_account", "_law_chart_here", "_law_whole", "_law_handed"], [5, 6, 7, 8], false, [], []⟩
def t9 : Nat → Fm
  | 5 => f5
  | 6 => f6
  | 7 => f7
  | 8 => f8
  | _ => dfF
def T9 : Tb := ⟨t9, sub, lw.cs, lw.rs, lw.gl⟩
theorem u9_5 : T9.f 5 = f5 := rfl
theorem u9_6 : T9.f 6 = f6 := rfl
theorem u9_7 : T9.f 7 = f7 := rfl
theorem u9_8 : T9.f 8 = f8 := rfl
def f9 : Fm := ⟨2, [], bodyD T9 b9 4⟩
/-! law -/
def b10w0 : S := (.seq (.ife (.nt (.call 9 (.cons (.var 6) (.cons (.var 3) .nil))))
  (.seq (.ret (.bl false))
  .nop)
  .nop)
  .nop)
def b10w1 : S := (.seq (.asg 3 (.call 3 (.cons (.call 2 (.cons (.var 0) (.cons (.var 2) .nil))) .nil)))
  (.seq (.asg 4 (.call 4 (.cons (.var 3) (.cons (.var 1) .nil))))
  (.seq (.asg 5 (.bin .Mod (.call 2 (.cons (.var 0) (.cons (.int 3) .nil))) (.blt .len (.cons (.var 4) .nil))))
  (.seq (.forL [6] (.bin .Add (.sl (.var 4) (.cons (.var 5) .nil) .nil) (.sl (.var 4) .nil (.cons (.var 5) .nil)))
  b10w0)
  .nop))))
def b10s2 : S := .seq (.ret (.call 5 (.cons (.call 6 (.cons (.str "*within") (.cons (.bl true) .nil))) (.cons (.str "*within") .nil)))) .nop
def b10s1 : S := .seq (.forL [2] (.lst (.cons (.int 1) (.cons (.int 2) (.cons (.int 1) .nil))))
  b10w1) b10s2
def b10 : S := .seq (.asg 1 (.call 1 (.cons (.call 2 (.cons (.var 0) (.cons (.int 0) .nil))) (.cons (.int 6) .nil)))) b10s1
def c10 : Cn := ⟨["_law_script", "_law_firms", "_law_place", "_law_chart_here", "_law_some", "_law_turn", "_law_account"], [1, 2, 3, 4, 5, 6, 9], false, [], []⟩
def t10 : Nat → Fm
  | 1 => f1
  | 2 => f2
  | 3 => f3
  | 4 => f4
  | 5 => f5
  | 6 => f6
  | 9 => f9
  | _ => dfF
def T10 : Tb := ⟨t10, sub, lw.cs, lw.rs, lw.gl⟩
theorem u10_1 : T10.f 1 = f1 := rfl
theorem u10_2 : T10.f 2 = f2 := rfl
theorem u10_3 : T10.f 3 = f3 := rfl
theorem u10_4 : T10.f 4 = f4 := rfl
theorem u10_5 : T10.f 5 = f5 := rfl
theorem u10_6 : T10.f 6 = f6 := rfl
theorem u10_9 : T10.f 9 = f9 := rfl
def f10 : Fm := ⟨1, [], bodyD T10 b10 7⟩
section
variable {P : Program} {w : World} {K : PySem.W.Frag} {mg : Str → Option Value} {base : Heap} {cl : Nat → Addr}
theorem k0 (W : Wd lw K mg cl) {f : Addr} {fd : FuncData} (F : FunD K "_law_mix" "_law_mix" (defArgs (top 8)) (defBody (top 8)) (defScope (top 8)) [] [] f fd) (hm : mg "_law_mix" = some (.ref f)) (hb : ∀ n, n ≤ f0.dfl.length → ∃ us, Binds K fd ["_law_cell", "_law_k"] us ∧ Vals ((f0.dfl.drop n).map scV) us)  : FnI (gx lw t0 P w K mg base cl) 1 f0 "_law_mix" :=
  fn_is (G := gx lw t0 P w K mg base cl) (c := c0) (k := 0) (s := b0) (F := f0) (ps := ["_law_cell", "_law_k"]) F ⟨⟨rfl, rfl, rfl, by decide +kernel, rfl, by decide +kernel, by decide +kernel⟩, (show ckS ⟨T0, fnm, cnm, lw.gs, gnm⟩ c0 (defScope (top 8)) b0 (defBody (top 8)) = true by decide +kernel), rfl⟩ (W.world (by decide)) (sndS _) (fun _ z => (List.not_mem_nil z).elim) (fun _ z => (List.not_mem_nil z).elim) rfl (fun _ => rfl) hm hb rfl
theorem k1 (W : Wd lw K mg cl) {f : Addr} {fd : FuncData} (F : FunD K "_law_names" "_law_names" (defArgs (top 9)) (defBody (top 9)) (defScope (top 9)) [] [] f fd) (hm : mg "_law_names" = some (.ref f)) (hb : ∀ n, n ≤ f1.dfl.length → ∃ us, Binds K fd ["_law_cell", "_law_many"] us ∧ Vals ((f1.dfl.drop n).map scV) us) (h0 : FnI (gx lw t0 P w K mg base cl) 1 f0 "_law_mix") : FnI (gx lw t1 P w K mg base cl) 2 f1 "_law_names" :=
  fn_is (G := gx lw t1 P w K mg base cl) (c := c1) (k := 1) (s := b1) (F := f1) (ps := ["_law_cell", "_law_many"]) F ⟨⟨rfl, rfl, rfl, by decide +kernel, rfl, by decide +kernel, by decide +kernel⟩, (show ckS ⟨T1, fnm, cnm, lw.gs, gnm⟩ c1 (defScope (top 9)) b1 (defBody (top 9)) = true by decide +kernel), rfl⟩ (W.world (by decide)) (sndS _) (List.forall_mem_cons.mpr ⟨(h0.up (by decide)).tb, fun _ z => (List.not_mem_nil z).elim⟩) (fun _ z => (List.not_mem_nil z).elim) rfl (fun _ => rfl) hm hb rfl
theorem k2 (W : Wd lw K mg cl) {f : Addr} {fd : FuncData} (F : FunD K "_law_cell_at" "_law_cell_at" (defArgs (top 7)) (defBody (top 7)) (defScope (top 7)) [] [] f fd) (hm : mg "_law_cell_at" = some (.ref f)) (hb : ∀ n, n ≤ f2.dfl.length → ∃ us, Binds K fd ["_law_script", "_law_k"] us ∧ Vals ((f2.dfl.drop n).map scV) us)  : FnI (gx lw t2 P w K mg base cl) 1 f2 "_law_cell_at" :=
  fn_is (G := gx lw t2 P w K mg base cl) (c := c2) (k := 0) (s := b2) (F := f2) (ps := ["_law_script", "_law_k"]) F ⟨⟨rfl, rfl, rfl, by decide +kernel, rfl, by decide +kernel, by decide +kernel⟩, (show ckS ⟨T2, fnm, cnm, lw.gs, gnm⟩ c2 (defScope (top 7)) b2 (defBody (top 7)) = true by decide +kernel), rfl⟩ (W.world (by decide)) (sndS _) (fun _ z => (List.not_mem_nil z).elim) (fun _ z => (List.not_mem_nil z).elim) rfl (fun _ => rfl) hm hb rfl
theorem k3 (W : Wd lw K mg cl) {f : Addr} {fd : FuncData} (F : FunD K "_law_chart" "_law_chart" (defArgs (top 10)) (defBody (top 10)) (defScope (top 10)) [] [] f fd) (hm : mg "_law_chart" = some (.ref f)) (hb : ∀ n, n ≤ f3.dfl.length → ∃ us, Binds K fd ["_law_cell"] us ∧ Vals ((f3.dfl.drop n).map scV) us) (h0 : FnI (gx lw t0 P w K mg base cl) 1 f0 "_law_mix") (h1 : FnI (gx lw t1 P w K mg base cl) 2 f1 "_law_names") : FnI (gx lw t3 P w K mg base cl) 3 f3 "_law_chart" :=
  fn_is (G := gx lw t3 P w K mg base cl) (c := c3) (k := 2) (s := b3) (F := f3) (ps := ["_law_cell"]) F ⟨⟨rfl, rfl, rfl, by decide +kernel, rfl, by decide +kernel, by decide +kernel⟩, (show ckS ⟨T3, fnm, cnm, lw.gs, gnm⟩ c3 (defScope (top 10)) b3 (defBody (top 10)) = true by decide +kernel), rfl⟩ (W.world (by decide)) (sndS _) (List.forall_mem_cons.mpr ⟨(h0.up (by decide)).tb, List.forall_mem_cons.mpr ⟨(h1.up (by decide)).tb, fun _ z => (List.not_mem_nil z).elim⟩⟩) (fun _ z => (List.not_mem_nil z).elim) rfl (fun _ => rfl) hm hb rfl
theorem k4 (W : Wd lw K mg cl) {f : Addr} {fd : FuncData} (F : FunD K "_law_accounts" "_law_accounts" (defArgs (top 12)) (defBody (top 12)) (defScope (top 12)) [] [] f fd) (hm : mg "_law_accounts" = some (.ref f)) (hb : ∀ n, n ≤ f4.dfl.length → ∃ us, Binds K fd ["_law_chart_here", "_law_firms"] us ∧ Vals ((f4.dfl.drop n).map scV) us)  : FnI (gx lw t4 P w K mg base cl) 1 f4 "_law_accounts" :=
  fn_is (G := gx lw t4 P w K mg base cl) (c := c4) (k := 0) (s := b4) (F := f4) (ps := ["_law_chart_here", "_law_firms"]) F ⟨⟨rfl, rfl, rfl, by decide +kernel, rfl, by decide +kernel, by decide +kernel⟩, (show ckS ⟨T4, fnm, cnm, lw.gs, gnm⟩ c4 (defScope (top 12)) b4 (defBody (top 12)) = true by decide +kernel), rfl⟩ (W.world (by decide)) (sndS _) (fun _ z => (List.not_mem_nil z).elim) (fun _ z => (List.not_mem_nil z).elim) rfl (fun _ => rfl) hm hb rfl
theorem k5 (W : Wd lw K mg cl) {f : Addr} {fd : FuncData} (F : FunD K "_law_text" "_law_text" (defArgs (top 13)) (defBody (top 13)) (defScope (top 13)) [] [] f fd) (hm : mg "_law_text" = some (.ref f)) (hb : ∀ n, n ≤ f5.dfl.length → ∃ us, Binds K fd ["_law_found", "_law_due"] us ∧ Vals ((f5.dfl.drop n).map scV) us)  : FnI (gx lw t5 P w K mg base cl) 1 f5 "_law_text" :=
  fn_is (G := gx lw t5 P w K mg base cl) (c := c5) (k := 0) (s := b5) (F := f5) (ps := ["_law_found", "_law_due"]) F ⟨⟨rfl, rfl, rfl, by decide +kernel, rfl, by decide +kernel, by decide +kernel⟩, (show ckS ⟨T5, fnm, cnm, lw.gs, gnm⟩ c5 (defScope (top 13)) b5 (defBody (top 13)) = true by decide +kernel), rfl⟩ (W.world (by decide)) (sndS _) (fun _ z => (List.not_mem_nil z).elim) (fun _ z => (List.not_mem_nil z).elim) rfl (fun _ => rfl) hm hb rfl
theorem k6 (W : Wd lw K mg cl) {f : Addr} {fd : FuncData} (F : FunD K "seen" "seen" (defArgs (top 4)) (defBody (top 4)) (defScope (top 4)) [.bl false] [] f fd) (hm : mg "seen" = some (.ref f)) (hb : ∀ n, n ≤ f6.dfl.length → ∃ us, Binds K fd ["account", "whole"] us ∧ Vals ((f6.dfl.drop n).map scV) us)  : FnI (gx lw t6 P w K mg base cl) 1 f6 "seen" :=
  fn_is (G := gx lw t6 P w K mg base cl) (c := c6) (k := 0) (s := b6) (F := f6) (ps := ["account", "whole"]) F ⟨⟨rfl, rfl, rfl, by decide +kernel, rfl, by decide +kernel, by decide +kernel⟩, (show ckS ⟨T6, fnm, cnm, lw.gs, gnm⟩ c6 (defScope (top 4)) b6 (defBody (top 4)) = true by decide +kernel), rfl⟩ (W.world (by decide)) (sndS _) (fun _ z => (List.not_mem_nil z).elim) (fun _ z => (List.not_mem_nil z).elim) rfl (fun _ => rfl) hm hb rfl
theorem k7 (W : Wd lw K mg cl) {f : Addr} {fd : FuncData} (F : FunD K "_law_heading" "_law_heading" (defArgs (top 11)) (defBody (top 11)) (defScope (top 11)) [] [] f fd) (hm : mg "_law_heading" = some (.ref f)) (hb : ∀ n, n ≤ f7.dfl.length → ∃ us, Binds K fd ["_law_account", "_law_chart_here"] us ∧ Vals ((f7.dfl.drop n).map scV) us)  : FnI (gx lw t7 P w K mg base cl) 1 f7 "_law_heading" :=
  fn_is (G := gx lw t7 P w K mg base cl) (c := c7) (k := 0) (s := b7) (F := f7) (ps := ["_law_account", "_law_chart_here"]) F ⟨⟨rfl, rfl, rfl, by decide +kernel, rfl, by decide +kernel, by decide +kernel⟩, (show ckS ⟨T7, fnm, cnm, lw.gs, gnm⟩ c7 (defScope (top 11)) b7 (defBody (top 11)) = true by decide +kernel), rfl⟩ (W.world (by decide)) (sndS _) (fun _ z => (List.not_mem_nil z).elim) (fun _ z => (List.not_mem_nil z).elim) rfl (fun _ => rfl) hm hb rfl
theorem k8 (W : Wd lw K mg cl) {f : Addr} {fd : FuncData} (F : FunD K "heading_of" "heading_of" (defArgs (top 5)) (defBody (top 5)) (defScope (top 5)) [] [] f fd) (hm : mg "heading_of" = some (.ref f)) (hb : ∀ n, n ≤ f8.dfl.length → ∃ us, Binds K fd ["account", "chart"] us ∧ Vals ((f8.dfl.drop n).map scV) us)  : FnI (gx lw t8 P w K mg base cl) 1 f8 "heading_of" :=
  fn_is (G := gx lw t8 P w K mg base cl) (c := c8) (k := 0) (s := b8) (F := f8) (ps := ["account", "chart"]) F ⟨⟨rfl, rfl, rfl, by decide +kernel, rfl, by decide +kernel, by decide +kernel⟩, (show ckS ⟨T8, fnm, cnm, lw.gs, gnm⟩ c8 (defScope (top 5)) b8 (defBody (top 5)) = true by decide +kernel), rfl⟩ (W.world (by decide)) (sndS _) (fun _ z => (List.not_mem_nil z).elim) (fun _ z => (List.not_mem_nil z).elim) rfl (fun _ => rfl) hm hb rfl
theorem k9 (W : Wd lw K mg cl) {f : Addr} {fd : FuncData} (F : FunD K "_law_good" "_law_good" (defArgs (top 14)) (defBody (top 14)) (defScope (top 14)) [] [] f fd) (hm : mg "_law_good" = some (.ref f)) (hb : ∀ n, n ≤ f9.dfl.length → ∃ us, Binds K fd ["_law_account", "_law_chart_here"] us ∧ Vals ((f9.dfl.drop n).map scV) us) (h5 : FnI (gx lw t5 P w K mg base cl) 1 f5 "_law_text") (h6 : FnI (gx lw t6 P w K mg base cl) 1 f6 "seen") (h7 : FnI (gx lw t7 P w K mg base cl) 1 f7 "_law_heading") (h8 : FnI (gx lw t8 P w K mg base cl) 1 f8 "heading_of") : FnI (gx lw t9 P w K mg base cl) 2 f9 "_law_good" :=
  fn_is (G := gx lw t9 P w K mg base cl) (c := c9) (k := 1) (s := b9) (F := f9) (ps := ["_law_account", "_law_chart_here"]) F ⟨⟨rfl, rfl, rfl, by decide +kernel, rfl, by decide +kernel, by decide +kernel⟩, (show ckS ⟨T9, fnm, cnm, lw.gs, gnm⟩ c9 (defScope (top 14)) b9 (defBody (top 14)) = true by decide +kernel), rfl⟩ (W.world (by decide)) (sndS _) (List.forall_mem_cons.mpr ⟨(h5.up (by decide)).tb, List.forall_mem_cons.mpr ⟨(h6.up (by decide)).tb, List.forall_mem_cons.mpr ⟨(h7.up (by decide)).tb, List.forall_mem_cons.mpr ⟨(h8.up (by decide)).tb, fun _ z => (List.not_mem_nil z).elim⟩⟩⟩⟩) (fun _ z => (List.not_mem_nil z).elim) rfl (fun _ => rfl) hm hb rfl
theorem kL (W : Wd lw K mg cl) {f : Addr} {fd : FuncData} (F : FunD K "law" "law" (defArgs (top 15)) (defBody (top 15)) (defScope (top 15)) [] [] f fd) (h1 : FnI (gx lw t1 P w K mg base cl) 2 f1 "_law_names") (h2 : FnI (gx lw t2 P w K mg base cl) 1 f2 "_law_cell_at") (h3 : FnI (gx lw t3 P w K mg base cl) 3 f3 "_law_chart") (h4 : FnI (gx lw t4 P w K mg base cl) 1 f4 "_law_accounts") (h5 : FnI (gx lw t5 P w K mg base cl) 1 f5 "_law_text") (h6 : FnI (gx lw t6 P w K mg base cl) 1 f6 "seen") (h9 : FnI (gx lw t9 P w K mg base cl) 2 f9 "_law_good") : FnOk P w K mg base (L2N.CX P w) 4 f fd ["_law_script"] (spD ⟨K, cl, none⟩ f10) :=
  def_ok (G := gx lw t10 P w K mg base cl) (c := c10) (k := 3) (s := b10) (F := f10) (ps := ["_law_script"]) F ⟨⟨rfl, rfl, rfl, by decide +kernel, rfl, by decide +kernel, by decide +kernel⟩, (show ckS ⟨T10, fnm, cnm, lw.gs, gnm⟩ c10 (defScope (top 15)) b10 (defBody (top 15)) = true by decide +kernel), rfl⟩ (W.world (by decide)) (sndS _) (List.forall_mem_cons.mpr ⟨(h1.up (by decide)).tb, List.forall_mem_cons.mpr ⟨(h2.up (by decide)).tb, List.forall_mem_cons.mpr ⟨(h3.up (by decide)).tb, List.forall_mem_cons.mpr ⟨(h4.up (by decide)).tb, List.forall_mem_cons.mpr ⟨(h5.up (by decide)).tb, List.forall_mem_cons.mpr ⟨(h6.up (by decide)).tb, List.forall_mem_cons.mpr ⟨(h9.up (by decide)).tb, fun _ z => (List.not_mem_nil z).elim⟩⟩⟩⟩⟩⟩⟩) (fun _ z => (List.not_mem_nil z).elim) rfl (fun _ _ => rfl)
end
theorem lo0 : lineOk 0 = true := lineOk_le (by omega)
theorem lo1 : lineOk 1 = true := lineOk_le (by omega)
theorem lo2 : lineOk 2 = true := lineOk_le (by omega)
theorem lo4 : lineOk 4 = true := lineOk_le (by omega)
theorem mulS {i j : Int} (hi : i.natAbs < 2 ^ 200) (hj : j.natAbs < 2 ^ 200) : mulD (.int i) (.int j) = .ok (.int (i * j)) := mulI 200 200 (by omega) (by omega) (by omega) hi hj
/-! a cell, a mix -/
theorem evC0 (ns : List Int) (k : Nat) : f2.m [.lst .kon (ns.map Pv.D.int), .int k] = .ok (.int (ns.getD k 0)) := by
  by_cases h : k < ns.length
  · have i := ixI .kon ns k h
    have h' : (k : Int) < (ns.length : Int) := by omega
    simp only [f2, b2, b2s1, bodyD_eq, res_nx, res_ret, res_exc, res_ite, eS1, eS2, eS3, eS4, eS5, eS6, eS7, eS8, eS9, eS10, eS11, eS12, eS13, eS14, eS15, eS16, eS17, eS18, eS19, eS20, eS21, eS22, eS23, eS24, eS25, eS26, eE1, eE2, eE3, eE4, eE5, eE6, eE7, eE8, eE9, eE10, eE11, eE12, eE13, eE14, eE15, eE16, eE17, eE18, eE19, eE20, eE21, eE22, eE23, eE24, eE25, eE26, eE27, eE28, eE29, eE30, eE31, eE32, eE33, eE34, eE35, eE36, eT1, eT2, eT3, eT4, eT5, eT6, eT7, eT8, eT9, eT10, eT11, eT12, eT13, eL1, eL2, eL3, eC1, eC2, eC3, eA1, eA2, eA3, eO1, eO2, eO3, eAV1, eAV2, eAV3, eOV1, eOV2, eOV3, out_ok, out_exc, thn_nx, thn_ret, thn_exc, thn_brk, thn_cnt, thn_ite, ok_bindN, exc_bindN, bad_bindN, pure_okN, getE0, getEs, putE, noBrw, am, noBrwM, bo, rt, mp, binD, cmpD, cmpI, addI, subI, negI, eqD_int, truthD, notR, absI, lenL, List.map_cons, List.map_nil, List.length_cons, List.length_nil, List.replicate, List.cons_append, List.nil_append, List.set, decide_true, decide_false, Bool.not_true, Bool.not_false, if_true, if_false, Bool.true_and, Bool.and_true, reduceIte, Bool.false_eq_true, decide_eq_true_eq, Nat.reduceSub, Nat.reduceAdd, Nat.reduceLT, Nat.zero_add, mpL_ints, boM, List.length_map, h', i]
  · have h' : ¬ (k : Int) < (ns.length : Int) := by omega
    have e : ns.getD k 0 = 0 := by simp [List.getD_eq_getElem?_getD, List.getElem?_eq_none (Nat.le_of_not_lt h)]
    simp only [f2, b2, b2s1, bodyD_eq, res_nx, res_ret, res_exc, res_ite, eS1, eS2, eS3, eS4, eS5, eS6, eS7, eS8, eS9, eS10, eS11, eS12, eS13, eS14, eS15, eS16, eS17, eS18, eS19, eS20, eS21, eS22, eS23, eS24, eS25, eS26, eE1, eE2, eE3, eE4, eE5, eE6, eE7, eE8, eE9, eE10, eE11, eE12, eE13, eE14, eE15, eE16, eE17, eE18, eE19, eE20, eE21, eE22, eE23, eE24, eE25, eE26, eE27, eE28, eE29, eE30, eE31, eE32, eE33, eE34, eE35, eE36, eT1, eT2, eT3, eT4, eT5, eT6, eT7, eT8, eT9, eT10, eT11, eT12, eT13, eL1, eL2, eL3, eC1, eC2, eC3, eA1, eA2, eA3, eO1, eO2, eO3, eAV1, eAV2, eAV3, eOV1, eOV2, eOV3, out_ok, out_exc, thn_nx, thn_ret, thn_exc, thn_brk, thn_cnt, thn_ite, ok_bindN, exc_bindN, bad_bindN, pure_okN, getE0, getEs, putE, noBrw, am, noBrwM, bo, rt, mp, binD, cmpD, cmpI, addI, subI, negI, eqD_int, truthD, notR, absI, lenL, List.map_cons, List.map_nil, List.length_cons, List.length_nil, List.replicate, List.cons_append, List.nil_append, List.set, decide_true, decide_false, Bool.not_true, Bool.not_false, if_true, if_false, Bool.true_and, Bool.and_true, reduceIte, Bool.false_eq_true, decide_eq_true_eq, Nat.reduceSub, Nat.reduceAdd, Nat.reduceLT, Nat.zero_add, mpL_ints, boM, List.length_map, h', e]
theorem clC0 (ns : List Int) (k : Nat) : callD f2 [.lst .kon (ns.map Pv.D.int), .int k] = .ok (.int (ns.getD k 0)) := call_ok rfl (by
  show f2.m [.lst (shM .kon) (mpL shM (ns.map Pv.D.int)), .int k] = _
  rw [mpL_ints]
  exact evC0 ns k) (Bool.or_true _)
theorem ev0 (c : Int) (k : Nat) (hk : k < 100) : ∃ m, f0.m [.int c, .int k] = .ok (.int m) ∧ 0 ≤ m ∧ m < 62500001 := by
  have q1 : mulD (.int 39916801) (.int k) = .ok (.int (39916801 * k)) := mulS (by decide) (by omega)
  have kk : (0 : Int) ≤ (k : Int) * k ∧ (k : Int) * k < 10000 := by
    have h1 := Nat.mul_lt_mul'' hk hk
    have e : ((k * k : Nat) : Int) = (k : Int) * k := by push_cast; rfl
    omega
  have q2 : mulD (.int (39916801 * k)) (.int k) = .ok (.int (39916801 * k * k)) := mulS (by omega) (by omega)
  have e2 : (39916801 : Int) * k * k = 39916801 * ((k : Int) * k) := Int.mul_assoc _ _ _
  rw [e2] at q2
  generalize (k : Int) * k = kq at *
  have q3 : modD (.int c) (.int 1000003) = .ok (.int (c % 1000003)) := modI (by omega)
  have q4 : mulD (.int (c % 1000003 + 11)) (.int (716151937 + 39916801 * kq)) = .ok (.int ((c % 1000003 + 11) * (716151937 + 39916801 * kq))) := mulS (by omega) (by omega)
  generalize (c % 1000003 + 11) * (716151937 + 39916801 * kq) = x at *
  have q5 : modD (.int x) (.int 998244353) = .ok (.int (x % 998244353)) := modI (by omega)
  have q6 : mulD (.int (x % 998244353)) (.int (x % 998244353)) = .ok (.int (x % 998244353 * (x % 998244353))) := mulS (by omega) (by omega)
  have q7 : modD (.int (x % 998244353 * (x % 998244353))) (.int 1000000007) = .ok (.int (x % 998244353 * (x % 998244353) % 1000000007)) := modI (by omega)
  generalize x % 998244353 * (x % 998244353) = y at *
  have q8 : fdivD (.int (y % 1000000007)) (.int 16) = .ok (.int (y % 1000000007 / 16)) := fdivI (by omega) (by omega)
  refine ⟨y % 1000000007 / 16, ?_, by omega, by omega⟩
  simp only [f0, b0, b0s1, bodyD_eq, res_nx, res_ret, res_exc, res_ite, eS1, eS2, eS3, eS4, eS5, eS6, eS7, eS8, eS9, eS10, eS11, eS12, eS13, eS14, eS15, eS16, eS17, eS18, eS19, eS20, eS21, eS22, eS23, eS24, eS25, eS26, eE1, eE2, eE3, eE4, eE5, eE6, eE7, eE8, eE9, eE10, eE11, eE12, eE13, eE14, eE15, eE16, eE17, eE18, eE19, eE20, eE21, eE22, eE23, eE24, eE25, eE26, eE27, eE28, eE29, eE30, eE31, eE32, eE33, eE34, eE35, eE36, eT1, eT2, eT3, eT4, eT5, eT6, eT7, eT8, eT9, eT10, eT11, eT12, eT13, eL1, eL2, eL3, eC1, eC2, eC3, eA1, eA2, eA3, eO1, eO2, eO3, eAV1, eAV2, eAV3, eOV1, eOV2, eOV3, out_ok, out_exc, thn_nx, thn_ret, thn_exc, thn_brk, thn_cnt, thn_ite, ok_bindN, exc_bindN, bad_bindN, pure_okN, getE0, getEs, putE, noBrw, am, noBrwM, bo, rt, mp, binD, cmpD, cmpI, addI, subI, negI, eqD_int, truthD, notR, absI, lenL, List.map_cons, List.map_nil, List.length_cons, List.length_nil, List.replicate, List.cons_append, List.nil_append, List.set, decide_true, decide_false, Bool.not_true, Bool.not_false, if_true, if_false, Bool.true_and, Bool.and_true, reduceIte, Bool.false_eq_true, decide_eq_true_eq, Nat.reduceSub, Nat.reduceAdd, Nat.reduceLT, Nat.zero_add, q1, q2, q3, q4, q5, q6, q7, q8]
theorem cl0 (c : Int) (k : Nat) (hk : k < 100) : ∃ m, callD f0 [.int c, .int k] = .ok (.int m) ∧ 0 ≤ m ∧ m < 62500001 := by
  obtain ⟨m, h1, h2⟩ := ev0 c k hk
  exact ⟨m, call_ok rfl h1 rfl, h2⟩
/-! names -/
def FreeO : Option Pv.D → Bool
  | some d => noOwn d
  | none => true
def nmS (z : Str) : Prop := nameS z = true ∧ 1 ≤ z.length
def E1 (c : Int) (m : Nat) (bs : List Int) (k : Option Pv.D) (sz a : Int) (l : List Str) (nm j : Option Pv.D) : Pv.Env := [some (.int c), some (.int m), some (.str letters), some (.lst .own (bs.map Pv.D.int)), k, some (.int sz), some (.int a), some (.lst .own (l.map Pv.D.str)), nm, j]
section
variable (c : Int) (m : Nat) (bs : List Int) (hb : bs.length = 8) (h26 : ∀ x ∈ bs, 0 ≤ x ∧ x < 26) (a : Int) (sz : Nat) (hs : sz ≤ 8) (h1 : 1 ≤ sz)
include hb h26 hs h1
theorem base_ix (j : Nat) (hj : j < 8) : ∃ x : Int, ixD (.lst .brw (bs.map Pv.D.int)) (.int j) = .ok (.int x) ∧ 0 ≤ x ∧ x < 26 := by
  have hj' : j < bs.length := by omega
  refine ⟨bs[j], ?_, h26 _ (List.getElem_mem hj')⟩
  rw [ixL .brw (d := .int bs[j]) (by rw [List.getElem?_map, List.getElem?_eq_getElem hj']; rfl)]
  rfl
theorem turn1a (k j : Nat) (hk : k < 8) (hj : j < sz) (l : List Str) (nm : Str) (hn : goodS nm = true) (hl : nm.length = j) : ∃ nm' : Str, goodS nm' = true ∧ nm'.length = j + 1 ∧ evS T1 b1w0 (E1 c m bs (some (.int k)) sz a l (some (.str nm)) (some (.int j))) = .nx (E1 c m bs (some (.int k)) sz a l (some (.str nm')) (some (.int j))) := by
  obtain ⟨x, e1, e2, e3⟩ := base_ix bs hb h26 sz hs h1 j (by omega)
  have bi : ∀ b : Bool, bltD .int [.bl b] = .ok (.int (if b then 1 else 0)) := fun b => rfl
  have mu : mulD (.int k) (.int (if decide ((j : Int) = a) = true then 1 else 0)) = .ok (.int (k * (if decide ((j : Int) = a) = true then 1 else 0))) := mulS (by omega) (by split <;> decide)
  have m26 : ∀ y : Int, modD (.int y) (.int 26) = .ok (.int (y % 26)) := fun y => modI (by omega)
  obtain ⟨ch, e4, e5⟩ := let_atG ((x + k * (if decide ((j : Int) = a) = true then 1 else 0)) % 26) (by omega) (by omega)
  have ad : addD (.str nm) (.str ⟨#[ch]⟩) = .ok (.str (nm ++ ⟨#[ch]⟩)) := addStr _ _ (by rw [hl, show (⟨#[ch]⟩ : Str).length = 1 from rfl]; omega)
  refine ⟨nm ++ ⟨#[ch]⟩, good_app _ _ hn e5, by rw [len_app, hl]; rfl, ?_⟩
  unfold b1w0
  rw [seq_nop, asg_eq (d := .str (nm ++ ⟨#[ch]⟩)) ?_ rfl (by unfold E1; simp)]
  · rfl
  · simp only [E1, bodyD_eq, res_nx, res_ret, res_exc, res_ite, eS1, eS2, eS3, eS4, eS5, eS6, eS7, eS8, eS9, eS10, eS11, eS12, eS13, eS14, eS15, eS16, eS17, eS18, eS19, eS20, eS21, eS22, eS23, eS24, eS25, eS26, eE1, eE2, eE3, eE4, eE5, eE6, eE7, eE8, eE9, eE10, eE11, eE12, eE13, eE14, eE15, eE16, eE17, eE18, eE19, eE20, eE21, eE22, eE23, eE24, eE25, eE26, eE27, eE28, eE29, eE30, eE31, eE32, eE33, eE34, eE35, eE36, eT1, eT2, eT3, eT4, eT5, eT6, eT7, eT8, eT9, eT10, eT11, eT12, eT13, eL1, eL2, eL3, eC1, eC2, eC3, eA1, eA2, eA3, eO1, eO2, eO3, eAV1, eAV2, eAV3, eOV1, eOV2, eOV3, out_ok, out_exc, thn_nx, thn_ret, thn_exc, thn_brk, thn_cnt, thn_ite, ok_bindN, exc_bindN, bad_bindN, pure_okN, getE0, getEs, putE, noBrw, am, noBrwM, bo, rt, mp, binD, cmpD, cmpI, addI, subI, negI, eqD_int, truthD, notR, absI, lenL, List.map_cons, List.map_nil, List.length_cons, List.length_nil, List.replicate, List.cons_append, List.nil_append, List.set, decide_true, decide_false, Bool.not_true, Bool.not_false, if_true, if_false, Bool.true_and, Bool.and_true, reduceIte, Bool.false_eq_true, Nat.reduceSub, Nat.reduceAdd, Nat.reduceLT, Nat.zero_add, mpL_ints, boM, e1, bi, mu, m26, e4, ad]
theorem turn1 (k : Nat) (hk : k < 8) (l : List Str) (hl : l.length ≤ 100) (nm j : Option Pv.D) : ∃ (z : Str) (nm' j' : Option Pv.D), nmS z ∧ evS T1 b1w1 (E1 c m bs (some (.int k)) sz a l nm j) = .nx (E1 c m bs (some (.int k)) sz a (l ++ [z]) nm' j') := by
  have q := loopD_inv (f := evS T1 b1w0) (t := fun e x => tgE e [9] x) (fun i env => ∃ (nm : Str) (j : Option Pv.D), env = E1 c m bs (some (.int k)) sz a l (some (.str nm)) j ∧ goodS nm = true ∧ nm.length = i ∧ (i ≠ 0 → ∃ q : Int, j = some (.int q))) (rngD sz) 0 (E1 c m bs (some (.int k)) sz a l (some (.str "")) j) ⟨"", j, rfl, by decide +kernel, rfl, fun z => absurd rfl z⟩ (by
    rintro i d env hd ⟨nm, j, rfl, g1, g2, _⟩
    obtain ⟨hi, rfl⟩ := rngD_at hd
    rw [Nat.zero_add] at g2
    obtain ⟨nm', s1, s2, s3⟩ := turn1a c m bs hb h26 a sz hs h1 k i hk hi l nm g1 g2
    exact ⟨E1 c m bs (some (.int k)) sz a l (some (.str nm)) (some (.int i)), _, tgE1 _ _ _ rfl (by unfold E1; simp), .inl s3, nm', some (.int i), rfl, s1, by omega, fun _ => ⟨_, rfl⟩⟩)
  obtain ⟨_, e1, nm1, j1, rfl, g1, g2, g3⟩ := q
  rw [rngD_length, Nat.zero_add] at g2 g3
  obtain ⟨qj, rfl⟩ := g3 (by omega)
  have fo := forR_eq T1 9 (.var 5) b1w0 (E1 c m bs (some (.int k)) sz a l (some (.str "")) j) (sz : Int) (by simp only [E1, bodyD_eq, res_nx, res_ret, res_exc, res_ite, eS1, eS2, eS3, eS4, eS5, eS6, eS7, eS8, eS9, eS10, eS11, eS12, eS13, eS14, eS15, eS16, eS17, eS18, eS19, eS20, eS21, eS22, eS23, eS24, eS25, eS26, eE1, eE2, eE3, eE4, eE5, eE6, eE7, eE8, eE9, eE10, eE11, eE12, eE13, eE14, eE15, eE16, eE17, eE18, eE19, eE20, eE21, eE22, eE23, eE24, eE25, eE26, eE27, eE28, eE29, eE30, eE31, eE32, eE33, eE34, eE35, eE36, eT1, eT2, eT3, eT4, eT5, eT6, eT7, eT8, eT9, eT10, eT11, eT12, eT13, eL1, eL2, eL3, eC1, eC2, eC3, eA1, eA2, eA3, eO1, eO2, eO3, eAV1, eAV2, eAV3, eOV1, eOV2, eOV3, out_ok, out_exc, thn_nx, thn_ret, thn_exc, thn_brk, thn_cnt, thn_ite, ok_bindN, exc_bindN, bad_bindN, pure_okN, getE0, getEs, putE, noBrw, am, noBrwM, bo, rt, mp, binD, cmpD, cmpI, addI, subI, negI, eqD_int, truthD, notR, absI, lenL, List.map_cons, List.map_nil, List.length_cons, List.length_nil, List.replicate, List.cons_append, List.nil_append, List.set, decide_true, decide_false, Bool.not_true, Bool.not_false, if_true, if_false, Bool.true_and, Bool.and_true, reduceIte, Bool.false_eq_true, decide_eq_true_eq, Nat.reduceSub, Nat.reduceAdd, Nat.reduceLT, Nat.zero_add]) (by omega)
  rw [e1] at fo
  have a1 : evS T1 (.asg 8 (.str "")) (E1 c m bs (some (.int k)) sz a l nm j) = .nx (E1 c m bs (some (.int k)) sz a l (some (.str "")) j) := by
    rw [asg_eq (d := .str "") (by rw [evE]) rfl (by unfold E1; simp)]
    rfl
  have m3 : modD (.int c) (.int 3) = .ok (.int (c % 3)) := modI (by omega)
  have lo : lineOk (l.map Pv.D.str).length = true := by rw [List.length_map]; exact lineOk_le (by omega)
  have fin : ∀ z : Str, evS T1 (.app 7 (.var 8)) (E1 c m bs (some (.int k)) sz a l (some (.str z)) (some (.int qj))) = .nx (E1 c m bs (some (.int k)) sz a (l ++ [z]) (some (.str z)) (some (.int qj))) := fun z => by
    rw [app_eq (l := l.map Pv.D.str) (d := .str z) rfl (by simp only [E1, bodyD_eq, res_nx, res_ret, res_exc, res_ite, eS1, eS2, eS3, eS4, eS5, eS6, eS7, eS8, eS9, eS10, eS11, eS12, eS13, eS14, eS15, eS16, eS17, eS18, eS19, eS20, eS21, eS22, eS23, eS24, eS25, eS26, eE1, eE2, eE3, eE4, eE5, eE6, eE7, eE8, eE9, eE10, eE11, eE12, eE13, eE14, eE15, eE16, eE17, eE18, eE19, eE20, eE21, eE22, eE23, eE24, eE25, eE26, eE27, eE28, eE29, eE30, eE31, eE32, eE33, eE34, eE35, eE36, eT1, eT2, eT3, eT4, eT5, eT6, eT7, eT8, eT9, eT10, eT11, eT12, eT13, eL1, eL2, eL3, eC1, eC2, eC3, eA1, eA2, eA3, eO1, eO2, eO3, eAV1, eAV2, eAV3, eOV1, eOV2, eOV3, out_ok, out_exc, thn_nx, thn_ret, thn_exc, thn_brk, thn_cnt, thn_ite, ok_bindN, exc_bindN, bad_bindN, pure_okN, getE0, getEs, putE, noBrw, am, noBrwM, bo, rt, mp, binD, cmpD, cmpI, addI, subI, negI, eqD_int, truthD, notR, absI, lenL, List.map_cons, List.map_nil, List.length_cons, List.length_nil, List.replicate, List.cons_append, List.nil_append, List.set, decide_true, decide_false, Bool.not_true, Bool.not_false, if_true, if_false, Bool.true_and, Bool.and_true, reduceIte, Bool.false_eq_true, decide_eq_true_eq, Nat.reduceSub, Nat.reduceAdd, Nat.reduceLT, Nat.zero_add]) rfl lo]
    unfold E1
    rw [List.map_append]
    rfl
  unfold b1w1
  rw [seq_nx a1, seq_nx fo]
  by_cases h : c % 3 = 0
  · obtain ⟨ys, j1, j2, j3⟩ := lcr_strsG (T := T1) (j := 9) (src := .bin .Add (.var 4) (.int 1)) (e := .ix (.var 2) (.ix (.var 3) (.var 9))) (env := E1 c m bs (some (.int k)) sz a l (some (.str nm1)) (some (.int qj))) (n := k + 1)
      (by simp only [E1, bodyD_eq, res_nx, res_ret, res_exc, res_ite, eS1, eS2, eS3, eS4, eS5, eS6, eS7, eS8, eS9, eS10, eS11, eS12, eS13, eS14, eS15, eS16, eS17, eS18, eS19, eS20, eS21, eS22, eS23, eS24, eS25, eS26, eE1, eE2, eE3, eE4, eE5, eE6, eE7, eE8, eE9, eE10, eE11, eE12, eE13, eE14, eE15, eE16, eE17, eE18, eE19, eE20, eE21, eE22, eE23, eE24, eE25, eE26, eE27, eE28, eE29, eE30, eE31, eE32, eE33, eE34, eE35, eE36, eT1, eT2, eT3, eT4, eT5, eT6, eT7, eT8, eT9, eT10, eT11, eT12, eT13, eL1, eL2, eL3, eC1, eC2, eC3, eA1, eA2, eA3, eO1, eO2, eO3, eAV1, eAV2, eAV3, eOV1, eOV2, eOV3, out_ok, out_exc, thn_nx, thn_ret, thn_exc, thn_brk, thn_cnt, thn_ite, ok_bindN, exc_bindN, bad_bindN, pure_okN, getE0, getEs, putE, noBrw, am, noBrwM, bo, rt, mp, binD, cmpD, cmpI, addI, subI, negI, eqD_int, truthD, notR, absI, lenL, List.map_cons, List.map_nil, List.length_cons, List.length_nil, List.replicate, List.cons_append, List.nil_append, List.set, decide_true, decide_false, Bool.not_true, Bool.not_false, if_true, if_false, Bool.true_and, Bool.and_true, reduceIte, Bool.false_eq_true, decide_eq_true_eq, Nat.reduceSub, Nat.reduceAdd, Nat.reduceLT, Nat.zero_add]; rfl) (fun i hi => by
        obtain ⟨x, e1, e2, e3⟩ := base_ix bs hb h26 sz hs h1 i (by omega)
        obtain ⟨ch, e4, e5⟩ := let_atG x e2 e3
        refine ⟨⟨#[ch]⟩, ?_, rfl, e5⟩
        simp only [E1, bodyD_eq, res_nx, res_ret, res_exc, res_ite, eS1, eS2, eS3, eS4, eS5, eS6, eS7, eS8, eS9, eS10, eS11, eS12, eS13, eS14, eS15, eS16, eS17, eS18, eS19, eS20, eS21, eS22, eS23, eS24, eS25, eS26, eE1, eE2, eE3, eE4, eE5, eE6, eE7, eE8, eE9, eE10, eE11, eE12, eE13, eE14, eE15, eE16, eE17, eE18, eE19, eE20, eE21, eE22, eE23, eE24, eE25, eE26, eE27, eE28, eE29, eE30, eE31, eE32, eE33, eE34, eE35, eE36, eT1, eT2, eT3, eT4, eT5, eT6, eT7, eT8, eT9, eT10, eT11, eT12, eT13, eL1, eL2, eL3, eC1, eC2, eC3, eA1, eA2, eA3, eO1, eO2, eO3, eAV1, eAV2, eAV3, eOV1, eOV2, eOV3, out_ok, out_exc, thn_nx, thn_ret, thn_exc, thn_brk, thn_cnt, thn_ite, ok_bindN, exc_bindN, bad_bindN, pure_okN, getE0, getEs, putE, noBrw, am, noBrwM, bo, rt, mp, binD, cmpD, cmpI, addI, subI, negI, eqD_int, truthD, notR, absI, lenL, List.map_cons, List.map_nil, List.length_cons, List.length_nil, List.replicate, List.cons_append, List.nil_append, List.set, decide_true, decide_false, Bool.not_true, Bool.not_false, if_true, if_false, Bool.true_and, Bool.and_true, reduceIte, Bool.false_eq_true, decide_eq_true_eq, Nat.reduceSub, Nat.reduceAdd, Nat.reduceLT, Nat.zero_add, mpL_ints, boM, e1, e4]) (by omega) rfl
    have jo := joinL "" .own ys (by
      rw [sum_ones ys fun y hy => (j3 y hy).1]
      show ys.length + ys.length * 0 ≤ _
      omega)
    have gz : goodS (Str.join "" ys) = true := good_join "" (by decide +kernel) ys fun y hy => (j3 y hy).2
    have lz : (Str.join "" ys).length = k + 1 := by rw [len_join ys fun y hy => (j3 y hy).1, j2]
    have e2 : evE T1 (.join "" (.lcr 9 (.bin .Add (.var 4) (.int 1)) .nil (.ix (.var 2) (.ix (.var 3) (.var 9))))) (E1 c m bs (some (.int k)) sz a l (some (.str nm1)) (some (.int qj))) = .ok (.str (Str.join "" ys)) := by
      rw [evE, j1, ok_bind, jo, TL.join_eq]
    have a2 : evS T1 (.ife (.cmp .Eq (.bin .Mod (.var 0) (.int 3)) (.int 0)) (.seq (.asg 8 (.join "" (.lcr 9 (.bin .Add (.var 4) (.int 1)) .nil (.ix (.var 2) (.ix (.var 3) (.var 9)))))) .nop) .nop) (E1 c m bs (some (.int k)) sz a l (some (.str nm1)) (some (.int qj))) = .nx (E1 c m bs (some (.int k)) sz a l (some (.str (Str.join "" ys))) (some (.int qj))) := by
      rw [ife_t (by simp only [E1, bodyD_eq, res_nx, res_ret, res_exc, res_ite, eS1, eS2, eS3, eS4, eS5, eS6, eS7, eS8, eS9, eS10, eS11, eS12, eS13, eS14, eS15, eS16, eS17, eS18, eS19, eS20, eS21, eS22, eS23, eS24, eS25, eS26, eE1, eE2, eE3, eE4, eE5, eE6, eE7, eE8, eE9, eE10, eE11, eE12, eE13, eE14, eE15, eE16, eE17, eE18, eE19, eE20, eE21, eE22, eE23, eE24, eE25, eE26, eE27, eE28, eE29, eE30, eE31, eE32, eE33, eE34, eE35, eE36, eT1, eT2, eT3, eT4, eT5, eT6, eT7, eT8, eT9, eT10, eT11, eT12, eT13, eL1, eL2, eL3, eC1, eC2, eC3, eA1, eA2, eA3, eO1, eO2, eO3, eAV1, eAV2, eAV3, eOV1, eOV2, eOV3, out_ok, out_exc, thn_nx, thn_ret, thn_exc, thn_brk, thn_cnt, thn_ite, ok_bindN, exc_bindN, bad_bindN, pure_okN, getE0, getEs, putE, noBrw, am, noBrwM, bo, rt, mp, binD, cmpD, cmpI, addI, subI, negI, eqD_int, truthD, notR, absI, lenL, List.map_cons, List.map_nil, List.length_cons, List.length_nil, List.replicate, List.cons_append, List.nil_append, List.set, decide_true, decide_false, Bool.not_true, Bool.not_false, if_true, if_false, Bool.true_and, Bool.and_true, reduceIte, Bool.false_eq_true, Nat.reduceSub, Nat.reduceAdd, Nat.reduceLT, Nat.zero_add, m3, h]), seq_nop, asg_eq e2 rfl (by unfold E1; simp)]
      rfl
    refine ⟨Str.join "" ys, _, _, ⟨?_, by omega⟩, by rw [seq_nx a2, seq_nop]; exact fin _⟩
    unfold nameS
    rw [gz, Bool.true_and, decide_eq_true_eq]
    omega
  · have a2 : evS T1 (.ife (.cmp .Eq (.bin .Mod (.var 0) (.int 3)) (.int 0)) (.seq (.asg 8 (.join "" (.lcr 9 (.bin .Add (.var 4) (.int 1)) .nil (.ix (.var 2) (.ix (.var 3) (.var 9)))))) .nop) .nop) (E1 c m bs (some (.int k)) sz a l (some (.str nm1)) (some (.int qj))) = .nx (E1 c m bs (some (.int k)) sz a l (some (.str nm1)) (some (.int qj))) := by
      rw [ife_f (by simp only [E1, bodyD_eq, res_nx, res_ret, res_exc, res_ite, eS1, eS2, eS3, eS4, eS5, eS6, eS7, eS8, eS9, eS10, eS11, eS12, eS13, eS14, eS15, eS16, eS17, eS18, eS19, eS20, eS21, eS22, eS23, eS24, eS25, eS26, eE1, eE2, eE3, eE4, eE5, eE6, eE7, eE8, eE9, eE10, eE11, eE12, eE13, eE14, eE15, eE16, eE17, eE18, eE19, eE20, eE21, eE22, eE23, eE24, eE25, eE26, eE27, eE28, eE29, eE30, eE31, eE32, eE33, eE34, eE35, eE36, eT1, eT2, eT3, eT4, eT5, eT6, eT7, eT8, eT9, eT10, eT11, eT12, eT13, eL1, eL2, eL3, eC1, eC2, eC3, eA1, eA2, eA3, eO1, eO2, eO3, eAV1, eAV2, eAV3, eOV1, eOV2, eOV3, out_ok, out_exc, thn_nx, thn_ret, thn_exc, thn_brk, thn_cnt, thn_ite, ok_bindN, exc_bindN, bad_bindN, pure_okN, getE0, getEs, putE, noBrw, am, noBrwM, bo, rt, mp, binD, cmpD, cmpI, addI, subI, negI, eqD_int, truthD, notR, absI, lenL, List.map_cons, List.map_nil, List.length_cons, List.length_nil, List.replicate, List.cons_append, List.nil_append, List.set, decide_true, decide_false, Bool.not_true, Bool.not_false, if_true, if_false, Bool.true_and, Bool.and_true, reduceIte, Bool.false_eq_true, Nat.reduceSub, Nat.reduceAdd, Nat.reduceLT, Nat.zero_add, m3, h]), nop_eq]
    refine ⟨nm1, _, _, ⟨?_, by omega⟩, by rw [seq_nx a2, seq_nop]; exact fin _⟩
    unfold nameS
    rw [g1, Bool.true_and, decide_eq_true_eq]
    omega
theorem loop1 (hm : m ≤ 8) : ∃ (l : List Str) (k nm j : Option Pv.D), loopD (evS T1 b1w1) (fun e x => tgE e [4] x) (rngD m) (E1 c m bs none sz a [] none none) = .nx (E1 c m bs k sz a l nm j) ∧ l.length = m ∧ ∀ z ∈ l, nmS z := by
  have q := loopD_inv (f := evS T1 b1w1) (t := fun e x => tgE e [4] x) (fun i env => ∃ (l : List Str) (k nm j : Option Pv.D), env = E1 c m bs k sz a l nm j ∧ l.length = i ∧ ∀ z ∈ l, nmS z) (rngD m) 0 _ ⟨[], none, none, none, rfl, rfl, fun _ z => (List.not_mem_nil z).elim⟩ (by
    rintro i d env hd ⟨l, k, nm, j, rfl, g1, g2⟩
    obtain ⟨hi, rfl⟩ := rngD_at hd
    rw [Nat.zero_add] at g1
    obtain ⟨z, nm', j', s1, s2⟩ := turn1 c m bs hb h26 a sz hs h1 i (by omega) l (by omega) nm j
    refine ⟨E1 c m bs (some (.int i)) sz a l nm j, _, tgE1 _ _ _ rfl (by unfold E1; simp), .inl s2, l ++ [z], some (.int i), nm', j', rfl, by rw [List.length_append, List.length_singleton]; omega, fun y hy => ?_⟩
    rcases List.mem_append.mp hy with hy | hy
    · exact g2 y hy
    · rw [List.mem_singleton.mp hy]
      exact s1)
  obtain ⟨_, e1, l, k, nm, j, rfl, g1, g2⟩ := q
  rw [rngD_length, Nat.zero_add] at g1
  exact ⟨l, k, nm, j, e1, g1, g2⟩
end
theorem mpL_strs (f : Md → Md) : ∀ l : List Str, mpL f (l.map Pv.D.str) = l.map Pv.D.str
  | [] => rfl
  | z :: l => by
    show Pv.D.str z :: mpL f (l.map Pv.D.str) = _
    rw [mpL_strs f l]
    rfl
theorem amL_strs (f : Md → Bool) : ∀ l : List Str, amL f (l.map Pv.D.str) = true
  | [] => rfl
  | z :: l => by
    show (true && amL f (l.map Pv.D.str)) = true
    rw [amL_strs f l]
    rfl
theorem ev1 (c : Int) (m : Nat) (hm : m ≤ 8) : ∃ l : List Str, f1.m [.int c, .int m] = .ok (.lst .own (l.map Pv.D.str)) ∧ l.length = m ∧ ∀ z ∈ l, nmS z := by
  have q3 : fdivD (.int c) (.int 3) = .ok (.int (c / 3)) := fdivI (by omega) (by omega)
  have q8 : modD (.int (c / 3)) (.int 8) = .ok (.int (c / 3 % 8)) := modI (by omega)
  have q24 : fdivD (.int c) (.int 24) = .ok (.int (c / 24)) := fdivI (by omega) (by omega)
  obtain ⟨sz, hsz⟩ := Int.eq_ofNat_of_zero_le (show 0 ≤ 1 + c / 3 % 8 by omega)
  have qs : modD (.int (c / 24)) (.int sz) = .ok (.int (c / 24 % sz)) := modI (by omega)
  have hm' : ∀ i : Nat, ∃ v : Int, i < 8 → callD f0 [.int c, .int i] = .ok (.int v) := fun i => by
    by_cases h : i < 8
    · obtain ⟨v, hv, _⟩ := cl0 c i (by omega)
      exact ⟨v, fun _ => hv⟩
    · exact ⟨0, fun z => absurd z h⟩
  have m26 : ∀ y : Int, modD (.int y) (.int 26) = .ok (.int (y % 26)) := fun y => modI (by omega)
  have ba := lcr_eq (T := T1) (j := 4) (src := .int 8) (e := .bin .Mod (.call 0 (.cons (.var 0) (.cons (.var 4) .nil))) (.int 26)) (env := [some (.int c), some (.int m), some (.str letters), none, none, none, none, none, none, none]) (n := 8) (fun i => .int (Classical.choose (hm' i) % 26)) (by rw [evE]; rfl) (fun i hi => by
    have e := Classical.choose_spec (hm' i) hi
    generalize Classical.choose (hm' i) = v at e ⊢
    simp only [u1_0, bodyD_eq, res_nx, res_ret, res_exc, res_ite, eS1, eS2, eS3, eS4, eS5, eS6, eS7, eS8, eS9, eS10, eS11, eS12, eS13, eS14, eS15, eS16, eS17, eS18, eS19, eS20, eS21, eS22, eS23, eS24, eS25, eS26, eE1, eE2, eE3, eE4, eE5, eE6, eE7, eE8, eE9, eE10, eE11, eE12, eE13, eE14, eE15, eE16, eE17, eE18, eE19, eE20, eE21, eE22, eE23, eE24, eE25, eE26, eE27, eE28, eE29, eE30, eE31, eE32, eE33, eE34, eE35, eE36, eT1, eT2, eT3, eT4, eT5, eT6, eT7, eT8, eT9, eT10, eT11, eT12, eT13, eL1, eL2, eL3, eC1, eC2, eC3, eA1, eA2, eA3, eO1, eO2, eO3, eAV1, eAV2, eAV3, eOV1, eOV2, eOV3, out_ok, out_exc, thn_nx, thn_ret, thn_exc, thn_brk, thn_cnt, thn_ite, ok_bindN, exc_bindN, bad_bindN, pure_okN, getE0, getEs, putE, noBrw, am, noBrwM, bo, rt, mp, binD, cmpD, cmpI, addI, subI, negI, eqD_int, truthD, notR, absI, lenL, List.map_cons, List.map_nil, List.length_cons, List.length_nil, List.replicate, List.cons_append, List.nil_append, List.set, decide_true, decide_false, Bool.not_true, Bool.not_false, if_true, if_false, Bool.true_and, Bool.and_true, reduceIte, Bool.false_eq_true, decide_eq_true_eq, Nat.reduceSub, Nat.reduceAdd, Nat.reduceLT, Nat.zero_add, e, m26]) (by omega) rfl
  generalize hbs : (List.range 8).map (fun i => Classical.choose (hm' i) % 26) = bs
  have hb8 : bs.length = 8 := by rw [← hbs, List.length_map, List.length_range]
  have h26 : ∀ x ∈ bs, 0 ≤ x ∧ x < 26 := fun x hx => by
    rw [← hbs] at hx
    obtain ⟨i, _, rfl⟩ := List.mem_map.mp hx
    omega
  have ba' : evE T1 (.lcr 4 (.int 8) .nil (.bin .Mod (.call 0 (.cons (.var 0) (.cons (.var 4) .nil))) (.int 26))) [some (.int c), some (.int m), some (.str letters), none, none, none, none, none, none, none] = .ok (.lst .own (bs.map Pv.D.int)) := by
    rw [ba, ← hbs, List.map_map]
    rfl
  obtain ⟨l, k, nm, j, l1, l2, l3⟩ := loop1 c m bs hb8 h26 (c / 24 % sz) sz (by omega) (by omega) hm
  have fo := forR_eq T1 4 (.var 1) b1w1 (E1 c m bs none sz (c / 24 % sz) [] none none) m rfl (by omega)
  rw [l1] at fo
  refine ⟨l, ?_, l2, l3⟩
  simp only [f1, bodyD_eq, List.map_cons, List.map_nil, List.length_cons, List.length_nil, Nat.reduceSub, Nat.reduceAdd, List.replicate, List.cons_append, List.nil_append]
  simp only [b1, bodyD_eq, res_nx, res_ret, res_exc, res_ite, eS1, eS2, eS3, eS4, eS5, eS6, eS7, eS8, eS9, eS10, eS11, eS12, eS13, eS14, eS15, eS16, eS17, eS18, eS19, eS20, eS21, eS22, eS23, eS24, eS25, eS26, eE1, eE2, eE3, eE4, eE5, eE6, eE7, eE8, eE9, eE10, eE11, eE12, eE13, eE14, eE15, eE16, eE17, eE18, eE19, eE20, eE21, eE22, eE23, eE24, eE25, eE26, eE27, eE28, eE29, eE30, eE31, eE32, eE33, eE34, eE35, eE36, eT1, eT2, eT3, eT4, eT5, eT6, eT7, eT8, eT9, eT10, eT11, eT12, eT13, eL1, eL2, eL3, eC1, eC2, eC3, eA1, eA2, eA3, eO1, eO2, eO3, eAV1, eAV2, eAV3, eOV1, eOV2, eOV3, out_ok, out_exc, thn_nx, thn_ret, thn_exc, thn_brk, thn_cnt, thn_ite, ok_bindN, exc_bindN, bad_bindN, pure_okN, getE0, getEs, putE, noBrw, am, noBrwM, bo, rt, mp, binD, cmpD, cmpI, addI, subI, negI, eqD_int, truthD, notR, absI, lenL, List.map_cons, List.map_nil, List.length_cons, List.length_nil, List.replicate, List.cons_append, List.nil_append, List.set, decide_true, decide_false, Bool.not_true, Bool.not_false, if_true, if_false, Bool.true_and, Bool.and_true, reduceIte, Bool.false_eq_true, decide_eq_true_eq, Nat.reduceSub, Nat.reduceAdd, Nat.reduceLT, Nat.zero_add]
  rw [b1s1, seq_nx (asg_eq ba' (by
    show (true && amL noBrwM _) = true
    rw [amL_ints]
    rfl) (by simp))]
  simp only [List.set]
  simp only [b1s2, bodyD_eq, res_nx, res_ret, res_exc, res_ite, eS1, eS2, eS3, eS4, eS5, eS6, eS7, eS8, eS9, eS10, eS11, eS12, eS13, eS14, eS15, eS16, eS17, eS18, eS19, eS20, eS21, eS22, eS23, eS24, eS25, eS26, eE1, eE2, eE3, eE4, eE5, eE6, eE7, eE8, eE9, eE10, eE11, eE12, eE13, eE14, eE15, eE16, eE17, eE18, eE19, eE20, eE21, eE22, eE23, eE24, eE25, eE26, eE27, eE28, eE29, eE30, eE31, eE32, eE33, eE34, eE35, eE36, eT1, eT2, eT3, eT4, eT5, eT6, eT7, eT8, eT9, eT10, eT11, eT12, eT13, eL1, eL2, eL3, eC1, eC2, eC3, eA1, eA2, eA3, eO1, eO2, eO3, eAV1, eAV2, eAV3, eOV1, eOV2, eOV3, out_ok, out_exc, thn_nx, thn_ret, thn_exc, thn_brk, thn_cnt, thn_ite, ok_bindN, exc_bindN, bad_bindN, pure_okN, getE0, getEs, putE, noBrw, am, noBrwM, bo, rt, mp, binD, cmpD, cmpI, addI, subI, negI, eqD_int, truthD, notR, absI, lenL, List.map_cons, List.map_nil, List.length_cons, List.length_nil, List.replicate, List.cons_append, List.nil_append, List.set, decide_true, decide_false, Bool.not_true, Bool.not_false, if_true, if_false, Bool.true_and, Bool.and_true, reduceIte, Bool.false_eq_true, decide_eq_true_eq, Nat.reduceSub, Nat.reduceAdd, Nat.reduceLT, Nat.zero_add, q3, q8, hsz, Int.ofNat_eq_natCast]
  simp only [b1s3, bodyD_eq, res_nx, res_ret, res_exc, res_ite, eS1, eS2, eS3, eS4, eS5, eS6, eS7, eS8, eS9, eS10, eS11, eS12, eS13, eS14, eS15, eS16, eS17, eS18, eS19, eS20, eS21, eS22, eS23, eS24, eS25, eS26, eE1, eE2, eE3, eE4, eE5, eE6, eE7, eE8, eE9, eE10, eE11, eE12, eE13, eE14, eE15, eE16, eE17, eE18, eE19, eE20, eE21, eE22, eE23, eE24, eE25, eE26, eE27, eE28, eE29, eE30, eE31, eE32, eE33, eE34, eE35, eE36, eT1, eT2, eT3, eT4, eT5, eT6, eT7, eT8, eT9, eT10, eT11, eT12, eT13, eL1, eL2, eL3, eC1, eC2, eC3, eA1, eA2, eA3, eO1, eO2, eO3, eAV1, eAV2, eAV3, eOV1, eOV2, eOV3, out_ok, out_exc, thn_nx, thn_ret, thn_exc, thn_brk, thn_cnt, thn_ite, ok_bindN, exc_bindN, bad_bindN, pure_okN, getE0, getEs, putE, noBrw, am, noBrwM, bo, rt, mp, binD, cmpD, cmpI, addI, subI, negI, eqD_int, truthD, notR, absI, lenL, List.map_cons, List.map_nil, List.length_cons, List.length_nil, List.replicate, List.cons_append, List.nil_append, List.set, decide_true, decide_false, Bool.not_true, Bool.not_false, if_true, if_false, Bool.true_and, Bool.and_true, reduceIte, Bool.false_eq_true, decide_eq_true_eq, Nat.reduceSub, Nat.reduceAdd, Nat.reduceLT, Nat.zero_add, q24, qs]
  simp only [b1s4, bodyD_eq, res_nx, res_ret, res_exc, res_ite, eS1, eS2, eS3, eS4, eS5, eS6, eS7, eS8, eS9, eS10, eS11, eS12, eS13, eS14, eS15, eS16, eS17, eS18, eS19, eS20, eS21, eS22, eS23, eS24, eS25, eS26, eE1, eE2, eE3, eE4, eE5, eE6, eE7, eE8, eE9, eE10, eE11, eE12, eE13, eE14, eE15, eE16, eE17, eE18, eE19, eE20, eE21, eE22, eE23, eE24, eE25, eE26, eE27, eE28, eE29, eE30, eE31, eE32, eE33, eE34, eE35, eE36, eT1, eT2, eT3, eT4, eT5, eT6, eT7, eT8, eT9, eT10, eT11, eT12, eT13, eL1, eL2, eL3, eC1, eC2, eC3, eA1, eA2, eA3, eO1, eO2, eO3, eAV1, eAV2, eAV3, eOV1, eOV2, eOV3, out_ok, out_exc, thn_nx, thn_ret, thn_exc, thn_brk, thn_cnt, thn_ite, ok_bindN, exc_bindN, bad_bindN, pure_okN, getE0, getEs, putE, noBrw, am, noBrwM, bo, rt, mp, binD, cmpD, cmpI, addI, subI, negI, eqD_int, truthD, notR, absI, lenL, List.map_cons, List.map_nil, List.length_cons, List.length_nil, List.replicate, List.cons_append, List.nil_append, List.set, decide_true, decide_false, Bool.not_true, Bool.not_false, if_true, if_false, Bool.true_and, Bool.and_true, reduceIte, Bool.false_eq_true, decide_eq_true_eq, Nat.reduceSub, Nat.reduceAdd, Nat.reduceLT, Nat.zero_add, mpL, amL, lo0]
  rw [b1s5, show ([some (.int c), some (.int m), some (.str letters), some (.lst .own (bs.map Pv.D.int)), none, some (.int (sz : Int)), some (.int (c / 24 % sz)), some (.lst .own []), none, none] : Pv.Env) = E1 c m bs none sz (c / 24 % sz) [] none none from rfl, seq_nx fo]
  simp only [b1s6, E1, bodyD_eq, res_nx, res_ret, res_exc, res_ite, eS1, eS2, eS3, eS4, eS5, eS6, eS7, eS8, eS9, eS10, eS11, eS12, eS13, eS14, eS15, eS16, eS17, eS18, eS19, eS20, eS21, eS22, eS23, eS24, eS25, eS26, eE1, eE2, eE3, eE4, eE5, eE6, eE7, eE8, eE9, eE10, eE11, eE12, eE13, eE14, eE15, eE16, eE17, eE18, eE19, eE20, eE21, eE22, eE23, eE24, eE25, eE26, eE27, eE28, eE29, eE30, eE31, eE32, eE33, eE34, eE35, eE36, eT1, eT2, eT3, eT4, eT5, eT6, eT7, eT8, eT9, eT10, eT11, eT12, eT13, eL1, eL2, eL3, eC1, eC2, eC3, eA1, eA2, eA3, eO1, eO2, eO3, eAV1, eAV2, eAV3, eOV1, eOV2, eOV3, out_ok, out_exc, thn_nx, thn_ret, thn_exc, thn_brk, thn_cnt, thn_ite, ok_bindN, exc_bindN, bad_bindN, pure_okN, getE0, getEs, putE, noBrw, am, noBrwM, bo, rt, mp, binD, cmpD, cmpI, addI, subI, negI, eqD_int, truthD, notR, absI, lenL, List.map_cons, List.map_nil, List.length_cons, List.length_nil, List.replicate, List.cons_append, List.nil_append, List.set, decide_true, decide_false, Bool.not_true, Bool.not_false, if_true, if_false, Bool.true_and, Bool.and_true, reduceIte, Bool.false_eq_true, decide_eq_true_eq, Nat.reduceSub, Nat.reduceAdd, Nat.reduceLT, Nat.zero_add]
theorem cl1 (c : Int) (m : Nat) (hm : m ≤ 8) : ∃ l : List Str, callD f1 [.int c, .int m] = .ok (.lst .own (l.map Pv.D.str)) ∧ l.length = m ∧ ∀ z ∈ l, nmS z := by
  obtain ⟨l, h1, h2⟩ := ev1 c m hm
  exact ⟨l, call_ok rfl h1 rfl, h2⟩
/-! charts -/
def keyS (s : Str) : Key := Sum.inr s
theorem keyS_inj : ∀ p q : Str, keyS p = keyS q → p = q := fun _ _ h => Sum.inr.inj h
def chK (ks : List Str) (h : Str → Str) : List (Key × Pv.D) := kvG keyS (fun s => .str (h s)) ks
def chD (m : Md) (ks : List Str) (h : Str → Str) : Pv.D := .dk m (chK ks h)
def okCh (ks : List Str) (h : Str → Str) : Prop := (∀ z ∈ ks, nmS z) ∧ ks.Nodup ∧ ∀ s, strOk (h s) = true
theorem ch_mpK (f : Md → Md) {ks : List Str} {h : Str → Str} (ok : ∀ s, strOk (h s) = true) : mpK f (chK ks h) = chK ks h := mpK_G (key := keyS) (f := fun s => .str (h s)) f (fun p => ok p) ks
theorem ch_amK (f : Md → Bool) {ks : List Str} {h : Str → Str} (ok : ∀ s, strOk (h s) = true) : amK f (chK ks h) = true := amK_G (key := keyS) (f := fun s => .str (h s)) f (fun p => ok p) ks
theorem mp_ch (f : Md → Md) (m : Md) (ks : List Str) (h : Str → Str) (ok : ∀ s, strOk (h s) = true) : mp f (chD m ks h) = chD (f m) ks h := by
  show Pv.D.dk (f m) (mpK f (chK ks h)) = _
  rw [ch_mpK f ok]
  rfl
theorem am_ch (f : Md → Bool) (m : Md) (ks : List Str) (h : Str → Str) (ok : ∀ s, strOk (h s) = true) : am f (chD m ks h) = f m := by
  show (f m && amK f (chK ks h)) = _
  rw [ch_amK f ok, Bool.and_true]
theorem ch_put (ks : List Str) (h : Str → Str) (q v : Str) : putKD (chK ks h) (Sum.inr q : Key) (.str v) = chK (addP ks q) (fun p => if p = q then v else h p) := by
  unfold chK
  rw [show (Sum.inr q : Key) = keyS q from rfl, putKD_G keyS_inj]
  apply kvG_congr
  intro p _
  by_cases e : p = q
  · simp [e]
  · simp [e]
theorem ch_get (ks : List Str) (h : Str → Str) (q : Str) : getKD (chK ks h) (Sum.inr q : Key) = if q ∈ ks then some (.str (h q)) else none := by
  unfold chK
  rw [show (Sum.inr q : Key) = keyS q from rfl, getKD_G keyS_inj]
theorem ch_dix (m : Md) (ks : List Str) (h : Str → Str) (q : Str) (hq : q ∈ ks) : ixD (chD m ks h) (.str q) = .ok (.str (h q)) := by
  unfold chD
  rw [ixDk]
  refine dix_some (v := .str (h q)) ?_
  show some (getKD (chK ks h) (Sum.inr q : Key)) = _
  rw [ch_get, if_pos hq]
theorem ch_len (ks : List Str) (h : Str → Str) : (chK ks h).length = ks.length := by
  unfold chK kvG
  rw [List.length_map]
theorem ch_keys (m : Md) (ks : List Str) (h : Str → Str) : bltD .list [chD m ks h] = .ok (.lst .own (ks.map Pv.D.str)) := by
  show Res.ok (Pv.D.lst .own ((chK ks h).map fun kv => keyO kv.1)) = _
  unfold chK kvG
  rw [List.map_map]
  rfl
theorem ch_cpy (m : Md) (ks : List Str) (h : Str → Str) (ok : ∀ s, strOk (h s) = true) : dlstD (chD m ks h) = .ok (chD .own ks h) := by
  show Res.ok (Pv.D.dk .own (mpK fzM (chK ks h))) = _
  rw [ch_mpK _ ok]
  rfl
theorem ch_eq (m n : Md) (ks : List Str) (h : Str → Str) (nd : ks.Nodup) : eqD (chD m ks h) (chD n ks h) = .ok true := by
  have r : ∀ ks : List Str, dkEq (chK ks h) (chK ks h) = true := fun ks => by
    induction ks with
    | nil => rfl
    | cons s ks ih =>
      show (decide (keyS s = keyS s) && flatEq (.str (h s)) (.str (h s)) && dkEq (chK ks h) (chK ks h)) = true
      rw [ih]
      simp [flatEq]
  have nk : ((chK ks h).map (·.1)).Nodup := by
    unfold chK kvG
    rw [List.map_map]
    exact List.Pairwise.map _ (fun a b hab e => hab (keyS_inj a b e)) nd
  show (if dkEq (chK ks h) (chK ks h) && decide (((chK ks h).map (·.1)).Nodup) then Res.ok true else .bad) = _
  rw [r, decide_eq_true nk]
  rfl
def heads : List Str := ["have", "owe", "own", "result"]
def E3 (c : Int) (ks : List Str) (h : Str → Str) (x3 x4 : Option Pv.D) : Pv.Env := [some (.int c), some (.lst .own (heads.map Pv.D.str)), some (chD .own ks h), x3, x4]
theorem turn3 (c : Int) (ks : List Str) (h : Str → Str) (ok : okCh ks h) (hl : ks.length ≤ 100) (k : Nat) (hk : k < 8) (z : Str) (hz : nmS z) : ∃ ks' h', okCh ks' h' ∧ ks'.length ≤ ks.length + 1 ∧ evS T3 b3w0 (E3 c ks h (some (.int k)) (some (.str z))) = .nx (E3 c ks' h' (some (.int k)) (some (.str z))) := by
  obtain ⟨v, hv, v0, _⟩ := cl0 c (20 + k) (by omega)
  rw [show ((20 + k : Nat) : Int) = 20 + (k : Int) by omega] at hv
  have m4 : modD (.int v) (.int 4) = .ok (.int (v % 4)) := modI (by omega)
  obtain ⟨t, ht⟩ := Int.eq_ofNat_of_zero_le (show 0 ≤ v % 4 by omega)
  have t4 : t < heads.length := by show t < 4; omega
  have ih : ixD (.lst .brw (heads.map Pv.D.str)) (.int t) = .ok (.str heads[t]) := by
    rw [ixL .brw (d := .str heads[t]) (by rw [List.getElem?_map, List.getElem?_eq_getElem t4]; rfl)]
    rfl
  have sh : strOk heads[t] = true := by
    have : ∀ x ∈ heads, strOk x = true := by decide +kernel
    exact this _ (List.getElem_mem t4)
  refine ⟨addP ks z, fun p => if p = z then heads[t] else h p, ⟨fun y hy => ?_, addP_nodup ok.2.1, fun s => ?_⟩, ?_, ?_⟩
  · rcases mem_addP.mp hy with hy | rfl
    · exact ok.1 y hy
    · exact hz
  · show strOk (if s = z then heads[t] else h s) = true
    split
    · exact sh
    · exact ok.2.2 s
  · unfold addP
    split <;> simp
  · unfold b3w0
    rw [seq_nop, setk_eq (i := 2) (env := E3 c ks h (some (.int k)) (some (.str z))) (kvs := chK ks h) (d := .str heads[t]) (y := .str z) (kk := Sum.inr z) rfl ?_ ?_ rfl rfl (by rw [ch_len]; exact lineOk_le (by omega)) (ch_amK _ ok.2.2)]
    · rw [show Pv.fz (.str heads[t]) = .str heads[t] from rfl, ch_put]
      rfl
    · simp only [E3, u3_0, u3_1, bodyD_eq, res_nx, res_ret, res_exc, res_ite, eS1, eS2, eS3, eS4, eS5, eS6, eS7, eS8, eS9, eS10, eS11, eS12, eS13, eS14, eS15, eS16, eS17, eS18, eS19, eS20, eS21, eS22, eS23, eS24, eS25, eS26, eE1, eE2, eE3, eE4, eE5, eE6, eE7, eE8, eE9, eE10, eE11, eE12, eE13, eE14, eE15, eE16, eE17, eE18, eE19, eE20, eE21, eE22, eE23, eE24, eE25, eE26, eE27, eE28, eE29, eE30, eE31, eE32, eE33, eE34, eE35, eE36, eT1, eT2, eT3, eT4, eT5, eT6, eT7, eT8, eT9, eT10, eT11, eT12, eT13, eL1, eL2, eL3, eC1, eC2, eC3, eA1, eA2, eA3, eO1, eO2, eO3, eAV1, eAV2, eAV3, eOV1, eOV2, eOV3, out_ok, out_exc, thn_nx, thn_ret, thn_exc, thn_brk, thn_cnt, thn_ite, ok_bindN, exc_bindN, bad_bindN, pure_okN, getE0, getEs, putE, noBrw, am, noBrwM, bo, rt, mp, binD, cmpD, cmpI, addI, subI, negI, eqD_int, truthD, notR, absI, lenL, List.map_cons, List.map_nil, List.length_cons, List.length_nil, List.replicate, List.cons_append, List.nil_append, List.set, decide_true, decide_false, Bool.not_true, Bool.not_false, if_true, if_false, Bool.true_and, Bool.and_true, reduceIte, Bool.false_eq_true, decide_eq_true_eq, Nat.reduceSub, Nat.reduceAdd, Nat.reduceLT, Nat.zero_add, boM, mpL_strs, hv, m4, ht, Int.ofNat_eq_natCast, ih]
    · simp only [E3, bodyD_eq, res_nx, res_ret, res_exc, res_ite, eS1, eS2, eS3, eS4, eS5, eS6, eS7, eS8, eS9, eS10, eS11, eS12, eS13, eS14, eS15, eS16, eS17, eS18, eS19, eS20, eS21, eS22, eS23, eS24, eS25, eS26, eE1, eE2, eE3, eE4, eE5, eE6, eE7, eE8, eE9, eE10, eE11, eE12, eE13, eE14, eE15, eE16, eE17, eE18, eE19, eE20, eE21, eE22, eE23, eE24, eE25, eE26, eE27, eE28, eE29, eE30, eE31, eE32, eE33, eE34, eE35, eE36, eT1, eT2, eT3, eT4, eT5, eT6, eT7, eT8, eT9, eT10, eT11, eT12, eT13, eL1, eL2, eL3, eC1, eC2, eC3, eA1, eA2, eA3, eO1, eO2, eO3, eAV1, eAV2, eAV3, eOV1, eOV2, eOV3, out_ok, out_exc, thn_nx, thn_ret, thn_exc, thn_brk, thn_cnt, thn_ite, ok_bindN, exc_bindN, bad_bindN, pure_okN, getE0, getEs, putE, noBrw, am, noBrwM, bo, rt, mp, binD, cmpD, cmpI, addI, subI, negI, eqD_int, truthD, notR, absI, lenL, List.map_cons, List.map_nil, List.length_cons, List.length_nil, List.replicate, List.cons_append, List.nil_append, List.set, decide_true, decide_false, Bool.not_true, Bool.not_false, if_true, if_false, Bool.true_and, Bool.and_true, reduceIte, Bool.false_eq_true, decide_eq_true_eq, Nat.reduceSub, Nat.reduceAdd, Nat.reduceLT, Nat.zero_add]
theorem loop3 (c : Int) : ∀ (l : List Str) (n : Nat) (ks : List Str) (h : Str → Str) (x3 x4 : Option Pv.D), (∀ z ∈ l, nmS z) → okCh ks h → ks.length + l.length ≤ 90 → n + l.length ≤ 8 → ∃ ks' h' y3 y4, okCh ks' h' ∧ ks'.length ≤ 90 ∧ loopD (evS T3 b3w0) (fun e x => tgE e [3, 4] x) (enumD n (l.map Pv.D.str)) (E3 c ks h x3 x4) = .nx (E3 c ks' h' y3 y4)
  | [], n, ks, h, x3, x4, _, ok, hl, _ => ⟨ks, h, x3, x4, ok, by simpa using hl, rfl⟩
  | z :: l, n, ks, h, x3, x4, hz, ok, hl, hn => by
    rw [List.length_cons] at hl hn
    obtain ⟨ks1, h1, o1, l1, t1⟩ := turn3 c ks h ok (by omega) n (by omega) z (hz z List.mem_cons_self)
    obtain ⟨ks', h', y3, y4, o2, l2, ih⟩ := loop3 c l (n + 1) ks1 h1 (some (.int n)) (some (.str z)) (fun y hy => hz y (List.mem_cons_of_mem _ hy)) o1 (by omega) (by omega)
    refine ⟨ks', h', y3, y4, o2, l2, ?_⟩
    rw [List.map_cons]
    unfold enumD loopD
    rw [tgE2 _ _ _ _ _ rfl rfl (by unfold E3; simp) (by unfold E3; simp)]
    have e : ((E3 c ks h x3 x4).set 3 (some (.int (n : Int)))).set 4 (some (.str z)) = E3 c ks h (some (.int n)) (some (.str z)) := rfl
    simp only [e, t1]
    exact ih
theorem ev3 (c : Int) : ∃ ks h, f3.m [.int c] = .ok (chD .own ks h) ∧ okCh ks h ∧ ks.length ≤ 100 := by
  obtain ⟨l, k1, k2, k3⟩ := cl1 c 4 (by omega)
  rw [show ((4 : Nat) : Int) = 4 from rfl] at k1
  obtain ⟨ks, h, y3, y4, ok, kl, lo⟩ := loop3 c l 0 [] (fun _ => "have") none none k3 ⟨fun _ z => (List.not_mem_nil z).elim, List.nodup_nil, fun _ => show strOk "have" = true by decide +kernel⟩ (by simp; omega) (by omega)
  have fo : evS T3 (.forE 3 4 (.call 1 (.cons (.var 0) (.cons (.int 4) .nil))) b3w0) (E3 c [] (fun _ => "have") none none) = .nx (E3 c ks h y3 y4) := by
    have hs : evE T3 (.call 1 (.cons (.var 0) (.cons (.int 4) .nil))) (E3 c [] (fun _ => "have") none none) = .ok (.lst .own (l.map Pv.D.str)) := by
      simp only [E3, u3_0, u3_1, bodyD_eq, res_nx, res_ret, res_exc, res_ite, eS1, eS2, eS3, eS4, eS5, eS6, eS7, eS8, eS9, eS10, eS11, eS12, eS13, eS14, eS15, eS16, eS17, eS18, eS19, eS20, eS21, eS22, eS23, eS24, eS25, eS26, eE1, eE2, eE3, eE4, eE5, eE6, eE7, eE8, eE9, eE10, eE11, eE12, eE13, eE14, eE15, eE16, eE17, eE18, eE19, eE20, eE21, eE22, eE23, eE24, eE25, eE26, eE27, eE28, eE29, eE30, eE31, eE32, eE33, eE34, eE35, eE36, eT1, eT2, eT3, eT4, eT5, eT6, eT7, eT8, eT9, eT10, eT11, eT12, eT13, eL1, eL2, eL3, eC1, eC2, eC3, eA1, eA2, eA3, eO1, eO2, eO3, eAV1, eAV2, eAV3, eOV1, eOV2, eOV3, out_ok, out_exc, thn_nx, thn_ret, thn_exc, thn_brk, thn_cnt, thn_ite, ok_bindN, exc_bindN, bad_bindN, pure_okN, getE0, getEs, putE, noBrw, am, noBrwM, bo, rt, mp, binD, cmpD, cmpI, addI, subI, negI, eqD_int, truthD, notR, absI, lenL, List.map_cons, List.map_nil, List.length_cons, List.length_nil, List.replicate, List.cons_append, List.nil_append, List.set, decide_true, decide_false, Bool.not_true, Bool.not_false, if_true, if_false, Bool.true_and, Bool.and_true, reduceIte, Bool.false_eq_true, decide_eq_true_eq, Nat.reduceSub, Nat.reduceAdd, Nat.reduceLT, Nat.zero_add, k1]
    have cb : (amL noBrwM (l.map Pv.D.str) && noBrw (.lst .own (l.map Pv.D.str))) = true := by
      show (amL noBrwM _ && (true && amL noBrwM _)) = true
      rw [amL_strs]
      rfl
    rw [evS, hs, out_ok]
    show (if (amL noBrwM (l.map Pv.D.str) && noBrw (.lst .own (l.map Pv.D.str))) = true then loopD (evS T3 b3w0) (fun e x => tgE e [3, 4] x) (enumD 0 (mpL fzM (l.map Pv.D.str))) (E3 c [] (fun _ => "have") none none) else .bad) = _
    rw [if_pos cb, mpL_strs]
    exact lo
  have sd : ∃ ks' h', okCh ks' h' ∧ ks'.length ≤ 100 ∧ evS T3 (.setd 2 (.str "cash") (.str "have")) (E3 c ks h y3 y4) = .nx (E3 c ks' h' y3 y4) := by
    have cc : (noBrw (.str "have") && lineOk (chK ks h).length && amK noOwnM (chK ks h)) = true := by
      rw [ch_len, lineOk_le (by omega), ch_amK _ ok.2.2]
      rfl
    have hget : (E3 c ks h y3 y4)[2]? = some (some (.dk .own (chK ks h))) := rfl
    have hk : keyD (.str "cash") = some (Sum.inr ("cash" : Str) : Key) := rfl
    by_cases hc : ("cash" : Str) ∈ ks
    · refine ⟨ks, h, ok, by omega, ?_⟩
      rw [evS, hget]
      simp only [evE, out_ok, hk, cc, if_true, ch_get, if_pos hc]
    · refine ⟨addP ks "cash", fun p => if p = "cash" then "have" else h p, ⟨fun y hy => ?_, addP_nodup ok.2.1, fun s => ?_⟩, ?_, ?_⟩
      · rcases mem_addP.mp hy with hy | rfl
        · exact ok.1 y hy
        · exact ⟨by decide +kernel, by decide +kernel⟩
      · show strOk (if s = "cash" then "have" else h s) = true
        split
        · decide +kernel
        · exact ok.2.2 s
      · unfold addP
        split
        · omega
        · rw [List.length_append, List.length_singleton]; omega
      · rw [evS, hget]
        simp only [evE, out_ok, hk, cc, if_true, ch_get, if_neg hc]
        rw [show Pv.fz (.str "have") = .str "have" from rfl, ch_put]
        rfl
  obtain ⟨ks', h', o', l', sd⟩ := sd
  refine ⟨ks', h', ?_, o', l'⟩
  have lo4 : lineOk 4 = true := lineOk_le (by omega)
  simp only [f3, bodyD_eq, List.map_cons, List.map_nil, List.length_cons, List.length_nil, Nat.reduceSub, Nat.reduceAdd, List.replicate, List.cons_append, List.nil_append]
  simp only [b3, bodyD_eq, res_nx, res_ret, res_exc, res_ite, eS1, eS2, eS3, eS4, eS5, eS6, eS7, eS8, eS9, eS10, eS11, eS12, eS13, eS14, eS15, eS16, eS17, eS18, eS19, eS20, eS21, eS22, eS23, eS24, eS25, eS26, eE1, eE2, eE3, eE4, eE5, eE6, eE7, eE8, eE9, eE10, eE11, eE12, eE13, eE14, eE15, eE16, eE17, eE18, eE19, eE20, eE21, eE22, eE23, eE24, eE25, eE26, eE27, eE28, eE29, eE30, eE31, eE32, eE33, eE34, eE35, eE36, eT1, eT2, eT3, eT4, eT5, eT6, eT7, eT8, eT9, eT10, eT11, eT12, eT13, eL1, eL2, eL3, eC1, eC2, eC3, eA1, eA2, eA3, eO1, eO2, eO3, eAV1, eAV2, eAV3, eOV1, eOV2, eOV3, out_ok, out_exc, thn_nx, thn_ret, thn_exc, thn_brk, thn_cnt, thn_ite, ok_bindN, exc_bindN, bad_bindN, pure_okN, getE0, getEs, putE, noBrw, am, noBrwM, bo, rt, mp, binD, cmpD, cmpI, addI, subI, negI, eqD_int, truthD, notR, absI, lenL, List.map_cons, List.map_nil, List.length_cons, List.length_nil, List.replicate, List.cons_append, List.nil_append, List.set, decide_true, decide_false, Bool.not_true, Bool.not_false, if_true, if_false, Bool.true_and, Bool.and_true, reduceIte, Bool.false_eq_true, decide_eq_true_eq, Nat.reduceSub, Nat.reduceAdd, Nat.reduceLT, Nat.zero_add, mpL, amL, lo4]
  simp only [b3s1, bodyD_eq, res_nx, res_ret, res_exc, res_ite, eS1, eS2, eS3, eS4, eS5, eS6, eS7, eS8, eS9, eS10, eS11, eS12, eS13, eS14, eS15, eS16, eS17, eS18, eS19, eS20, eS21, eS22, eS23, eS24, eS25, eS26, eE1, eE2, eE3, eE4, eE5, eE6, eE7, eE8, eE9, eE10, eE11, eE12, eE13, eE14, eE15, eE16, eE17, eE18, eE19, eE20, eE21, eE22, eE23, eE24, eE25, eE26, eE27, eE28, eE29, eE30, eE31, eE32, eE33, eE34, eE35, eE36, eT1, eT2, eT3, eT4, eT5, eT6, eT7, eT8, eT9, eT10, eT11, eT12, eT13, eL1, eL2, eL3, eC1, eC2, eC3, eA1, eA2, eA3, eO1, eO2, eO3, eAV1, eAV2, eAV3, eOV1, eOV2, eOV3, out_ok, out_exc, thn_nx, thn_ret, thn_exc, thn_brk, thn_cnt, thn_ite, ok_bindN, exc_bindN, bad_bindN, pure_okN, getE0, getEs, putE, noBrw, am, noBrwM, bo, rt, mp, binD, cmpD, cmpI, addI, subI, negI, eqD_int, truthD, notR, absI, lenL, List.map_cons, List.map_nil, List.length_cons, List.length_nil, List.replicate, List.cons_append, List.nil_append, List.set, decide_true, decide_false, Bool.not_true, Bool.not_false, if_true, if_false, Bool.true_and, Bool.and_true, reduceIte, Bool.false_eq_true, decide_eq_true_eq, Nat.reduceSub, Nat.reduceAdd, Nat.reduceLT, Nat.zero_add, amK]
  rw [b3s2, show ([some (.int c), some (.lst .own [.str "have", .str "owe", .str "own", .str "result"]), some (.dk .own []), none, none] : Pv.Env) = E3 c [] (fun _ => "have") none none from rfl, seq_nx fo, b3s3, seq_nx sd]
  simp only [b3s4, E3, bodyD_eq, res_nx, res_ret, res_exc, res_ite, eS1, eS2, eS3, eS4, eS5, eS6, eS7, eS8, eS9, eS10, eS11, eS12, eS13, eS14, eS15, eS16, eS17, eS18, eS19, eS20, eS21, eS22, eS23, eS24, eS25, eS26, eE1, eE2, eE3, eE4, eE5, eE6, eE7, eE8, eE9, eE10, eE11, eE12, eE13, eE14, eE15, eE16, eE17, eE18, eE19, eE20, eE21, eE22, eE23, eE24, eE25, eE26, eE27, eE28, eE29, eE30, eE31, eE32, eE33, eE34, eE35, eE36, eT1, eT2, eT3, eT4, eT5, eT6, eT7, eT8, eT9, eT10, eT11, eT12, eT13, eL1, eL2, eL3, eC1, eC2, eC3, eA1, eA2, eA3, eO1, eO2, eO3, eAV1, eAV2, eAV3, eOV1, eOV2, eOV3, out_ok, out_exc, thn_nx, thn_ret, thn_exc, thn_brk, thn_cnt, thn_ite, ok_bindN, exc_bindN, bad_bindN, pure_okN, getE0, getEs, putE, noBrw, am, noBrwM, bo, rt, mp, binD, cmpD, cmpI, addI, subI, negI, eqD_int, truthD, notR, absI, lenL, List.map_cons, List.map_nil, List.length_cons, List.length_nil, List.replicate, List.cons_append, List.nil_append, List.set, decide_true, decide_false, Bool.not_true, Bool.not_false, if_true, if_false, Bool.true_and, Bool.and_true, reduceIte, Bool.false_eq_true, decide_eq_true_eq, Nat.reduceSub, Nat.reduceAdd, Nat.reduceLT, Nat.zero_add]
theorem cl3 (c : Int) : ∃ ks h, callD f3 [.int c] = .ok (chD .own ks h) ∧ okCh ks h ∧ ks.length ≤ 100 := by
  obtain ⟨ks, h, h1, h2, h3⟩ := ev3 c
  exact ⟨ks, h, call_ok rfl h1 rfl, h2, h3⟩
/-! accounts and their headings -/
def HV : List Str := ["*goods", ".within", ".stake"]
def OW : List Str := ["*payout", ".fund", ".payout", ".yield"]
def RS : List Str := ["*sales", "*cost", "*bridge", "*rounding", ".made", ".freed", ".income", ".outlay", ".bridge"]
def FXA : List Str := ["*goods", "*payout", "*sales", "*cost", "*bridge", "*rounding", ".within", ".stake", ".fund"]
def FXB : List Str := [".payout", ".yield", ".made", ".freed", ".income", ".outlay", ".bridge"]
def cut5 (z : Str) : Str := L2.cutS z none (some ((5 : Nat) : Int))
def cut1 (z : Str) : Str := L2.cutS z none (some ((1 : Nat) : Int))
def hdOf (h : Str → Str) (z : Str) : Str := if z ∈ HV ∨ cut5 z = ".due." then "have" else if z ∈ OW then "own" else if z ∈ RS then "result" else if z = "*within" then "within" else h z
structure OA (ks : List Str) (z : Str) : Prop where
  ok : strOk z = true
  lo : 1 ≤ z.length
  hi : z.length ≤ 100
  hd : z ∈ HV ∨ cut5 z = ".due." ∨ z ∈ OW ∨ z ∈ RS ∨ z = "*within" ∨ z ∈ ks
theorem hd_ok {ks : List Str} {h : Str → Str} (ok : okCh ks h) (z : Str) : strOk (hdOf h z) = true := by
  unfold hdOf
  split
  · decide +kernel
  · split
    · decide +kernel
    · split
      · decide +kernel
      · split
        · decide +kernel
        · exact ok.2.2 z
theorem g80 : T8.gl 0 = .lst .kon (HV.map Pv.D.str) := rfl
theorem g81 : T8.gl 1 = .lst .kon (OW.map Pv.D.str) := rfl
theorem g82 : T8.gl 2 = .lst .kon (RS.map Pv.D.str) := rfl
theorem sok (z : Str) (h : (z.cps.all fun c => decide (c < 0x110000)) = true) : strOk z = true := h
theorem ev8 (m : Md) (ks : List Str) (h : Str → Str) (ok : okCh ks h) (z : Str) (oz : OA ks z) : f8.m [.str z, chD m ks h] = .ok (.str (hdOf h z)) := by
  have i0 := in_strs z .kon HV
  have i1 := in_strs z .kon OW
  have i2 := in_strs z .kon RS
  have sl := slStr z 5 (by have := oz.hi; omega)
  rw [show ((5 : Nat) : Int) = 5 from rfl] at sl
  have e5 : eqD (.str (L2.cutS z none (some (5 : Int)))) (.str ".due.") = .ok (decide (cut5 z = ".due.")) := eqD_str (cut5 z) ".due." (strOk_cut oz.ok 5) (by decide +kernel)
  have ew := eqD_str z "*within" oz.ok (by decide +kernel)
  simp only [f8, bodyD_eq, List.map_cons, List.map_nil, List.length_cons, List.length_nil, Nat.reduceSub, Nat.reduceAdd, List.replicate, List.cons_append, List.nil_append]
  by_cases c1 : z ∈ HV
  · rw [decide_eq_true c1] at i0
    unfold hdOf
    rw [if_pos (.inl c1)]
    simp only [b8, bodyD_eq, res_nx, res_ret, res_exc, res_ite, eS1, eS2, eS3, eS4, eS5, eS6, eS7, eS8, eS9, eS10, eS11, eS12, eS13, eS14, eS15, eS16, eS17, eS18, eS19, eS20, eS21, eS22, eS23, eS24, eS25, eS26, eE1, eE2, eE3, eE4, eE5, eE6, eE7, eE8, eE9, eE10, eE11, eE12, eE13, eE14, eE15, eE16, eE17, eE18, eE19, eE20, eE21, eE22, eE23, eE24, eE25, eE26, eE27, eE28, eE29, eE30, eE31, eE32, eE33, eE34, eE35, eE36, eT1, eT2, eT3, eT4, eT5, eT6, eT7, eT8, eT9, eT10, eT11, eT12, eT13, eL1, eL2, eL3, eC1, eC2, eC3, eA1, eA2, eA3, eO1, eO2, eO3, eAV1, eAV2, eAV3, eOV1, eOV2, eOV3, out_ok, out_exc, thn_nx, thn_ret, thn_exc, thn_brk, thn_cnt, thn_ite, ok_bindN, exc_bindN, bad_bindN, pure_okN, getE0, getEs, putE, noBrw, am, noBrwM, bo, rt, mp, binD, cmpD, cmpI, addI, subI, negI, eqD_int, truthD, notR, absI, lenL, List.map_cons, List.map_nil, List.length_cons, List.length_nil, List.replicate, List.cons_append, List.nil_append, List.set, decide_true, decide_false, Bool.not_true, Bool.not_false, if_true, if_false, Bool.true_and, Bool.and_true, reduceIte, Bool.false_eq_true, decide_eq_true_eq, Nat.reduceSub, Nat.reduceAdd, Nat.reduceLT, Nat.zero_add, oneOpt, g80, i0]
  · rw [decide_eq_false c1] at i0
    by_cases c2 : cut5 z = ".due."
    · rw [decide_eq_true c2] at e5
      unfold hdOf
      rw [if_pos (.inr c2)]
      simp only [b8, bodyD_eq, res_nx, res_ret, res_exc, res_ite, eS1, eS2, eS3, eS4, eS5, eS6, eS7, eS8, eS9, eS10, eS11, eS12, eS13, eS14, eS15, eS16, eS17, eS18, eS19, eS20, eS21, eS22, eS23, eS24, eS25, eS26, eE1, eE2, eE3, eE4, eE5, eE6, eE7, eE8, eE9, eE10, eE11, eE12, eE13, eE14, eE15, eE16, eE17, eE18, eE19, eE20, eE21, eE22, eE23, eE24, eE25, eE26, eE27, eE28, eE29, eE30, eE31, eE32, eE33, eE34, eE35, eE36, eT1, eT2, eT3, eT4, eT5, eT6, eT7, eT8, eT9, eT10, eT11, eT12, eT13, eL1, eL2, eL3, eC1, eC2, eC3, eA1, eA2, eA3, eO1, eO2, eO3, eAV1, eAV2, eAV3, eOV1, eOV2, eOV3, out_ok, out_exc, thn_nx, thn_ret, thn_exc, thn_brk, thn_cnt, thn_ite, ok_bindN, exc_bindN, bad_bindN, pure_okN, getE0, getEs, putE, noBrw, am, noBrwM, bo, rt, mp, binD, cmpD, cmpI, addI, subI, negI, eqD_int, truthD, notR, absI, lenL, List.map_cons, List.map_nil, List.length_cons, List.length_nil, List.replicate, List.cons_append, List.nil_append, List.set, decide_true, decide_false, Bool.not_true, Bool.not_false, if_true, if_false, Bool.true_and, Bool.and_true, reduceIte, Bool.false_eq_true, decide_eq_true_eq, Nat.reduceSub, Nat.reduceAdd, Nat.reduceLT, Nat.zero_add, oneOpt, g80, i0, sl, e5]
    · rw [decide_eq_false c2] at e5
      unfold hdOf
      rw [if_neg (fun y => y.elim c1 c2)]
      have s1 : evS T8 b8 [some (.str z), some (chD m ks h)] = evS T8 b8s1 [some (.str z), some (chD m ks h)] := by
        simp only [b8, bodyD_eq, res_nx, res_ret, res_exc, res_ite, eS1, eS2, eS3, eS4, eS5, eS6, eS7, eS8, eS9, eS10, eS11, eS12, eS13, eS14, eS15, eS16, eS17, eS18, eS19, eS20, eS21, eS22, eS23, eS24, eS25, eS26, eE1, eE2, eE3, eE4, eE5, eE6, eE7, eE8, eE9, eE10, eE11, eE12, eE13, eE14, eE15, eE16, eE17, eE18, eE19, eE20, eE21, eE22, eE23, eE24, eE25, eE26, eE27, eE28, eE29, eE30, eE31, eE32, eE33, eE34, eE35, eE36, eT1, eT2, eT3, eT4, eT5, eT6, eT7, eT8, eT9, eT10, eT11, eT12, eT13, eL1, eL2, eL3, eC1, eC2, eC3, eA1, eA2, eA3, eO1, eO2, eO3, eAV1, eAV2, eAV3, eOV1, eOV2, eOV3, out_ok, out_exc, thn_nx, thn_ret, thn_exc, thn_brk, thn_cnt, thn_ite, ok_bindN, exc_bindN, bad_bindN, pure_okN, getE0, getEs, putE, noBrw, am, noBrwM, bo, rt, mp, binD, cmpD, cmpI, addI, subI, negI, eqD_int, truthD, notR, absI, lenL, List.map_cons, List.map_nil, List.length_cons, List.length_nil, List.replicate, List.cons_append, List.nil_append, List.set, decide_true, decide_false, Bool.not_true, Bool.not_false, if_true, if_false, Bool.true_and, Bool.and_true, reduceIte, Bool.false_eq_true, decide_eq_true_eq, Nat.reduceSub, Nat.reduceAdd, Nat.reduceLT, Nat.zero_add, oneOpt, g80, i0, sl, e5]
      rw [s1]
      by_cases c3 : z ∈ OW
      · rw [decide_eq_true c3] at i1
        rw [if_pos c3]
        simp only [b8s1, bodyD_eq, res_nx, res_ret, res_exc, res_ite, eS1, eS2, eS3, eS4, eS5, eS6, eS7, eS8, eS9, eS10, eS11, eS12, eS13, eS14, eS15, eS16, eS17, eS18, eS19, eS20, eS21, eS22, eS23, eS24, eS25, eS26, eE1, eE2, eE3, eE4, eE5, eE6, eE7, eE8, eE9, eE10, eE11, eE12, eE13, eE14, eE15, eE16, eE17, eE18, eE19, eE20, eE21, eE22, eE23, eE24, eE25, eE26, eE27, eE28, eE29, eE30, eE31, eE32, eE33, eE34, eE35, eE36, eT1, eT2, eT3, eT4, eT5, eT6, eT7, eT8, eT9, eT10, eT11, eT12, eT13, eL1, eL2, eL3, eC1, eC2, eC3, eA1, eA2, eA3, eO1, eO2, eO3, eAV1, eAV2, eAV3, eOV1, eOV2, eOV3, out_ok, out_exc, thn_nx, thn_ret, thn_exc, thn_brk, thn_cnt, thn_ite, ok_bindN, exc_bindN, bad_bindN, pure_okN, getE0, getEs, putE, noBrw, am, noBrwM, bo, rt, mp, binD, cmpD, cmpI, addI, subI, negI, eqD_int, truthD, notR, absI, lenL, List.map_cons, List.map_nil, List.length_cons, List.length_nil, List.replicate, List.cons_append, List.nil_append, List.set, decide_true, decide_false, Bool.not_true, Bool.not_false, if_true, if_false, Bool.true_and, Bool.and_true, reduceIte, Bool.false_eq_true, decide_eq_true_eq, Nat.reduceSub, Nat.reduceAdd, Nat.reduceLT, Nat.zero_add, g81, i1]
      · rw [decide_eq_false c3] at i1
        rw [if_neg c3]
        have s2 : evS T8 b8s1 [some (.str z), some (chD m ks h)] = evS T8 b8s2 [some (.str z), some (chD m ks h)] := by
          simp only [b8s1, bodyD_eq, res_nx, res_ret, res_exc, res_ite, eS1, eS2, eS3, eS4, eS5, eS6, eS7, eS8, eS9, eS10, eS11, eS12, eS13, eS14, eS15, eS16, eS17, eS18, eS19, eS20, eS21, eS22, eS23, eS24, eS25, eS26, eE1, eE2, eE3, eE4, eE5, eE6, eE7, eE8, eE9, eE10, eE11, eE12, eE13, eE14, eE15, eE16, eE17, eE18, eE19, eE20, eE21, eE22, eE23, eE24, eE25, eE26, eE27, eE28, eE29, eE30, eE31, eE32, eE33, eE34, eE35, eE36, eT1, eT2, eT3, eT4, eT5, eT6, eT7, eT8, eT9, eT10, eT11, eT12, eT13, eL1, eL2, eL3, eC1, eC2, eC3, eA1, eA2, eA3, eO1, eO2, eO3, eAV1, eAV2, eAV3, eOV1, eOV2, eOV3, out_ok, out_exc, thn_nx, thn_ret, thn_exc, thn_brk, thn_cnt, thn_ite, ok_bindN, exc_bindN, bad_bindN, pure_okN, getE0, getEs, putE, noBrw, am, noBrwM, bo, rt, mp, binD, cmpD, cmpI, addI, subI, negI, eqD_int, truthD, notR, absI, lenL, List.map_cons, List.map_nil, List.length_cons, List.length_nil, List.replicate, List.cons_append, List.nil_append, List.set, decide_true, decide_false, Bool.not_true, Bool.not_false, if_true, if_false, Bool.true_and, Bool.and_true, reduceIte, Bool.false_eq_true, decide_eq_true_eq, Nat.reduceSub, Nat.reduceAdd, Nat.reduceLT, Nat.zero_add, g81, i1]
        rw [s2]
        by_cases c4 : z ∈ RS
        · rw [decide_eq_true c4] at i2
          rw [if_pos c4]
          simp only [b8s2, bodyD_eq, res_nx, res_ret, res_exc, res_ite, eS1, eS2, eS3, eS4, eS5, eS6, eS7, eS8, eS9, eS10, eS11, eS12, eS13, eS14, eS15, eS16, eS17, eS18, eS19, eS20, eS21, eS22, eS23, eS24, eS25, eS26, eE1, eE2, eE3, eE4, eE5, eE6, eE7, eE8, eE9, eE10, eE11, eE12, eE13, eE14, eE15, eE16, eE17, eE18, eE19, eE20, eE21, eE22, eE23, eE24, eE25, eE26, eE27, eE28, eE29, eE30, eE31, eE32, eE33, eE34, eE35, eE36, eT1, eT2, eT3, eT4, eT5, eT6, eT7, eT8, eT9, eT10, eT11, eT12, eT13, eL1, eL2, eL3, eC1, eC2, eC3, eA1, eA2, eA3, eO1, eO2, eO3, eAV1, eAV2, eAV3, eOV1, eOV2, eOV3, out_ok, out_exc, thn_nx, thn_ret, thn_exc, thn_brk, thn_cnt, thn_ite, ok_bindN, exc_bindN, bad_bindN, pure_okN, getE0, getEs, putE, noBrw, am, noBrwM, bo, rt, mp, binD, cmpD, cmpI, addI, subI, negI, eqD_int, truthD, notR, absI, lenL, List.map_cons, List.map_nil, List.length_cons, List.length_nil, List.replicate, List.cons_append, List.nil_append, List.set, decide_true, decide_false, Bool.not_true, Bool.not_false, if_true, if_false, Bool.true_and, Bool.and_true, reduceIte, Bool.false_eq_true, decide_eq_true_eq, Nat.reduceSub, Nat.reduceAdd, Nat.reduceLT, Nat.zero_add, g82, i2]
        · rw [decide_eq_false c4] at i2
          rw [if_neg c4]
          have s3 : evS T8 b8s2 [some (.str z), some (chD m ks h)] = evS T8 b8s3 [some (.str z), some (chD m ks h)] := by
            simp only [b8s2, bodyD_eq, res_nx, res_ret, res_exc, res_ite, eS1, eS2, eS3, eS4, eS5, eS6, eS7, eS8, eS9, eS10, eS11, eS12, eS13, eS14, eS15, eS16, eS17, eS18, eS19, eS20, eS21, eS22, eS23, eS24, eS25, eS26, eE1, eE2, eE3, eE4, eE5, eE6, eE7, eE8, eE9, eE10, eE11, eE12, eE13, eE14, eE15, eE16, eE17, eE18, eE19, eE20, eE21, eE22, eE23, eE24, eE25, eE26, eE27, eE28, eE29, eE30, eE31, eE32, eE33, eE34, eE35, eE36, eT1, eT2, eT3, eT4, eT5, eT6, eT7, eT8, eT9, eT10, eT11, eT12, eT13, eL1, eL2, eL3, eC1, eC2, eC3, eA1, eA2, eA3, eO1, eO2, eO3, eAV1, eAV2, eAV3, eOV1, eOV2, eOV3, out_ok, out_exc, thn_nx, thn_ret, thn_exc, thn_brk, thn_cnt, thn_ite, ok_bindN, exc_bindN, bad_bindN, pure_okN, getE0, getEs, putE, noBrw, am, noBrwM, bo, rt, mp, binD, cmpD, cmpI, addI, subI, negI, eqD_int, truthD, notR, absI, lenL, List.map_cons, List.map_nil, List.length_cons, List.length_nil, List.replicate, List.cons_append, List.nil_append, List.set, decide_true, decide_false, Bool.not_true, Bool.not_false, if_true, if_false, Bool.true_and, Bool.and_true, reduceIte, Bool.false_eq_true, decide_eq_true_eq, Nat.reduceSub, Nat.reduceAdd, Nat.reduceLT, Nat.zero_add, g82, i2]
          rw [s3]
          by_cases c5 : z = "*within"
          · rw [decide_eq_true c5] at ew
            rw [if_pos c5]
            simp only [b8s3, bodyD_eq, res_nx, res_ret, res_exc, res_ite, eS1, eS2, eS3, eS4, eS5, eS6, eS7, eS8, eS9, eS10, eS11, eS12, eS13, eS14, eS15, eS16, eS17, eS18, eS19, eS20, eS21, eS22, eS23, eS24, eS25, eS26, eE1, eE2, eE3, eE4, eE5, eE6, eE7, eE8, eE9, eE10, eE11, eE12, eE13, eE14, eE15, eE16, eE17, eE18, eE19, eE20, eE21, eE22, eE23, eE24, eE25, eE26, eE27, eE28, eE29, eE30, eE31, eE32, eE33, eE34, eE35, eE36, eT1, eT2, eT3, eT4, eT5, eT6, eT7, eT8, eT9, eT10, eT11, eT12, eT13, eL1, eL2, eL3, eC1, eC2, eC3, eA1, eA2, eA3, eO1, eO2, eO3, eAV1, eAV2, eAV3, eOV1, eOV2, eOV3, out_ok, out_exc, thn_nx, thn_ret, thn_exc, thn_brk, thn_cnt, thn_ite, ok_bindN, exc_bindN, bad_bindN, pure_okN, getE0, getEs, putE, noBrw, am, noBrwM, bo, rt, mp, binD, cmpD, cmpI, addI, subI, negI, eqD_int, truthD, notR, absI, lenL, List.map_cons, List.map_nil, List.length_cons, List.length_nil, List.replicate, List.cons_append, List.nil_append, List.set, decide_true, decide_false, Bool.not_true, Bool.not_false, if_true, if_false, Bool.true_and, Bool.and_true, reduceIte, Bool.false_eq_true, decide_eq_true_eq, Nat.reduceSub, Nat.reduceAdd, Nat.reduceLT, Nat.zero_add, ew]
          · rw [decide_eq_false c5] at ew
            rw [if_neg c5]
            have hk : z ∈ ks := by
              rcases oz.hd with y | y | y | y | y | y
              · exact absurd y c1
              · exact absurd y c2
              · exact absurd y c3
              · exact absurd y c4
              · exact absurd y c5
              · exact y
            have dx := ch_dix (boM m) ks h z hk
            have bo : mp boM (chD m ks h) = chD (boM m) ks h := mp_ch boM m ks h ok.2.2
            have e3 : evS T8 b8s3 [some (.str z), some (chD m ks h)] = evS T8 b8s4 [some (.str z), some (chD m ks h)] := by
              simp only [b8s3, bodyD_eq, res_nx, res_ret, res_exc, res_ite, eS1, eS2, eS3, eS4, eS5, eS6, eS7, eS8, eS9, eS10, eS11, eS12, eS13, eS14, eS15, eS16, eS17, eS18, eS19, eS20, eS21, eS22, eS23, eS24, eS25, eS26, eE1, eE2, eE3, eE4, eE5, eE6, eE7, eE8, eE9, eE10, eE11, eE12, eE13, eE14, eE15, eE16, eE17, eE18, eE19, eE20, eE21, eE22, eE23, eE24, eE25, eE26, eE27, eE28, eE29, eE30, eE31, eE32, eE33, eE34, eE35, eE36, eT1, eT2, eT3, eT4, eT5, eT6, eT7, eT8, eT9, eT10, eT11, eT12, eT13, eL1, eL2, eL3, eC1, eC2, eC3, eA1, eA2, eA3, eO1, eO2, eO3, eAV1, eAV2, eAV3, eOV1, eOV2, eOV3, out_ok, out_exc, thn_nx, thn_ret, thn_exc, thn_brk, thn_cnt, thn_ite, ok_bindN, exc_bindN, bad_bindN, pure_okN, getE0, getEs, putE, noBrw, am, noBrwM, bo, rt, mp, binD, cmpD, cmpI, addI, subI, negI, eqD_int, truthD, notR, absI, lenL, List.map_cons, List.map_nil, List.length_cons, List.length_nil, List.replicate, List.cons_append, List.nil_append, List.set, decide_true, decide_false, Bool.not_true, Bool.not_false, if_true, if_false, Bool.true_and, Bool.and_true, reduceIte, Bool.false_eq_true, decide_eq_true_eq, Nat.reduceSub, Nat.reduceAdd, Nat.reduceLT, Nat.zero_add, ew]
            have e4 : evE T8 (.ix (.var 1) (.var 0)) [some (.str z), some (chD m ks h)] = .ok (.str (h z)) := by
              rw [evE, evE, evE]
              show (Res.ok (mp boM (chD m ks h)) >>= fun x => Res.ok (mp boM (.str z)) >>= fun y => ixD x y) = _
              rw [bo, ok_bind, ok_bind]
              exact dx
            rw [e3, b8s4, seq_nop, ret_eq e4]
            rfl
theorem ev7 (m : Md) (ks : List Str) (h : Str → Str) (ok : okCh ks h) (z : Str) (oz : OA ks z) : f7.m [.str z, chD m ks h] = .ok (.str (hdOf h z)) := by
  have i0 : inD (.str z) (.tup [.str "*goods", .str ".within", .str ".stake"]) = .ok (decide (z ∈ HV)) := in_tup z HV
  have i1 : inD (.str z) (.tup [.str "*payout", .str ".fund", .str ".payout", .str ".yield"]) = .ok (decide (z ∈ OW)) := in_tup z OW
  have i2 : inD (.str z) (.tup [.str "*sales", .str "*cost", .str "*bridge", .str "*rounding", .str ".made", .str ".freed", .str ".income", .str ".outlay", .str ".bridge"]) = .ok (decide (z ∈ RS)) := in_tup z RS
  have lo3 : lineOk 3 = true := lineOk_le (by omega)
  have lo9 : lineOk 9 = true := lineOk_le (by omega)
  have sl := slStr z 5 (by have := oz.hi; omega)
  rw [show ((5 : Nat) : Int) = 5 from rfl] at sl
  have e5 : eqD (.str (L2.cutS z none (some (5 : Int)))) (.str ".due.") = .ok (decide (cut5 z = ".due.")) := eqD_str (cut5 z) ".due." (strOk_cut oz.ok 5) (by decide +kernel)
  have ew := eqD_str z "*within" oz.ok (by decide +kernel)
  simp only [f7, bodyD_eq, List.map_cons, List.map_nil, List.length_cons, List.length_nil, Nat.reduceSub, Nat.reduceAdd, List.replicate, List.cons_append, List.nil_append]
  by_cases c1 : z ∈ HV
  · rw [decide_eq_true c1] at i0
    unfold hdOf
    rw [if_pos (.inl c1)]
    simp only [b7, bodyD_eq, res_nx, res_ret, res_exc, res_ite, eS1, eS2, eS3, eS4, eS5, eS6, eS7, eS8, eS9, eS10, eS11, eS12, eS13, eS14, eS15, eS16, eS17, eS18, eS19, eS20, eS21, eS22, eS23, eS24, eS25, eS26, eE1, eE2, eE3, eE4, eE5, eE6, eE7, eE8, eE9, eE10, eE11, eE12, eE13, eE14, eE15, eE16, eE17, eE18, eE19, eE20, eE21, eE22, eE23, eE24, eE25, eE26, eE27, eE28, eE29, eE30, eE31, eE32, eE33, eE34, eE35, eE36, eT1, eT2, eT3, eT4, eT5, eT6, eT7, eT8, eT9, eT10, eT11, eT12, eT13, eL1, eL2, eL3, eC1, eC2, eC3, eA1, eA2, eA3, eO1, eO2, eO3, eAV1, eAV2, eAV3, eOV1, eOV2, eOV3, out_ok, out_exc, thn_nx, thn_ret, thn_exc, thn_brk, thn_cnt, thn_ite, ok_bindN, exc_bindN, bad_bindN, pure_okN, getE0, getEs, putE, noBrw, am, noBrwM, bo, rt, mp, binD, cmpD, cmpI, addI, subI, negI, eqD_int, truthD, notR, absI, lenL, List.map_cons, List.map_nil, List.length_cons, List.length_nil, List.replicate, List.cons_append, List.nil_append, List.set, decide_true, decide_false, Bool.not_true, Bool.not_false, if_true, if_false, Bool.true_and, Bool.and_true, reduceIte, Bool.false_eq_true, decide_eq_true_eq, Nat.reduceSub, Nat.reduceAdd, Nat.reduceLT, Nat.zero_add, oneOpt, mpL, lo3, i0]
  · rw [decide_eq_false c1] at i0
    by_cases c2 : cut5 z = ".due."
    · rw [decide_eq_true c2] at e5
      unfold hdOf
      rw [if_pos (.inr c2)]
      simp only [b7, bodyD_eq, res_nx, res_ret, res_exc, res_ite, eS1, eS2, eS3, eS4, eS5, eS6, eS7, eS8, eS9, eS10, eS11, eS12, eS13, eS14, eS15, eS16, eS17, eS18, eS19, eS20, eS21, eS22, eS23, eS24, eS25, eS26, eE1, eE2, eE3, eE4, eE5, eE6, eE7, eE8, eE9, eE10, eE11, eE12, eE13, eE14, eE15, eE16, eE17, eE18, eE19, eE20, eE21, eE22, eE23, eE24, eE25, eE26, eE27, eE28, eE29, eE30, eE31, eE32, eE33, eE34, eE35, eE36, eT1, eT2, eT3, eT4, eT5, eT6, eT7, eT8, eT9, eT10, eT11, eT12, eT13, eL1, eL2, eL3, eC1, eC2, eC3, eA1, eA2, eA3, eO1, eO2, eO3, eAV1, eAV2, eAV3, eOV1, eOV2, eOV3, out_ok, out_exc, thn_nx, thn_ret, thn_exc, thn_brk, thn_cnt, thn_ite, ok_bindN, exc_bindN, bad_bindN, pure_okN, getE0, getEs, putE, noBrw, am, noBrwM, bo, rt, mp, binD, cmpD, cmpI, addI, subI, negI, eqD_int, truthD, notR, absI, lenL, List.map_cons, List.map_nil, List.length_cons, List.length_nil, List.replicate, List.cons_append, List.nil_append, List.set, decide_true, decide_false, Bool.not_true, Bool.not_false, if_true, if_false, Bool.true_and, Bool.and_true, reduceIte, Bool.false_eq_true, decide_eq_true_eq, Nat.reduceSub, Nat.reduceAdd, Nat.reduceLT, Nat.zero_add, oneOpt, mpL, lo3, i0, sl, e5]
    · rw [decide_eq_false c2] at e5
      unfold hdOf
      rw [if_neg (fun y => y.elim c1 c2)]
      have s1 : evS T7 b7 [some (.str z), some (chD m ks h)] = evS T7 b7s1 [some (.str z), some (chD m ks h)] := by
        simp only [b7, bodyD_eq, res_nx, res_ret, res_exc, res_ite, eS1, eS2, eS3, eS4, eS5, eS6, eS7, eS8, eS9, eS10, eS11, eS12, eS13, eS14, eS15, eS16, eS17, eS18, eS19, eS20, eS21, eS22, eS23, eS24, eS25, eS26, eE1, eE2, eE3, eE4, eE5, eE6, eE7, eE8, eE9, eE10, eE11, eE12, eE13, eE14, eE15, eE16, eE17, eE18, eE19, eE20, eE21, eE22, eE23, eE24, eE25, eE26, eE27, eE28, eE29, eE30, eE31, eE32, eE33, eE34, eE35, eE36, eT1, eT2, eT3, eT4, eT5, eT6, eT7, eT8, eT9, eT10, eT11, eT12, eT13, eL1, eL2, eL3, eC1, eC2, eC3, eA1, eA2, eA3, eO1, eO2, eO3, eAV1, eAV2, eAV3, eOV1, eOV2, eOV3, out_ok, out_exc, thn_nx, thn_ret, thn_exc, thn_brk, thn_cnt, thn_ite, ok_bindN, exc_bindN, bad_bindN, pure_okN, getE0, getEs, putE, noBrw, am, noBrwM, bo, rt, mp, binD, cmpD, cmpI, addI, subI, negI, eqD_int, truthD, notR, absI, lenL, List.map_cons, List.map_nil, List.length_cons, List.length_nil, List.replicate, List.cons_append, List.nil_append, List.set, decide_true, decide_false, Bool.not_true, Bool.not_false, if_true, if_false, Bool.true_and, Bool.and_true, reduceIte, Bool.false_eq_true, decide_eq_true_eq, Nat.reduceSub, Nat.reduceAdd, Nat.reduceLT, Nat.zero_add, oneOpt, mpL, lo3, i0, sl, e5]
      rw [s1]
      by_cases c3 : z ∈ OW
      · rw [decide_eq_true c3] at i1
        rw [if_pos c3]
        simp only [b7s1, bodyD_eq, res_nx, res_ret, res_exc, res_ite, eS1, eS2, eS3, eS4, eS5, eS6, eS7, eS8, eS9, eS10, eS11, eS12, eS13, eS14, eS15, eS16, eS17, eS18, eS19, eS20, eS21, eS22, eS23, eS24, eS25, eS26, eE1, eE2, eE3, eE4, eE5, eE6, eE7, eE8, eE9, eE10, eE11, eE12, eE13, eE14, eE15, eE16, eE17, eE18, eE19, eE20, eE21, eE22, eE23, eE24, eE25, eE26, eE27, eE28, eE29, eE30, eE31, eE32, eE33, eE34, eE35, eE36, eT1, eT2, eT3, eT4, eT5, eT6, eT7, eT8, eT9, eT10, eT11, eT12, eT13, eL1, eL2, eL3, eC1, eC2, eC3, eA1, eA2, eA3, eO1, eO2, eO3, eAV1, eAV2, eAV3, eOV1, eOV2, eOV3, out_ok, out_exc, thn_nx, thn_ret, thn_exc, thn_brk, thn_cnt, thn_ite, ok_bindN, exc_bindN, bad_bindN, pure_okN, getE0, getEs, putE, noBrw, am, noBrwM, bo, rt, mp, binD, cmpD, cmpI, addI, subI, negI, eqD_int, truthD, notR, absI, lenL, List.map_cons, List.map_nil, List.length_cons, List.length_nil, List.replicate, List.cons_append, List.nil_append, List.set, decide_true, decide_false, Bool.not_true, Bool.not_false, if_true, if_false, Bool.true_and, Bool.and_true, reduceIte, Bool.false_eq_true, decide_eq_true_eq, Nat.reduceSub, Nat.reduceAdd, Nat.reduceLT, Nat.zero_add, mpL, lo4, i1]
      · rw [decide_eq_false c3] at i1
        rw [if_neg c3]
        have s2 : evS T7 b7s1 [some (.str z), some (chD m ks h)] = evS T7 b7s2 [some (.str z), some (chD m ks h)] := by
          simp only [b7s1, bodyD_eq, res_nx, res_ret, res_exc, res_ite, eS1, eS2, eS3, eS4, eS5, eS6, eS7, eS8, eS9, eS10, eS11, eS12, eS13, eS14, eS15, eS16, eS17, eS18, eS19, eS20, eS21, eS22, eS23, eS24, eS25, eS26, eE1, eE2, eE3, eE4, eE5, eE6, eE7, eE8, eE9, eE10, eE11, eE12, eE13, eE14, eE15, eE16, eE17, eE18, eE19, eE20, eE21, eE22, eE23, eE24, eE25, eE26, eE27, eE28, eE29, eE30, eE31, eE32, eE33, eE34, eE35, eE36, eT1, eT2, eT3, eT4, eT5, eT6, eT7, eT8, eT9, eT10, eT11, eT12, eT13, eL1, eL2, eL3, eC1, eC2, eC3, eA1, eA2, eA3, eO1, eO2, eO3, eAV1, eAV2, eAV3, eOV1, eOV2, eOV3, out_ok, out_exc, thn_nx, thn_ret, thn_exc, thn_brk, thn_cnt, thn_ite, ok_bindN, exc_bindN, bad_bindN, pure_okN, getE0, getEs, putE, noBrw, am, noBrwM, bo, rt, mp, binD, cmpD, cmpI, addI, subI, negI, eqD_int, truthD, notR, absI, lenL, List.map_cons, List.map_nil, List.length_cons, List.length_nil, List.replicate, List.cons_append, List.nil_append, List.set, decide_true, decide_false, Bool.not_true, Bool.not_false, if_true, if_false, Bool.true_and, Bool.and_true, reduceIte, Bool.false_eq_true, decide_eq_true_eq, Nat.reduceSub, Nat.reduceAdd, Nat.reduceLT, Nat.zero_add, mpL, lo4, i1]
        rw [s2]
        by_cases c4 : z ∈ RS
        · rw [decide_eq_true c4] at i2
          rw [if_pos c4]
          simp only [b7s2, bodyD_eq, res_nx, res_ret, res_exc, res_ite, eS1, eS2, eS3, eS4, eS5, eS6, eS7, eS8, eS9, eS10, eS11, eS12, eS13, eS14, eS15, eS16, eS17, eS18, eS19, eS20, eS21, eS22, eS23, eS24, eS25, eS26, eE1, eE2, eE3, eE4, eE5, eE6, eE7, eE8, eE9, eE10, eE11, eE12, eE13, eE14, eE15, eE16, eE17, eE18, eE19, eE20, eE21, eE22, eE23, eE24, eE25, eE26, eE27, eE28, eE29, eE30, eE31, eE32, eE33, eE34, eE35, eE36, eT1, eT2, eT3, eT4, eT5, eT6, eT7, eT8, eT9, eT10, eT11, eT12, eT13, eL1, eL2, eL3, eC1, eC2, eC3, eA1, eA2, eA3, eO1, eO2, eO3, eAV1, eAV2, eAV3, eOV1, eOV2, eOV3, out_ok, out_exc, thn_nx, thn_ret, thn_exc, thn_brk, thn_cnt, thn_ite, ok_bindN, exc_bindN, bad_bindN, pure_okN, getE0, getEs, putE, noBrw, am, noBrwM, bo, rt, mp, binD, cmpD, cmpI, addI, subI, negI, eqD_int, truthD, notR, absI, lenL, List.map_cons, List.map_nil, List.length_cons, List.length_nil, List.replicate, List.cons_append, List.nil_append, List.set, decide_true, decide_false, Bool.not_true, Bool.not_false, if_true, if_false, Bool.true_and, Bool.and_true, reduceIte, Bool.false_eq_true, decide_eq_true_eq, Nat.reduceSub, Nat.reduceAdd, Nat.reduceLT, Nat.zero_add, mpL, lo9, i2]
        · rw [decide_eq_false c4] at i2
          rw [if_neg c4]
          have s3 : evS T7 b7s2 [some (.str z), some (chD m ks h)] = evS T7 b7s3 [some (.str z), some (chD m ks h)] := by
            simp only [b7s2, bodyD_eq, res_nx, res_ret, res_exc, res_ite, eS1, eS2, eS3, eS4, eS5, eS6, eS7, eS8, eS9, eS10, eS11, eS12, eS13, eS14, eS15, eS16, eS17, eS18, eS19, eS20, eS21, eS22, eS23, eS24, eS25, eS26, eE1, eE2, eE3, eE4, eE5, eE6, eE7, eE8, eE9, eE10, eE11, eE12, eE13, eE14, eE15, eE16, eE17, eE18, eE19, eE20, eE21, eE22, eE23, eE24, eE25, eE26, eE27, eE28, eE29, eE30, eE31, eE32, eE33, eE34, eE35, eE36, eT1, eT2, eT3, eT4, eT5, eT6, eT7, eT8, eT9, eT10, eT11, eT12, eT13, eL1, eL2, eL3, eC1, eC2, eC3, eA1, eA2, eA3, eO1, eO2, eO3, eAV1, eAV2, eAV3, eOV1, eOV2, eOV3, out_ok, out_exc, thn_nx, thn_ret, thn_exc, thn_brk, thn_cnt, thn_ite, ok_bindN, exc_bindN, bad_bindN, pure_okN, getE0, getEs, putE, noBrw, am, noBrwM, bo, rt, mp, binD, cmpD, cmpI, addI, subI, negI, eqD_int, truthD, notR, absI, lenL, List.map_cons, List.map_nil, List.length_cons, List.length_nil, List.replicate, List.cons_append, List.nil_append, List.set, decide_true, decide_false, Bool.not_true, Bool.not_false, if_true, if_false, Bool.true_and, Bool.and_true, reduceIte, Bool.false_eq_true, decide_eq_true_eq, Nat.reduceSub, Nat.reduceAdd, Nat.reduceLT, Nat.zero_add, mpL, lo9, i2]
          rw [s3]
          by_cases c5 : z = "*within"
          · rw [decide_eq_true c5] at ew
            rw [if_pos c5]
            simp only [b7s3, bodyD_eq, res_nx, res_ret, res_exc, res_ite, eS1, eS2, eS3, eS4, eS5, eS6, eS7, eS8, eS9, eS10, eS11, eS12, eS13, eS14, eS15, eS16, eS17, eS18, eS19, eS20, eS21, eS22, eS23, eS24, eS25, eS26, eE1, eE2, eE3, eE4, eE5, eE6, eE7, eE8, eE9, eE10, eE11, eE12, eE13, eE14, eE15, eE16, eE17, eE18, eE19, eE20, eE21, eE22, eE23, eE24, eE25, eE26, eE27, eE28, eE29, eE30, eE31, eE32, eE33, eE34, eE35, eE36, eT1, eT2, eT3, eT4, eT5, eT6, eT7, eT8, eT9, eT10, eT11, eT12, eT13, eL1, eL2, eL3, eC1, eC2, eC3, eA1, eA2, eA3, eO1, eO2, eO3, eAV1, eAV2, eAV3, eOV1, eOV2, eOV3, out_ok, out_exc, thn_nx, thn_ret, thn_exc, thn_brk, thn_cnt, thn_ite, ok_bindN, exc_bindN, bad_bindN, pure_okN, getE0, getEs, putE, noBrw, am, noBrwM, bo, rt, mp, binD, cmpD, cmpI, addI, subI, negI, eqD_int, truthD, notR, absI, lenL, List.map_cons, List.map_nil, List.length_cons, List.length_nil, List.replicate, List.cons_append, List.nil_append, List.set, decide_true, decide_false, Bool.not_true, Bool.not_false, if_true, if_false, Bool.true_and, Bool.and_true, reduceIte, Bool.false_eq_true, decide_eq_true_eq, Nat.reduceSub, Nat.reduceAdd, Nat.reduceLT, Nat.zero_add, ew]
          · rw [decide_eq_false c5] at ew
            rw [if_neg c5]
            have hk : z ∈ ks := by
              rcases oz.hd with y | y | y | y | y | y
              · exact absurd y c1
              · exact absurd y c2
              · exact absurd y c3
              · exact absurd y c4
              · exact absurd y c5
              · exact y
            have dx := ch_dix (boM m) ks h z hk
            have bo : mp boM (chD m ks h) = chD (boM m) ks h := mp_ch boM m ks h ok.2.2
            have e3 : evS T7 b7s3 [some (.str z), some (chD m ks h)] = evS T7 b7s4 [some (.str z), some (chD m ks h)] := by
              simp only [b7s3, bodyD_eq, res_nx, res_ret, res_exc, res_ite, eS1, eS2, eS3, eS4, eS5, eS6, eS7, eS8, eS9, eS10, eS11, eS12, eS13, eS14, eS15, eS16, eS17, eS18, eS19, eS20, eS21, eS22, eS23, eS24, eS25, eS26, eE1, eE2, eE3, eE4, eE5, eE6, eE7, eE8, eE9, eE10, eE11, eE12, eE13, eE14, eE15, eE16, eE17, eE18, eE19, eE20, eE21, eE22, eE23, eE24, eE25, eE26, eE27, eE28, eE29, eE30, eE31, eE32, eE33, eE34, eE35, eE36, eT1, eT2, eT3, eT4, eT5, eT6, eT7, eT8, eT9, eT10, eT11, eT12, eT13, eL1, eL2, eL3, eC1, eC2, eC3, eA1, eA2, eA3, eO1, eO2, eO3, eAV1, eAV2, eAV3, eOV1, eOV2, eOV3, out_ok, out_exc, thn_nx, thn_ret, thn_exc, thn_brk, thn_cnt, thn_ite, ok_bindN, exc_bindN, bad_bindN, pure_okN, getE0, getEs, putE, noBrw, am, noBrwM, bo, rt, mp, binD, cmpD, cmpI, addI, subI, negI, eqD_int, truthD, notR, absI, lenL, List.map_cons, List.map_nil, List.length_cons, List.length_nil, List.replicate, List.cons_append, List.nil_append, List.set, decide_true, decide_false, Bool.not_true, Bool.not_false, if_true, if_false, Bool.true_and, Bool.and_true, reduceIte, Bool.false_eq_true, decide_eq_true_eq, Nat.reduceSub, Nat.reduceAdd, Nat.reduceLT, Nat.zero_add, ew]
            have e4 : evE T7 (.ix (.var 1) (.var 0)) [some (.str z), some (chD m ks h)] = .ok (.str (h z)) := by
              rw [evE, evE, evE]
              show (Res.ok (mp boM (chD m ks h)) >>= fun x => Res.ok (mp boM (.str z)) >>= fun y => ixD x y) = _
              rw [bo, ok_bind, ok_bind]
              exact dx
            rw [e3, b7s4, seq_nop, ret_eq e4]
            rfl
theorem cl8 (m : Md) (hm : shM m = .shr) (ks : List Str) (h : Str → Str) (ok : okCh ks h) (z : Str) (oz : OA ks z) : callD f8 [.str z, chD m ks h] = .ok (.str (hdOf h z)) := call_ok rfl (by
  show f8.m [.str z, mp shM (chD m ks h)] = _
  rw [mp_ch shM m ks h ok.2.2, hm]
  exact ev8 .shr ks h ok z oz) (Bool.or_true _)
theorem cl7 (m : Md) (hm : shM m = .shr) (ks : List Str) (h : Str → Str) (ok : okCh ks h) (z : Str) (oz : OA ks z) : callD f7 [.str z, chD m ks h] = .ok (.str (hdOf h z)) := call_ok rfl (by
  show f7.m [.str z, mp shM (chD m ks h)] = _
  rw [mp_ch shM m ks h ok.2.2, hm]
  exact ev7 .shr ks h ok z oz) (Bool.or_true _)
theorem ev5 (z : Str) (hz : strOk z = true) : f5.m [.str z, .str z] = .ok (.bl true) := by
  have e := eqD_str z z hz hz
  have is : isiD (.str z) "str" = .ok true := rfl
  simp only [f5, b5, bodyD_eq, res_nx, res_ret, res_exc, res_ite, eS1, eS2, eS3, eS4, eS5, eS6, eS7, eS8, eS9, eS10, eS11, eS12, eS13, eS14, eS15, eS16, eS17, eS18, eS19, eS20, eS21, eS22, eS23, eS24, eS25, eS26, eE1, eE2, eE3, eE4, eE5, eE6, eE7, eE8, eE9, eE10, eE11, eE12, eE13, eE14, eE15, eE16, eE17, eE18, eE19, eE20, eE21, eE22, eE23, eE24, eE25, eE26, eE27, eE28, eE29, eE30, eE31, eE32, eE33, eE34, eE35, eE36, eT1, eT2, eT3, eT4, eT5, eT6, eT7, eT8, eT9, eT10, eT11, eT12, eT13, eL1, eL2, eL3, eC1, eC2, eC3, eA1, eA2, eA3, eO1, eO2, eO3, eAV1, eAV2, eAV3, eOV1, eOV2, eOV3, out_ok, out_exc, thn_nx, thn_ret, thn_exc, thn_brk, thn_cnt, thn_ite, ok_bindN, exc_bindN, bad_bindN, pure_okN, getE0, getEs, putE, noBrw, am, noBrwM, bo, rt, mp, binD, cmpD, cmpI, addI, subI, negI, eqD_int, truthD, notR, absI, lenL, List.map_cons, List.map_nil, List.length_cons, List.length_nil, List.replicate, List.cons_append, List.nil_append, List.set, decide_true, decide_false, Bool.not_true, Bool.not_false, if_true, if_false, Bool.true_and, Bool.and_true, reduceIte, Bool.false_eq_true, decide_eq_true_eq, Nat.reduceSub, Nat.reduceAdd, Nat.reduceLT, Nat.zero_add, is, e]
theorem cl5 (z : Str) (hz : strOk z = true) : callD f5 [.str z, .str z] = .ok (.bl true) := call_ok rfl (ev5 z hz) rfl
def wh (z : Str) : Str := if cut1 z = "." then "*within" else z
theorem ev6f (z : Str) : f6.m [.str z, .bl false] = .ok (.str z) := by
  simp only [f6, b6, b6s1, bodyD_eq, res_nx, res_ret, res_exc, res_ite, eS1, eS2, eS3, eS4, eS5, eS6, eS7, eS8, eS9, eS10, eS11, eS12, eS13, eS14, eS15, eS16, eS17, eS18, eS19, eS20, eS21, eS22, eS23, eS24, eS25, eS26, eE1, eE2, eE3, eE4, eE5, eE6, eE7, eE8, eE9, eE10, eE11, eE12, eE13, eE14, eE15, eE16, eE17, eE18, eE19, eE20, eE21, eE22, eE23, eE24, eE25, eE26, eE27, eE28, eE29, eE30, eE31, eE32, eE33, eE34, eE35, eE36, eT1, eT2, eT3, eT4, eT5, eT6, eT7, eT8, eT9, eT10, eT11, eT12, eT13, eL1, eL2, eL3, eC1, eC2, eC3, eA1, eA2, eA3, eO1, eO2, eO3, eAV1, eAV2, eAV3, eOV1, eOV2, eOV3, out_ok, out_exc, thn_nx, thn_ret, thn_exc, thn_brk, thn_cnt, thn_ite, ok_bindN, exc_bindN, bad_bindN, pure_okN, getE0, getEs, putE, noBrw, am, noBrwM, bo, rt, mp, binD, cmpD, cmpI, addI, subI, negI, eqD_int, truthD, notR, absI, lenL, List.map_cons, List.map_nil, List.length_cons, List.length_nil, List.replicate, List.cons_append, List.nil_append, List.set, decide_true, decide_false, Bool.not_true, Bool.not_false, if_true, if_false, Bool.true_and, Bool.and_true, reduceIte, Bool.false_eq_true, decide_eq_true_eq, Nat.reduceSub, Nat.reduceAdd, Nat.reduceLT, Nat.zero_add]
theorem ev6t (z : Str) (hz : strOk z = true) (hl : z.length ≤ 1000) : f6.m [.str z, .bl true] = .ok (.str (wh z)) := by
  have sl := slStr z 1 (by omega)
  rw [show ((1 : Nat) : Int) = 1 from rfl] at sl
  have e1 : eqD (.str (L2.cutS z none (some (1 : Int)))) (.str ".") = .ok (decide (cut1 z = ".")) := eqD_str (cut1 z) "." (strOk_cut hz 1) (by decide +kernel)
  unfold wh
  simp only [f6, bodyD_eq, List.map_cons, List.map_nil, List.length_cons, List.length_nil, Nat.reduceSub, Nat.reduceAdd, List.replicate, List.cons_append, List.nil_append]
  by_cases c : cut1 z = "."
  · rw [decide_eq_true c] at e1
    rw [if_pos c]
    simp only [b6, bodyD_eq, res_nx, res_ret, res_exc, res_ite, eS1, eS2, eS3, eS4, eS5, eS6, eS7, eS8, eS9, eS10, eS11, eS12, eS13, eS14, eS15, eS16, eS17, eS18, eS19, eS20, eS21, eS22, eS23, eS24, eS25, eS26, eE1, eE2, eE3, eE4, eE5, eE6, eE7, eE8, eE9, eE10, eE11, eE12, eE13, eE14, eE15, eE16, eE17, eE18, eE19, eE20, eE21, eE22, eE23, eE24, eE25, eE26, eE27, eE28, eE29, eE30, eE31, eE32, eE33, eE34, eE35, eE36, eT1, eT2, eT3, eT4, eT5, eT6, eT7, eT8, eT9, eT10, eT11, eT12, eT13, eL1, eL2, eL3, eC1, eC2, eC3, eA1, eA2, eA3, eO1, eO2, eO3, eAV1, eAV2, eAV3, eOV1, eOV2, eOV3, out_ok, out_exc, thn_nx, thn_ret, thn_exc, thn_brk, thn_cnt, thn_ite, ok_bindN, exc_bindN, bad_bindN, pure_okN, getE0, getEs, putE, noBrw, am, noBrwM, bo, rt, mp, binD, cmpD, cmpI, addI, subI, negI, eqD_int, truthD, notR, absI, lenL, List.map_cons, List.map_nil, List.length_cons, List.length_nil, List.replicate, List.cons_append, List.nil_append, List.set, decide_true, decide_false, Bool.not_true, Bool.not_false, if_true, if_false, Bool.true_and, Bool.and_true, reduceIte, Bool.false_eq_true, decide_eq_true_eq, Nat.reduceSub, Nat.reduceAdd, Nat.reduceLT, Nat.zero_add, oneOpt, sl, e1]
  · rw [decide_eq_false c] at e1
    rw [if_neg c]
    simp only [b6, bodyD_eq, res_nx, res_ret, res_exc, res_ite, eS1, eS2, eS3, eS4, eS5, eS6, eS7, eS8, eS9, eS10, eS11, eS12, eS13, eS14, eS15, eS16, eS17, eS18, eS19, eS20, eS21, eS22, eS23, eS24, eS25, eS26, eE1, eE2, eE3, eE4, eE5, eE6, eE7, eE8, eE9, eE10, eE11, eE12, eE13, eE14, eE15, eE16, eE17, eE18, eE19, eE20, eE21, eE22, eE23, eE24, eE25, eE26, eE27, eE28, eE29, eE30, eE31, eE32, eE33, eE34, eE35, eE36, eT1, eT2, eT3, eT4, eT5, eT6, eT7, eT8, eT9, eT10, eT11, eT12, eT13, eL1, eL2, eL3, eC1, eC2, eC3, eA1, eA2, eA3, eO1, eO2, eO3, eAV1, eAV2, eAV3, eOV1, eOV2, eOV3, out_ok, out_exc, thn_nx, thn_ret, thn_exc, thn_brk, thn_cnt, thn_ite, ok_bindN, exc_bindN, bad_bindN, pure_okN, getE0, getEs, putE, noBrw, am, noBrwM, bo, rt, mp, binD, cmpD, cmpI, addI, subI, negI, eqD_int, truthD, notR, absI, lenL, List.map_cons, List.map_nil, List.length_cons, List.length_nil, List.replicate, List.cons_append, List.nil_append, List.set, decide_true, decide_false, Bool.not_true, Bool.not_false, if_true, if_false, Bool.true_and, Bool.and_true, reduceIte, Bool.false_eq_true, decide_eq_true_eq, Nat.reduceSub, Nat.reduceAdd, Nat.reduceLT, Nat.zero_add, oneOpt, sl, e1]
    simp only [b6s1, bodyD_eq, res_nx, res_ret, res_exc, res_ite, eS1, eS2, eS3, eS4, eS5, eS6, eS7, eS8, eS9, eS10, eS11, eS12, eS13, eS14, eS15, eS16, eS17, eS18, eS19, eS20, eS21, eS22, eS23, eS24, eS25, eS26, eE1, eE2, eE3, eE4, eE5, eE6, eE7, eE8, eE9, eE10, eE11, eE12, eE13, eE14, eE15, eE16, eE17, eE18, eE19, eE20, eE21, eE22, eE23, eE24, eE25, eE26, eE27, eE28, eE29, eE30, eE31, eE32, eE33, eE34, eE35, eE36, eT1, eT2, eT3, eT4, eT5, eT6, eT7, eT8, eT9, eT10, eT11, eT12, eT13, eL1, eL2, eL3, eC1, eC2, eC3, eA1, eA2, eA3, eO1, eO2, eO3, eAV1, eAV2, eAV3, eOV1, eOV2, eOV3, out_ok, out_exc, thn_nx, thn_ret, thn_exc, thn_brk, thn_cnt, thn_ite, ok_bindN, exc_bindN, bad_bindN, pure_okN, getE0, getEs, putE, noBrw, am, noBrwM, bo, rt, mp, binD, cmpD, cmpI, addI, subI, negI, eqD_int, truthD, notR, absI, lenL, List.map_cons, List.map_nil, List.length_cons, List.length_nil, List.replicate, List.cons_append, List.nil_append, List.set, decide_true, decide_false, Bool.not_true, Bool.not_false, if_true, if_false, Bool.true_and, Bool.and_true, reduceIte, Bool.false_eq_true, decide_eq_true_eq, Nat.reduceSub, Nat.reduceAdd, Nat.reduceLT, Nat.zero_add]
theorem cl6d (z : Str) : callD f6 [.str z] = .ok (.str z) := call_ok rfl (ev6f z) rfl
theorem cl6f (z : Str) : callD f6 [.str z, .bl false] = .ok (.str z) := call_ok rfl (ev6f z) rfl
theorem cl6t (z : Str) (hz : strOk z = true) (hl : z.length ≤ 1000) : callD f6 [.str z, .bl true] = .ok (.str (wh z)) := call_ok rfl (ev6t z hz hl) rfl
theorem wh_ok {ks : List Str} {z : Str} (oz : OA ks z) : OA ks (wh z) := by
  unfold wh
  split
  · exact ⟨by decide +kernel, by decide +kernel, by decide +kernel, .inr (.inr (.inr (.inr (.inl rfl))))⟩
  · exact oz
theorem ev9 (ks : List Str) (h : Str → Str) (ok : okCh ks h) (z : Str) (oz : OA ks z) : f9.m [.str z, chD .shr ks h] = .ok (.bl true) := by
  have lz := oz.hi
  have fs := first_sign oz.lo (by omega : z.length ≤ 1000000)
  have e1 : eqD (.str (L2.cutS z none (some ((1 : Nat) : Int)))) (.str ".") = .ok (decide (cut1 z = ".")) := eqD_str (cut1 z) "." (strOk_cut oz.ok 1) (by decide +kernel)
  have k6d := cl6d z
  have k6f := cl6f z
  have k6t := cl6t z oz.ok (by omega)
  have k5 := cl5 z oz.ok
  have ow := wh_ok oz
  have k5w := cl5 (wh z) ow.ok
  have k8 := cl8 .brw rfl ks h ok z oz
  have k7 := cl7 .shr rfl ks h ok z oz
  have k8w := cl8 .brw rfl ks h ok (wh z) ow
  have k7w := cl7 .shr rfl ks h ok (wh z) ow
  have k5h := cl5 _ (hd_ok ok z)
  have k5hw := cl5 _ (hd_ok ok (wh z))
  have cp := ch_cpy .shr ks h ok.2.2
  have eq := ch_eq .brw .shr ks h ok.2.1
  have bs : mp boM (chD .shr ks h) = chD .shr ks h := mp_ch boM .shr ks h ok.2.2
  have bo : mp boM (chD .own ks h) = chD .brw ks h := mp_ch boM .own ks h ok.2.2
  have nb : am noBrwM (chD .own ks h) = true := am_ch noBrwM .own ks h ok.2.2
  generalize chD .shr ks h = C0 at *
  generalize chD .own ks h = C1 at *
  generalize chD .brw ks h = C2 at *
  simp only [f9, bodyD_eq, List.map_cons, List.map_nil, List.length_cons, List.length_nil, Nat.reduceSub, Nat.reduceAdd, List.replicate, List.cons_append, List.nil_append]
  simp only [b9, bodyD_eq, res_nx, res_ret, res_exc, res_ite, eS1, eS2, eS3, eS4, eS5, eS6, eS7, eS8, eS9, eS10, eS11, eS12, eS13, eS14, eS15, eS16, eS17, eS18, eS19, eS20, eS21, eS22, eS23, eS24, eS25, eS26, eE1, eE2, eE3, eE4, eE5, eE6, eE7, eE8, eE9, eE10, eE11, eE12, eE13, eE14, eE15, eE16, eE17, eE18, eE19, eE20, eE21, eE22, eE23, eE24, eE25, eE26, eE27, eE28, eE29, eE30, eE31, eE32, eE33, eE34, eE35, eE36, eT1, eT2, eT3, eT4, eT5, eT6, eT7, eT8, eT9, eT10, eT11, eT12, eT13, eL1, eL2, eL3, eC1, eC2, eC3, eA1, eA2, eA3, eO1, eO2, eO3, eAV1, eAV2, eAV3, eOV1, eOV2, eOV3, out_ok, out_exc, thn_nx, thn_ret, thn_exc, thn_brk, thn_cnt, thn_ite, ok_bindN, exc_bindN, bad_bindN, pure_okN, getE0, getEs, putE, noBrw, am, noBrwM, bo, rt, mp, binD, cmpD, cmpI, addI, subI, negI, eqD_int, truthD, notR, absI, lenL, List.map_cons, List.map_nil, List.length_cons, List.length_nil, List.replicate, List.cons_append, List.nil_append, List.set, decide_true, decide_false, Bool.not_true, Bool.not_false, if_true, if_false, Bool.true_and, Bool.and_true, reduceIte, Bool.false_eq_true, decide_eq_true_eq, Nat.reduceSub, Nat.reduceAdd, Nat.reduceLT, Nat.zero_add]
  have s1 : evS T9 b9s1 [some (.str z), some C0, some (.str z), none] = evS T9 b9s2 [some (.str z), some C0, some (.str (wh z)), none] := by
    unfold wh
    by_cases c : cut1 z = "."
    · rw [decide_eq_true c] at e1
      rw [if_pos c]
      simp only [b9s1, bodyD_eq, res_nx, res_ret, res_exc, res_ite, eS1, eS2, eS3, eS4, eS5, eS6, eS7, eS8, eS9, eS10, eS11, eS12, eS13, eS14, eS15, eS16, eS17, eS18, eS19, eS20, eS21, eS22, eS23, eS24, eS25, eS26, eE1, eE2, eE3, eE4, eE5, eE6, eE7, eE8, eE9, eE10, eE11, eE12, eE13, eE14, eE15, eE16, eE17, eE18, eE19, eE20, eE21, eE22, eE23, eE24, eE25, eE26, eE27, eE28, eE29, eE30, eE31, eE32, eE33, eE34, eE35, eE36, eT1, eT2, eT3, eT4, eT5, eT6, eT7, eT8, eT9, eT10, eT11, eT12, eT13, eL1, eL2, eL3, eC1, eC2, eC3, eA1, eA2, eA3, eO1, eO2, eO3, eAV1, eAV2, eAV3, eOV1, eOV2, eOV3, out_ok, out_exc, thn_nx, thn_ret, thn_exc, thn_brk, thn_cnt, thn_ite, ok_bindN, exc_bindN, bad_bindN, pure_okN, getE0, getEs, putE, noBrw, am, noBrwM, bo, rt, mp, binD, cmpD, cmpI, addI, subI, negI, eqD_int, truthD, notR, absI, lenL, List.map_cons, List.map_nil, List.length_cons, List.length_nil, List.replicate, List.cons_append, List.nil_append, List.set, decide_true, decide_false, Bool.not_true, Bool.not_false, if_true, if_false, Bool.true_and, Bool.and_true, reduceIte, Bool.false_eq_true, decide_eq_true_eq, Nat.reduceSub, Nat.reduceAdd, Nat.reduceLT, Nat.zero_add, fs, e1]
    · rw [decide_eq_false c] at e1
      rw [if_neg c]
      simp only [b9s1, bodyD_eq, res_nx, res_ret, res_exc, res_ite, eS1, eS2, eS3, eS4, eS5, eS6, eS7, eS8, eS9, eS10, eS11, eS12, eS13, eS14, eS15, eS16, eS17, eS18, eS19, eS20, eS21, eS22, eS23, eS24, eS25, eS26, eE1, eE2, eE3, eE4, eE5, eE6, eE7, eE8, eE9, eE10, eE11, eE12, eE13, eE14, eE15, eE16, eE17, eE18, eE19, eE20, eE21, eE22, eE23, eE24, eE25, eE26, eE27, eE28, eE29, eE30, eE31, eE32, eE33, eE34, eE35, eE36, eT1, eT2, eT3, eT4, eT5, eT6, eT7, eT8, eT9, eT10, eT11, eT12, eT13, eL1, eL2, eL3, eC1, eC2, eC3, eA1, eA2, eA3, eO1, eO2, eO3, eAV1, eAV2, eAV3, eOV1, eOV2, eOV3, out_ok, out_exc, thn_nx, thn_ret, thn_exc, thn_brk, thn_cnt, thn_ite, ok_bindN, exc_bindN, bad_bindN, pure_okN, getE0, getEs, putE, noBrw, am, noBrwM, bo, rt, mp, binD, cmpD, cmpI, addI, subI, negI, eqD_int, truthD, notR, absI, lenL, List.map_cons, List.map_nil, List.length_cons, List.length_nil, List.replicate, List.cons_append, List.nil_append, List.set, decide_true, decide_false, Bool.not_true, Bool.not_false, if_true, if_false, Bool.true_and, Bool.and_true, reduceIte, Bool.false_eq_true, decide_eq_true_eq, Nat.reduceSub, Nat.reduceAdd, Nat.reduceLT, Nat.zero_add, fs, e1]
  rw [s1]
  simp only [b9s2, u9_5, u9_6, u9_7, u9_8, bodyD_eq, res_nx, res_ret, res_exc, res_ite, eS1, eS2, eS3, eS4, eS5, eS6, eS7, eS8, eS9, eS10, eS11, eS12, eS13, eS14, eS15, eS16, eS17, eS18, eS19, eS20, eS21, eS22, eS23, eS24, eS25, eS26, eE1, eE2, eE3, eE4, eE5, eE6, eE7, eE8, eE9, eE10, eE11, eE12, eE13, eE14, eE15, eE16, eE17, eE18, eE19, eE20, eE21, eE22, eE23, eE24, eE25, eE26, eE27, eE28, eE29, eE30, eE31, eE32, eE33, eE34, eE35, eE36, eT1, eT2, eT3, eT4, eT5, eT6, eT7, eT8, eT9, eT10, eT11, eT12, eT13, eL1, eL2, eL3, eC1, eC2, eC3, eA1, eA2, eA3, eO1, eO2, eO3, eAV1, eAV2, eAV3, eOV1, eOV2, eOV3, out_ok, out_exc, thn_nx, thn_ret, thn_exc, thn_brk, thn_cnt, thn_ite, ok_bindN, exc_bindN, bad_bindN, pure_okN, getE0, getEs, putE, noBrw, am, noBrwM, bo, rt, mp, binD, cmpD, cmpI, addI, subI, negI, eqD_int, truthD, notR, absI, lenL, List.map_cons, List.map_nil, List.length_cons, List.length_nil, List.replicate, List.cons_append, List.nil_append, List.set, decide_true, decide_false, Bool.not_true, Bool.not_false, if_true, if_false, Bool.true_and, Bool.and_true, reduceIte, Bool.false_eq_true, decide_eq_true_eq, Nat.reduceSub, Nat.reduceAdd, Nat.reduceLT, Nat.zero_add, k6d, k6f, k5]
  simp only [b9s3, u9_5, u9_6, u9_7, u9_8, bodyD_eq, res_nx, res_ret, res_exc, res_ite, eS1, eS2, eS3, eS4, eS5, eS6, eS7, eS8, eS9, eS10, eS11, eS12, eS13, eS14, eS15, eS16, eS17, eS18, eS19, eS20, eS21, eS22, eS23, eS24, eS25, eS26, eE1, eE2, eE3, eE4, eE5, eE6, eE7, eE8, eE9, eE10, eE11, eE12, eE13, eE14, eE15, eE16, eE17, eE18, eE19, eE20, eE21, eE22, eE23, eE24, eE25, eE26, eE27, eE28, eE29, eE30, eE31, eE32, eE33, eE34, eE35, eE36, eT1, eT2, eT3, eT4, eT5, eT6, eT7, eT8, eT9, eT10, eT11, eT12, eT13, eL1, eL2, eL3, eC1, eC2, eC3, eA1, eA2, eA3, eO1, eO2, eO3, eAV1, eAV2, eAV3, eOV1, eOV2, eOV3, out_ok, out_exc, thn_nx, thn_ret, thn_exc, thn_brk, thn_cnt, thn_ite, ok_bindN, exc_bindN, bad_bindN, pure_okN, getE0, getEs, putE, noBrw, am, noBrwM, bo, rt, mp, binD, cmpD, cmpI, addI, subI, negI, eqD_int, truthD, notR, absI, lenL, List.map_cons, List.map_nil, List.length_cons, List.length_nil, List.replicate, List.cons_append, List.nil_append, List.set, decide_true, decide_false, Bool.not_true, Bool.not_false, if_true, if_false, Bool.true_and, Bool.and_true, reduceIte, Bool.false_eq_true, decide_eq_true_eq, Nat.reduceSub, Nat.reduceAdd, Nat.reduceLT, Nat.zero_add, k6t, k5w]
  have s4 : evS T9 (.asg 3 (.dlst (.var 1))) [some (.str z), some C0, some (.str (wh z)), none] = .nx [some (.str z), some C0, some (.str (wh z)), some C1] := by
    rw [asg_eq (d := C1) ?_ nb (by simp)]
    · rfl
    · rw [evE, evE]
      show (Res.ok (mp boM C0) >>= fun d => dlstD d) = _
      rw [bs, ok_bind]
      exact cp
  rw [b9s4, seq_nx s4]
  have v3 : evE T9 (.var 3) [some (.str z), some C0, some (.str (wh z)), some C1] = .ok C2 := by
    rw [evE]
    show Res.ok (mp boM C1) = _
    rw [bo]
  have v1 : evE T9 (.var 1) [some (.str z), some C0, some (.str (wh z)), some C1] = .ok C0 := by
    rw [evE]
    show Res.ok (mp boM C0) = _
    rw [bs]
  have v0 : evE T9 (.var 0) [some (.str z), some C0, some (.str (wh z)), some C1] = .ok (.str z) := by
    rw [evE]
    rfl
  have v2 : evE T9 (.var 2) [some (.str z), some C0, some (.str (wh z)), some C1] = .ok (.str (wh z)) := by
    rw [evE]
    rfl
  generalize ([some (.str z), some C0, some (.str (wh z)), some C1] : Pv.Env) = env at *
  have c8 : evE T9 (.call 8 (.cons (.var 0) (.cons (.var 3) .nil))) env = .ok (.str (hdOf h z)) := by
    rw [evE, evL, v0, ok_bind, evL, v3, ok_bind, evL, ok_bind]
    exact k8
  have c7 : evE T9 (.call 7 (.cons (.var 0) (.cons (.var 1) .nil))) env = .ok (.str (hdOf h z)) := by
    rw [evE, evL, v0, ok_bind, evL, v1, ok_bind, evL, ok_bind]
    exact k7
  have c8w : evE T9 (.call 8 (.cons (.var 2) (.cons (.var 3) .nil))) env = .ok (.str (hdOf h (wh z))) := by
    rw [evE, evL, v2, ok_bind, evL, v3, ok_bind, evL, ok_bind]
    exact k8w
  have c7w : evE T9 (.call 7 (.cons (.var 2) (.cons (.var 1) .nil))) env = .ok (.str (hdOf h (wh z))) := by
    rw [evE, evL, v2, ok_bind, evL, v1, ok_bind, evL, ok_bind]
    exact k7w
  simp only [b9s5, bodyD_eq, res_nx, res_ret, res_exc, res_ite, eS1, eS2, eS3, eS4, eS5, eS6, eS7, eS8, eS9, eS10, eS11, eS12, eS13, eS14, eS15, eS16, eS17, eS18, eS19, eS20, eS21, eS22, eS23, eS24, eS25, eS26, eE1, eE2, eE3, eE4, eE5, eE6, eE7, eE8, eE9, eE10, eE11, eE12, eE13, eE14, eE15, eE16, eE17, eE18, eE19, eE20, eE21, eE22, eE23, eE24, eE25, eE26, eE27, eE28, eE29, eE30, eE31, eE32, eE33, eE34, eE35, eE36, eT1, eT2, eT3, eT4, eT5, eT6, eT7, eT8, eT9, eT10, eT11, eT12, eT13, eL1, eL2, eL3, eC1, eC2, eC3, eA1, eA2, eA3, eO1, eO2, eO3, eAV1, eAV2, eAV3, eOV1, eOV2, eOV3, out_ok, out_exc, thn_nx, thn_ret, thn_exc, thn_brk, thn_cnt, thn_ite, ok_bindN, exc_bindN, bad_bindN, pure_okN, getE0, getEs, putE, noBrw, am, noBrwM, bo, rt, mp, binD, cmpD, cmpI, addI, subI, negI, eqD_int, truthD, notR, absI, lenL, List.map_cons, List.map_nil, List.length_cons, List.length_nil, List.replicate, List.cons_append, List.nil_append, List.set, decide_true, decide_false, Bool.not_true, Bool.not_false, if_true, if_false, Bool.true_and, Bool.and_true, reduceIte, Bool.false_eq_true, decide_eq_true_eq, Nat.reduceSub, Nat.reduceAdd, Nat.reduceLT, Nat.zero_add, c8, c7, u9_5, k5h]
  simp only [b9s6, bodyD_eq, res_nx, res_ret, res_exc, res_ite, eS1, eS2, eS3, eS4, eS5, eS6, eS7, eS8, eS9, eS10, eS11, eS12, eS13, eS14, eS15, eS16, eS17, eS18, eS19, eS20, eS21, eS22, eS23, eS24, eS25, eS26, eE1, eE2, eE3, eE4, eE5, eE6, eE7, eE8, eE9, eE10, eE11, eE12, eE13, eE14, eE15, eE16, eE17, eE18, eE19, eE20, eE21, eE22, eE23, eE24, eE25, eE26, eE27, eE28, eE29, eE30, eE31, eE32, eE33, eE34, eE35, eE36, eT1, eT2, eT3, eT4, eT5, eT6, eT7, eT8, eT9, eT10, eT11, eT12, eT13, eL1, eL2, eL3, eC1, eC2, eC3, eA1, eA2, eA3, eO1, eO2, eO3, eAV1, eAV2, eAV3, eOV1, eOV2, eOV3, out_ok, out_exc, thn_nx, thn_ret, thn_exc, thn_brk, thn_cnt, thn_ite, ok_bindN, exc_bindN, bad_bindN, pure_okN, getE0, getEs, putE, noBrw, am, noBrwM, bo, rt, mp, binD, cmpD, cmpI, addI, subI, negI, eqD_int, truthD, notR, absI, lenL, List.map_cons, List.map_nil, List.length_cons, List.length_nil, List.replicate, List.cons_append, List.nil_append, List.set, decide_true, decide_false, Bool.not_true, Bool.not_false, if_true, if_false, Bool.true_and, Bool.and_true, reduceIte, Bool.false_eq_true, decide_eq_true_eq, Nat.reduceSub, Nat.reduceAdd, Nat.reduceLT, Nat.zero_add, c8w, c7w, u9_5, k5hw, v3, v1, eq]
theorem cl9 (m : Md) (hm : shM m = .shr) (ks : List Str) (h : Str → Str) (ok : okCh ks h) (z : Str) (oz : OA ks z) : callD f9 [.str z, chD m ks h] = .ok (.bl true) := call_ok rfl (by
  show f9.m [.str z, mp shM (chD m ks h)] = _
  rw [mp_ch shM m ks h ok.2.2, hm]
  exact ev9 ks h ok z oz) (Bool.or_true _)
/-! the accounts -/
def dueS (f : Str) : Str := ".due." ++ f
def accs (F ks : List Str) : List Str := FXA ++ FXB ++ F.map dueS ++ ks
theorem oa_fix {ks : List Str} : ∀ z ∈ FXA ++ FXB, OA ks z := by
  have h1 : ∀ z ∈ FXA ++ FXB, strOk z = true := by decide +kernel
  have h2 : ∀ z ∈ FXA ++ FXB, 1 ≤ z.length := by decide +kernel
  have h3 : ∀ z ∈ FXA ++ FXB, z.length ≤ 100 := by decide +kernel
  have h4 : ∀ z ∈ FXA ++ FXB, z ∈ HV ∨ z ∈ OW ∨ z ∈ RS := by decide +kernel
  intro z hz
  refine ⟨h1 z hz, h2 z hz, h3 z hz, ?_⟩
  rcases h4 z hz with y | y | y
  · exact .inl y
  · exact .inr (.inr (.inl y))
  · exact .inr (.inr (.inr (.inl y)))
theorem oa_accs {F ks : List Str} {h : Str → Str} (oF : ∀ z ∈ F, nmS z) (ok : okCh ks h) : ∀ z ∈ accs F ks, OA ks z := by
  intro z hz
  unfold accs at hz
  rcases List.mem_append.mp hz with hz | hz
  · rcases List.mem_append.mp hz with hz | hz
    · exact oa_fix z hz
    · obtain ⟨f, hf, rfl⟩ := List.mem_map.mp hz
      have nf := oF f hf
      have l5 : (".due." : Str).length = 5 := by decide +kernel
      refine ⟨strOk_app _ _ (by decide +kernel) (name_ok nf.1), ?_, ?_, .inr (.inl ?_)⟩
      · unfold dueS
        rw [len_app, l5]
        omega
      · have := name_len nf.1
        unfold dueS
        rw [len_app, l5]
        omega
      · exact cut_app ".due." f 5 l5
  · have nz := ok.1 z hz
    exact ⟨name_ok nz.1, nz.2, by have := name_len nz.1; omega, .inr (.inr (.inr (.inr (.inr hz))))⟩
theorem strs_all {l : List Str} (h : ∀ z ∈ l, strOk z = true) : (l.map Pv.D.str).all okT = true := okS_all h
theorem ev4 (ks : List Str) (h : Str → Str) (ok : okCh ks h) (hk : ks.length ≤ 100) (F : List Str) (oF : ∀ z ∈ F, nmS z) (lF : F.length ≤ 100) : f4.m [chD .shr ks h, .lst .shr (F.map Pv.D.str)] = .ok (.lst .own ((accs F ks).map Pv.D.str)) := by
  have lo9 : lineOk 9 = true := lineOk_le (by omega)
  have lo7 : lineOk 7 = true := lineOk_le (by omega)
  have bs : mp boM (chD .shr ks h) = chD .shr ks h := mp_ch boM .shr ks h ok.2.2
  have kl := ch_keys .shr ks h
  have a1 : addD (.lst .brw (FXA.map Pv.D.str)) (.lst .own (FXB.map Pv.D.str)) = .ok (.lst .own ((FXA ++ FXB).map Pv.D.str)) := by
    rw [addL _ _ _ _ rfl rfl (by decide), mpL_strs, mpL_strs, ← List.map_append]
  have ad : ∀ f ∈ F, addD (.str ".due.") (.str f) = .ok (.str (dueS f)) := fun f hf => addStr _ _ (by have := name_len (oF f hf).1; rw [show (".due." : Str).length = 5 from rfl]; omega)
  have s1 : f4.m [chD .shr ks h, .lst .shr (F.map Pv.D.str)] = (evS T4 b4s2 [some (chD .shr ks h), some (.lst .shr (F.map Pv.D.str)), some (.lst .own ((FXA ++ FXB).map Pv.D.str)), none]).res := by
    simp only [f4, bodyD_eq, List.map_cons, List.map_nil, List.length_cons, List.length_nil, Nat.reduceSub, Nat.reduceAdd, List.replicate, List.cons_append, List.nil_append]
    have t1 : evS T4 b4 [some (chD .shr ks h), some (.lst .shr (F.map Pv.D.str)), none, none] = evS T4 b4s1 [some (chD .shr ks h), some (.lst .shr (F.map Pv.D.str)), some (.lst .own (FXA.map Pv.D.str)), none] := by
      simp only [b4, bodyD_eq, res_nx, res_ret, res_exc, res_ite, eS1, eS2, eS3, eS4, eS5, eS6, eS7, eS8, eS9, eS10, eS11, eS12, eS13, eS14, eS15, eS16, eS17, eS18, eS19, eS20, eS21, eS22, eS23, eS24, eS25, eS26, eE1, eE2, eE3, eE4, eE5, eE6, eE7, eE8, eE9, eE10, eE11, eE12, eE13, eE14, eE15, eE16, eE17, eE18, eE19, eE20, eE21, eE22, eE23, eE24, eE25, eE26, eE27, eE28, eE29, eE30, eE31, eE32, eE33, eE34, eE35, eE36, eT1, eT2, eT3, eT4, eT5, eT6, eT7, eT8, eT9, eT10, eT11, eT12, eT13, eL1, eL2, eL3, eC1, eC2, eC3, eA1, eA2, eA3, eO1, eO2, eO3, eAV1, eAV2, eAV3, eOV1, eOV2, eOV3, out_ok, out_exc, thn_nx, thn_ret, thn_exc, thn_brk, thn_cnt, thn_ite, ok_bindN, exc_bindN, bad_bindN, pure_okN, getE0, getEs, putE, noBrw, am, noBrwM, bo, rt, mp, binD, cmpD, cmpI, addI, subI, negI, eqD_int, truthD, notR, absI, lenL, List.map_cons, List.map_nil, List.length_cons, List.length_nil, List.replicate, List.cons_append, List.nil_append, List.set, decide_true, decide_false, Bool.not_true, Bool.not_false, if_true, if_false, Bool.true_and, Bool.and_true, reduceIte, Bool.false_eq_true, decide_eq_true_eq, Nat.reduceSub, Nat.reduceAdd, Nat.reduceLT, Nat.zero_add, mpL, amL, lo9]
      rfl
    rw [t1]
    have e1 : evE T4 (.bin .Add (.var 2) (.lst (.cons (.str ".payout") (.cons (.str ".yield") (.cons (.str ".made") (.cons (.str ".freed") (.cons (.str ".income") (.cons (.str ".outlay") (.cons (.str ".bridge") .nil))))))))) [some (chD .shr ks h), some (.lst .shr (F.map Pv.D.str)), some (.lst .own (FXA.map Pv.D.str)), none] = .ok (.lst .own ((FXA ++ FXB).map Pv.D.str)) := by
      have r : evE T4 (.lst (.cons (.str ".payout") (.cons (.str ".yield") (.cons (.str ".made") (.cons (.str ".freed") (.cons (.str ".income") (.cons (.str ".outlay") (.cons (.str ".bridge") .nil)))))))) [some (chD .shr ks h), some (.lst .shr (F.map Pv.D.str)), some (.lst .own (FXA.map Pv.D.str)), none] = .ok (.lst .own (FXB.map Pv.D.str)) := by
        simp only [bodyD_eq, res_nx, res_ret, res_exc, res_ite, eS1, eS2, eS3, eS4, eS5, eS6, eS7, eS8, eS9, eS10, eS11, eS12, eS13, eS14, eS15, eS16, eS17, eS18, eS19, eS20, eS21, eS22, eS23, eS24, eS25, eS26, eE1, eE2, eE3, eE4, eE5, eE6, eE7, eE8, eE9, eE10, eE11, eE12, eE13, eE14, eE15, eE16, eE17, eE18, eE19, eE20, eE21, eE22, eE23, eE24, eE25, eE26, eE27, eE28, eE29, eE30, eE31, eE32, eE33, eE34, eE35, eE36, eT1, eT2, eT3, eT4, eT5, eT6, eT7, eT8, eT9, eT10, eT11, eT12, eT13, eL1, eL2, eL3, eC1, eC2, eC3, eA1, eA2, eA3, eO1, eO2, eO3, eAV1, eAV2, eAV3, eOV1, eOV2, eOV3, out_ok, out_exc, thn_nx, thn_ret, thn_exc, thn_brk, thn_cnt, thn_ite, ok_bindN, exc_bindN, bad_bindN, pure_okN, getE0, getEs, putE, noBrw, am, noBrwM, bo, rt, mp, binD, cmpD, cmpI, addI, subI, negI, eqD_int, truthD, notR, absI, lenL, List.map_cons, List.map_nil, List.length_cons, List.length_nil, List.replicate, List.cons_append, List.nil_append, List.set, decide_true, decide_false, Bool.not_true, Bool.not_false, if_true, if_false, Bool.true_and, Bool.and_true, reduceIte, Bool.false_eq_true, decide_eq_true_eq, Nat.reduceSub, Nat.reduceAdd, Nat.reduceLT, Nat.zero_add, mpL, lo7]
        rfl
      have l : evE T4 (.var 2) [some (chD .shr ks h), some (.lst .shr (F.map Pv.D.str)), some (.lst .own (FXA.map Pv.D.str)), none] = .ok (.lst .brw (FXA.map Pv.D.str)) := by
        simp only [bodyD_eq, res_nx, res_ret, res_exc, res_ite, eS1, eS2, eS3, eS4, eS5, eS6, eS7, eS8, eS9, eS10, eS11, eS12, eS13, eS14, eS15, eS16, eS17, eS18, eS19, eS20, eS21, eS22, eS23, eS24, eS25, eS26, eE1, eE2, eE3, eE4, eE5, eE6, eE7, eE8, eE9, eE10, eE11, eE12, eE13, eE14, eE15, eE16, eE17, eE18, eE19, eE20, eE21, eE22, eE23, eE24, eE25, eE26, eE27, eE28, eE29, eE30, eE31, eE32, eE33, eE34, eE35, eE36, eT1, eT2, eT3, eT4, eT5, eT6, eT7, eT8, eT9, eT10, eT11, eT12, eT13, eL1, eL2, eL3, eC1, eC2, eC3, eA1, eA2, eA3, eO1, eO2, eO3, eAV1, eAV2, eAV3, eOV1, eOV2, eOV3, out_ok, out_exc, thn_nx, thn_ret, thn_exc, thn_brk, thn_cnt, thn_ite, ok_bindN, exc_bindN, bad_bindN, pure_okN, getE0, getEs, putE, noBrw, am, noBrwM, bo, rt, mp, binD, cmpD, cmpI, addI, subI, negI, eqD_int, truthD, notR, absI, lenL, List.map_cons, List.map_nil, List.length_cons, List.length_nil, List.replicate, List.cons_append, List.nil_append, List.set, decide_true, decide_false, Bool.not_true, Bool.not_false, if_true, if_false, Bool.true_and, Bool.and_true, reduceIte, Bool.false_eq_true, decide_eq_true_eq, Nat.reduceSub, Nat.reduceAdd, Nat.reduceLT, Nat.zero_add, boM, mpL_strs]
      rw [evE, l, ok_bind, r, ok_bind]
      exact a1
    rw [b4s1, seq_nx (asg_eq e1 (by
      show (true && amL noBrwM _) = true
      rw [amL_strs]
      rfl) (by simp))]
    rfl
  rw [s1]
  generalize hG : FXA ++ FXB = G
  have lG : G.length ≤ 100 := by rw [← hG]; decide
  have hl : evE T4 (.lc 3 (.var 1) .nil (.bin .Add (.str ".due.") (.var 3))) [some (chD .shr ks h), some (.lst .shr (F.map Pv.D.str)), some (.lst .own (G.map Pv.D.str)), none] = .ok (.lst .own ((F.map dueS).map Pv.D.str)) := by
    have q := lc_map (T := T4) (j := 3) (src := .var 1) (e := .bin .Add (.str ".due.") (.var 3)) (env := [some (chD .shr ks h), some (.lst .shr (F.map Pv.D.str)), some (.lst .own (G.map Pv.D.str)), none]) (m := .shr) F Pv.D.str (fun f => .str (dueS f)) (strs_all fun z hz => name_ok (oF z hz).1) (by omega)
      (by simp only [bodyD_eq, res_nx, res_ret, res_exc, res_ite, eS1, eS2, eS3, eS4, eS5, eS6, eS7, eS8, eS9, eS10, eS11, eS12, eS13, eS14, eS15, eS16, eS17, eS18, eS19, eS20, eS21, eS22, eS23, eS24, eS25, eS26, eE1, eE2, eE3, eE4, eE5, eE6, eE7, eE8, eE9, eE10, eE11, eE12, eE13, eE14, eE15, eE16, eE17, eE18, eE19, eE20, eE21, eE22, eE23, eE24, eE25, eE26, eE27, eE28, eE29, eE30, eE31, eE32, eE33, eE34, eE35, eE36, eT1, eT2, eT3, eT4, eT5, eT6, eT7, eT8, eT9, eT10, eT11, eT12, eT13, eL1, eL2, eL3, eC1, eC2, eC3, eA1, eA2, eA3, eO1, eO2, eO3, eAV1, eAV2, eAV3, eOV1, eOV2, eOV3, out_ok, out_exc, thn_nx, thn_ret, thn_exc, thn_brk, thn_cnt, thn_ite, ok_bindN, exc_bindN, bad_bindN, pure_okN, getE0, getEs, putE, noBrw, am, noBrwM, bo, rt, mp, binD, cmpD, cmpI, addI, subI, negI, eqD_int, truthD, notR, absI, lenL, List.map_cons, List.map_nil, List.length_cons, List.length_nil, List.replicate, List.cons_append, List.nil_append, List.set, decide_true, decide_false, Bool.not_true, Bool.not_false, if_true, if_false, Bool.true_and, Bool.and_true, reduceIte, Bool.false_eq_true, decide_eq_true_eq, Nat.reduceSub, Nat.reduceAdd, Nat.reduceLT, Nat.zero_add, boM, mpL_strs]) (fun f hf => by simp only [bodyD_eq, res_nx, res_ret, res_exc, res_ite, eS1, eS2, eS3, eS4, eS5, eS6, eS7, eS8, eS9, eS10, eS11, eS12, eS13, eS14, eS15, eS16, eS17, eS18, eS19, eS20, eS21, eS22, eS23, eS24, eS25, eS26, eE1, eE2, eE3, eE4, eE5, eE6, eE7, eE8, eE9, eE10, eE11, eE12, eE13, eE14, eE15, eE16, eE17, eE18, eE19, eE20, eE21, eE22, eE23, eE24, eE25, eE26, eE27, eE28, eE29, eE30, eE31, eE32, eE33, eE34, eE35, eE36, eT1, eT2, eT3, eT4, eT5, eT6, eT7, eT8, eT9, eT10, eT11, eT12, eT13, eL1, eL2, eL3, eC1, eC2, eC3, eA1, eA2, eA3, eO1, eO2, eO3, eAV1, eAV2, eAV3, eOV1, eOV2, eOV3, out_ok, out_exc, thn_nx, thn_ret, thn_exc, thn_brk, thn_cnt, thn_ite, ok_bindN, exc_bindN, bad_bindN, pure_okN, getE0, getEs, putE, noBrw, am, noBrwM, bo, rt, mp, binD, cmpD, cmpI, addI, subI, negI, eqD_int, truthD, notR, absI, lenL, List.map_cons, List.map_nil, List.length_cons, List.length_nil, List.replicate, List.cons_append, List.nil_append, List.set, decide_true, decide_false, Bool.not_true, Bool.not_false, if_true, if_false, Bool.true_and, Bool.and_true, reduceIte, Bool.false_eq_true, decide_eq_true_eq, Nat.reduceSub, Nat.reduceAdd, Nat.reduceLT, Nat.zero_add, ad f hf]) rfl
    rw [q, List.map_map]
    rfl
  have v2 : evE T4 (.var 2) [some (chD .shr ks h), some (.lst .shr (F.map Pv.D.str)), some (.lst .own (G.map Pv.D.str)), none] = .ok (.lst .brw (G.map Pv.D.str)) := by
    simp only [bodyD_eq, res_nx, res_ret, res_exc, res_ite, eS1, eS2, eS3, eS4, eS5, eS6, eS7, eS8, eS9, eS10, eS11, eS12, eS13, eS14, eS15, eS16, eS17, eS18, eS19, eS20, eS21, eS22, eS23, eS24, eS25, eS26, eE1, eE2, eE3, eE4, eE5, eE6, eE7, eE8, eE9, eE10, eE11, eE12, eE13, eE14, eE15, eE16, eE17, eE18, eE19, eE20, eE21, eE22, eE23, eE24, eE25, eE26, eE27, eE28, eE29, eE30, eE31, eE32, eE33, eE34, eE35, eE36, eT1, eT2, eT3, eT4, eT5, eT6, eT7, eT8, eT9, eT10, eT11, eT12, eT13, eL1, eL2, eL3, eC1, eC2, eC3, eA1, eA2, eA3, eO1, eO2, eO3, eAV1, eAV2, eAV3, eOV1, eOV2, eOV3, out_ok, out_exc, thn_nx, thn_ret, thn_exc, thn_brk, thn_cnt, thn_ite, ok_bindN, exc_bindN, bad_bindN, pure_okN, getE0, getEs, putE, noBrw, am, noBrwM, bo, rt, mp, binD, cmpD, cmpI, addI, subI, negI, eqD_int, truthD, notR, absI, lenL, List.map_cons, List.map_nil, List.length_cons, List.length_nil, List.replicate, List.cons_append, List.nil_append, List.set, decide_true, decide_false, Bool.not_true, Bool.not_false, if_true, if_false, Bool.true_and, Bool.and_true, reduceIte, Bool.false_eq_true, decide_eq_true_eq, Nat.reduceSub, Nat.reduceAdd, Nat.reduceLT, Nat.zero_add, boM, mpL_strs]
  have v0 : evE T4 (.blt .list (.cons (.var 0) .nil)) [some (chD .shr ks h), some (.lst .shr (F.map Pv.D.str)), some (.lst .own (G.map Pv.D.str)), none] = .ok (.lst .own (ks.map Pv.D.str)) := by
    rw [evE, evL, evE]
    show ((Res.ok (mp boM (chD .shr ks h)) >>= fun x => evL T4 .nil _ >>= fun l => Res.ok (x :: l)) >>= fun l => bltD .list l) = _
    rw [bs, ok_bind, evL, ok_bind, ok_bind]
    exact kl
  have w1 : addD (.lst .brw (G.map Pv.D.str)) (.lst .own ((F.map dueS).map Pv.D.str)) = .ok (.lst .own ((G ++ F.map dueS).map Pv.D.str)) := by
    rw [addL _ _ _ _ rfl rfl (by simp only [List.length_map]; omega), mpL_strs, mpL_strs, ← List.map_append]
  have w2 : addD (.lst .own ((G ++ F.map dueS).map Pv.D.str)) (.lst .own (ks.map Pv.D.str)) = .ok (.lst .own ((G ++ F.map dueS ++ ks).map Pv.D.str)) := by
    rw [addL _ _ _ _ rfl rfl (by simp only [List.length_map, List.length_append]; omega), mpL_strs, mpL_strs, ← List.map_append]
  have e2 : evE T4 (.bin .Add (.bin .Add (.var 2) (.lc 3 (.var 1) .nil (.bin .Add (.str ".due.") (.var 3)))) (.blt .list (.cons (.var 0) .nil))) [some (chD .shr ks h), some (.lst .shr (F.map Pv.D.str)), some (.lst .own (G.map Pv.D.str)), none] = .ok (.lst .own ((G ++ F.map dueS ++ ks).map Pv.D.str)) := by
    rw [evE, evE, v2, ok_bind, hl, ok_bind]
    rw [show binD .Add (.lst .brw (G.map Pv.D.str)) (.lst .own ((F.map dueS).map Pv.D.str)) = .ok (.lst .own ((G ++ F.map dueS).map Pv.D.str)) from w1, ok_bind, v0, ok_bind]
    exact w2
  rw [b4s2, seq_nop, ret_eq e2]
  show Res.ok (Pv.D.lst .own (mpL rtM _)) = _
  rw [mpL_strs, ← hG]
  rfl
theorem cl4 (ks : List Str) (h : Str → Str) (ok : okCh ks h) (hk : ks.length ≤ 100) (F : List Str) (oF : ∀ z ∈ F, nmS z) (lF : F.length ≤ 100) : callD f4 [chD .brw ks h, .lst .brw (F.map Pv.D.str)] = .ok (.lst .own ((accs F ks).map Pv.D.str)) := call_ok rfl (by
  show f4.m [mp shM (chD .brw ks h), .lst .shr (mpL shM (F.map Pv.D.str))] = _
  rw [mp_ch shM .brw ks h ok.2.2, mpL_strs]
  exact ev4 ks h ok hk F oF lF) (by
  show (_ || (true && amL isOwn ((accs F ks).map Pv.D.str))) = true
  rw [amL_strs]
  simp)
/-! the law -/
def E10 (ns : List Int) (F : List Str) (x2 x3 x4 x5 x6 : Option Pv.D) : Pv.Env := [some (.lst .kon (ns.map Pv.D.int)), some (.lst .own (F.map Pv.D.str)), x2, x3, x4, x5, x6]
theorem loop10 (ns : List Int) (F : List Str) (x2 : Option Pv.D) (ks : List Str) (h : Str → Str) (ok : okCh ks h) (x4 x5 : Option Pv.D) : ∀ (l : List Str) (x6 : Option Pv.D), (∀ z ∈ l, OA ks z) → ∃ y6, loopD (evS T10 b10w0) (fun e x => tgE e [6] x) (l.map Pv.D.str) (E10 ns F x2 (some (chD .own ks h)) x4 x5 x6) = .nx (E10 ns F x2 (some (chD .own ks h)) x4 x5 y6)
  | [], x6, _ => ⟨x6, rfl⟩
  | z :: l, x6, hl => by
    obtain ⟨y6, ih⟩ := loop10 ns F x2 ks h ok x4 x5 l (some (.str z)) fun y hy => hl y (List.mem_cons_of_mem _ hy)
    have k9 := cl9 .brw rfl ks h ok z (hl z List.mem_cons_self)
    have bo : mp boM (chD .own ks h) = chD .brw ks h := mp_ch boM .own ks h ok.2.2
    have co : evT T10 (.nt (.call 9 (.cons (.var 6) (.cons (.var 3) .nil)))) (E10 ns F x2 (some (chD .own ks h)) x4 x5 (some (.str z))) = .ok false := by
      have v6 : evE T10 (.var 6) (E10 ns F x2 (some (chD .own ks h)) x4 x5 (some (.str z))) = .ok (.str z) := by rw [evE]; rfl
      have v3 : evE T10 (.var 3) (E10 ns F x2 (some (chD .own ks h)) x4 x5 (some (.str z))) = .ok (chD .brw ks h) := by
        rw [evE]
        show Res.ok (mp boM (chD .own ks h)) = _
        rw [bo]
      rw [evT, evT, evL, v6, ok_bind, evL, v3, ok_bind, evL, ok_bind]
      show ((callD f9 [.str z, chD .brw ks h] >>= fun d => truthD d) >>= fun b => Res.ok (!b)) = _
      rw [k9]
      rfl
    refine ⟨y6, ?_⟩
    rw [List.map_cons]
    unfold loopD
    rw [tgE1 _ _ _ rfl (by unfold E10; simp), show (E10 ns F x2 (some (chD .own ks h)) x4 x5 x6).set 6 (some (.str z)) = E10 ns F x2 (some (chD .own ks h)) x4 x5 (some (.str z)) from rfl]
    have t : evS T10 b10w0 (E10 ns F x2 (some (chD .own ks h)) x4 x5 (some (.str z))) = .nx (E10 ns F x2 (some (chD .own ks h)) x4 x5 (some (.str z))) := by
      unfold b10w0
      rw [seq_nop, ife_f co, nop_eq]
    simp only [t]
    exact ih
theorem turn10 (ns : List Int) (F : List Str) (oF : ∀ z ∈ F, nmS z) (lF : F.length ≤ 100) (p : Nat) (x3 x4 x5 x6 : Option Pv.D) : ∃ y3 y4 y5 y6, evS T10 b10w1 (E10 ns F (some (.int p)) x3 x4 x5 x6) = .nx (E10 ns F (some (.int p)) y3 y4 y5 y6) := by
  have cp : callD f2 [.lst .kon (ns.map Pv.D.int), .int p] = .ok (.int (ns.getD p 0)) := clC0 ns p
  have c3 : callD f2 [.lst .kon (ns.map Pv.D.int), .int 3] = .ok (.int (ns.getD 3 0)) := clC0 ns 3
  generalize ns.getD p 0 = w at cp
  generalize ns.getD 3 0 = v at c3
  obtain ⟨ks, h, k3, ok, lk⟩ := cl3 w
  have k4 := cl4 ks h ok lk F oF lF
  have bo : mp boM (chD .own ks h) = chD .brw ks h := mp_ch boM .own ks h ok.2.2
  have nb : am noBrwM (chD .own ks h) = true := am_ch noBrwM .own ks h ok.2.2
  have la : (accs F ks).length ≤ 300 := by
    unfold accs
    simp only [List.length_append, List.length_map]
    have : FXA.length = 9 := rfl
    have : FXB.length = 7 := rfl
    omega
  have l1 : 1 ≤ (accs F ks).length := by
    unfold accs
    simp only [List.length_append, List.length_map]
    have : FXA.length = 9 := rfl
    omega
  have oa := oa_accs oF ok
  have mo : modD (.int v) (.int ((accs F ks).length : Int)) = .ok (.int (v % ((accs F ks).length : Int))) := modI (by omega)
  obtain ⟨t, ht⟩ := Int.eq_ofNat_of_zero_le (Int.emod_nonneg v (show ((accs F ks).length : Int) ≠ 0 by omega))
  rw [ht] at mo
  generalize hac : accs F ks = ac at *
  have e1 : evS T10 (.asg 3 (.call 3 (.cons (.call 2 (.cons (.var 0) (.cons (.var 2) .nil))) .nil))) (E10 ns F (some (.int p)) x3 x4 x5 x6) = .nx (E10 ns F (some (.int p)) (some (chD .own ks h)) x4 x5 x6) := by
    rw [asg_eq (d := chD .own ks h) ?_ nb (by unfold E10; simp)]
    · rfl
    · simp only [E10, u10_1, u10_2, u10_3, u10_4, u10_5, u10_6, u10_9, bodyD_eq, res_nx, res_ret, res_exc, res_ite, eS1, eS2, eS3, eS4, eS5, eS6, eS7, eS8, eS9, eS10, eS11, eS12, eS13, eS14, eS15, eS16, eS17, eS18, eS19, eS20, eS21, eS22, eS23, eS24, eS25, eS26, eE1, eE2, eE3, eE4, eE5, eE6, eE7, eE8, eE9, eE10, eE11, eE12, eE13, eE14, eE15, eE16, eE17, eE18, eE19, eE20, eE21, eE22, eE23, eE24, eE25, eE26, eE27, eE28, eE29, eE30, eE31, eE32, eE33, eE34, eE35, eE36, eT1, eT2, eT3, eT4, eT5, eT6, eT7, eT8, eT9, eT10, eT11, eT12, eT13, eL1, eL2, eL3, eC1, eC2, eC3, eA1, eA2, eA3, eO1, eO2, eO3, eAV1, eAV2, eAV3, eOV1, eOV2, eOV3, out_ok, out_exc, thn_nx, thn_ret, thn_exc, thn_brk, thn_cnt, thn_ite, ok_bindN, exc_bindN, bad_bindN, pure_okN, getE0, getEs, putE, noBrw, am, noBrwM, bo, rt, mp, binD, cmpD, cmpI, addI, subI, negI, eqD_int, truthD, notR, absI, lenL, List.map_cons, List.map_nil, List.length_cons, List.length_nil, List.replicate, List.cons_append, List.nil_append, List.set, decide_true, decide_false, Bool.not_true, Bool.not_false, if_true, if_false, Bool.true_and, Bool.and_true, reduceIte, Bool.false_eq_true, decide_eq_true_eq, Nat.reduceSub, Nat.reduceAdd, Nat.reduceLT, Nat.zero_add, mpL_ints, boM, cp, k3]
  have e2 : evS T10 (.asg 4 (.call 4 (.cons (.var 3) (.cons (.var 1) .nil)))) (E10 ns F (some (.int p)) (some (chD .own ks h)) x4 x5 x6) = .nx (E10 ns F (some (.int p)) (some (chD .own ks h)) (some (.lst .own (ac.map Pv.D.str))) x5 x6) := by
    rw [asg_eq (d := .lst .own (ac.map Pv.D.str)) ?_ ?_ (by unfold E10; simp)]
    · rfl
    · have v3 : evE T10 (.var 3) (E10 ns F (some (.int p)) (some (chD .own ks h)) x4 x5 x6) = .ok (chD .brw ks h) := by
        rw [evE]
        show Res.ok (mp boM (chD .own ks h)) = _
        rw [bo]
      have v1 : evE T10 (.var 1) (E10 ns F (some (.int p)) (some (chD .own ks h)) x4 x5 x6) = .ok (.lst .brw (F.map Pv.D.str)) := by
        simp only [E10, bodyD_eq, res_nx, res_ret, res_exc, res_ite, eS1, eS2, eS3, eS4, eS5, eS6, eS7, eS8, eS9, eS10, eS11, eS12, eS13, eS14, eS15, eS16, eS17, eS18, eS19, eS20, eS21, eS22, eS23, eS24, eS25, eS26, eE1, eE2, eE3, eE4, eE5, eE6, eE7, eE8, eE9, eE10, eE11, eE12, eE13, eE14, eE15, eE16, eE17, eE18, eE19, eE20, eE21, eE22, eE23, eE24, eE25, eE26, eE27, eE28, eE29, eE30, eE31, eE32, eE33, eE34, eE35, eE36, eT1, eT2, eT3, eT4, eT5, eT6, eT7, eT8, eT9, eT10, eT11, eT12, eT13, eL1, eL2, eL3, eC1, eC2, eC3, eA1, eA2, eA3, eO1, eO2, eO3, eAV1, eAV2, eAV3, eOV1, eOV2, eOV3, out_ok, out_exc, thn_nx, thn_ret, thn_exc, thn_brk, thn_cnt, thn_ite, ok_bindN, exc_bindN, bad_bindN, pure_okN, getE0, getEs, putE, noBrw, am, noBrwM, bo, rt, mp, binD, cmpD, cmpI, addI, subI, negI, eqD_int, truthD, notR, absI, lenL, List.map_cons, List.map_nil, List.length_cons, List.length_nil, List.replicate, List.cons_append, List.nil_append, List.set, decide_true, decide_false, Bool.not_true, Bool.not_false, if_true, if_false, Bool.true_and, Bool.and_true, reduceIte, Bool.false_eq_true, decide_eq_true_eq, Nat.reduceSub, Nat.reduceAdd, Nat.reduceLT, Nat.zero_add, boM, mpL_strs]
      rw [evE, evL, v3, ok_bind, evL, v1, ok_bind, evL, ok_bind]
      exact k4
    · show (true && amL noBrwM _) = true
      rw [amL_strs]
      rfl
  have e3 : evS T10 (.asg 5 (.bin .Mod (.call 2 (.cons (.var 0) (.cons (.int 3) .nil))) (.blt .len (.cons (.var 4) .nil)))) (E10 ns F (some (.int p)) (some (chD .own ks h)) (some (.lst .own (ac.map Pv.D.str))) x5 x6) = .nx (E10 ns F (some (.int p)) (some (chD .own ks h)) (some (.lst .own (ac.map Pv.D.str))) (some (.int t)) x6) := by
    rw [asg_eq (d := .int t) ?_ rfl (by unfold E10; simp)]
    · rfl
    · simp only [E10, u10_1, u10_2, u10_3, u10_4, u10_5, u10_6, u10_9, bodyD_eq, res_nx, res_ret, res_exc, res_ite, eS1, eS2, eS3, eS4, eS5, eS6, eS7, eS8, eS9, eS10, eS11, eS12, eS13, eS14, eS15, eS16, eS17, eS18, eS19, eS20, eS21, eS22, eS23, eS24, eS25, eS26, eE1, eE2, eE3, eE4, eE5, eE6, eE7, eE8, eE9, eE10, eE11, eE12, eE13, eE14, eE15, eE16, eE17, eE18, eE19, eE20, eE21, eE22, eE23, eE24, eE25, eE26, eE27, eE28, eE29, eE30, eE31, eE32, eE33, eE34, eE35, eE36, eT1, eT2, eT3, eT4, eT5, eT6, eT7, eT8, eT9, eT10, eT11, eT12, eT13, eL1, eL2, eL3, eC1, eC2, eC3, eA1, eA2, eA3, eO1, eO2, eO3, eAV1, eAV2, eAV3, eOV1, eOV2, eOV3, out_ok, out_exc, thn_nx, thn_ret, thn_exc, thn_brk, thn_cnt, thn_ite, ok_bindN, exc_bindN, bad_bindN, pure_okN, getE0, getEs, putE, noBrw, am, noBrwM, bo, rt, mp, binD, cmpD, cmpI, addI, subI, negI, eqD_int, truthD, notR, absI, lenL, List.map_cons, List.map_nil, List.length_cons, List.length_nil, List.replicate, List.cons_append, List.nil_append, List.set, decide_true, decide_false, Bool.not_true, Bool.not_false, if_true, if_false, Bool.true_and, Bool.and_true, reduceIte, Bool.false_eq_true, decide_eq_true_eq, Nat.reduceSub, Nat.reduceAdd, Nat.reduceLT, Nat.zero_add, mpL_ints, mpL_strs, boM, c3, List.length_map, mo, Int.ofNat_eq_natCast]
  have sr : evE T10 (.bin .Add (.sl (.var 4) (.cons (.var 5) .nil) .nil) (.sl (.var 4) .nil (.cons (.var 5) .nil))) (E10 ns F (some (.int p)) (some (chD .own ks h)) (some (.lst .own (ac.map Pv.D.str))) (some (.int t)) x6) = .ok (.lst .own ((ac.drop t ++ ac.take t).map Pv.D.str)) := by
    have ad : addD (.lst .own ((ac.drop t).map Pv.D.str)) (.lst .own ((ac.take t).map Pv.D.str)) = .ok (.lst .own ((ac.drop t ++ ac.take t).map Pv.D.str)) := by
      rw [addL _ _ _ _ rfl rfl (by simp only [List.length_map, List.length_drop, List.length_take]; omega), mpL_strs, mpL_strs, ← List.map_append]
    simp only [E10, bodyD_eq, res_nx, res_ret, res_exc, res_ite, eS1, eS2, eS3, eS4, eS5, eS6, eS7, eS8, eS9, eS10, eS11, eS12, eS13, eS14, eS15, eS16, eS17, eS18, eS19, eS20, eS21, eS22, eS23, eS24, eS25, eS26, eE1, eE2, eE3, eE4, eE5, eE6, eE7, eE8, eE9, eE10, eE11, eE12, eE13, eE14, eE15, eE16, eE17, eE18, eE19, eE20, eE21, eE22, eE23, eE24, eE25, eE26, eE27, eE28, eE29, eE30, eE31, eE32, eE33, eE34, eE35, eE36, eT1, eT2, eT3, eT4, eT5, eT6, eT7, eT8, eT9, eT10, eT11, eT12, eT13, eL1, eL2, eL3, eC1, eC2, eC3, eA1, eA2, eA3, eO1, eO2, eO3, eAV1, eAV2, eAV3, eOV1, eOV2, eOV3, out_ok, out_exc, thn_nx, thn_ret, thn_exc, thn_brk, thn_cnt, thn_ite, ok_bindN, exc_bindN, bad_bindN, pure_okN, getE0, getEs, putE, noBrw, am, noBrwM, bo, rt, mp, binD, cmpD, cmpI, addI, subI, negI, eqD_int, truthD, notR, absI, lenL, List.map_cons, List.map_nil, List.length_cons, List.length_nil, List.replicate, List.cons_append, List.nil_append, List.set, decide_true, decide_false, Bool.not_true, Bool.not_false, if_true, if_false, Bool.true_and, Bool.and_true, reduceIte, Bool.false_eq_true, decide_eq_true_eq, Nat.reduceSub, Nat.reduceAdd, Nat.reduceLT, Nat.zero_add, boM, mpL_strs, oneOpt, slL, cut_drop, cut_take, ← List.map_drop, ← List.map_take, ad]
  obtain ⟨y6, lo⟩ := loop10 ns F (some (.int p)) ks h ok (some (.lst .own (ac.map Pv.D.str))) (some (.int t)) (ac.drop t ++ ac.take t) x6 (fun z hz => by
    rcases List.mem_append.mp hz with hz | hz
    · exact oa z (List.mem_of_mem_drop hz)
    · exact oa z (List.mem_of_mem_take hz))
  have fo := forL_eq T10 [6] (.bin .Add (.sl (.var 4) (.cons (.var 5) .nil) .nil) (.sl (.var 4) .nil (.cons (.var 5) .nil))) b10w0 _ .own _ sr (by
    show (amL noBrwM _ && (true && amL noBrwM _)) = true
    rw [amL_strs]
    rfl)
  rw [mpL_strs, lo] at fo
  refine ⟨some (chD .own ks h), some (.lst .own (ac.map Pv.D.str)), some (.int t), y6, ?_⟩
  unfold b10w1
  rw [seq_nx e1, seq_nx e2, seq_nx e3, seq_nop]
  exact fo
theorem law_plain : ∀ ns : List Int, ns.length ≤ 63 → (∀ z ∈ ns, Builtin.Int.intBits z ≤ 1048576) → f10.m [.lst .kon (ns.map Pv.D.int)] = .ok (.bl true) := by
  intro ns hl hns
  have c0 : callD f2 [.lst .kon (ns.map Pv.D.int), .int 0] = .ok (.int (ns.getD 0 0)) := clC0 ns 0
  generalize ns.getD 0 0 = w0 at c0
  obtain ⟨F, hF, lF, oF⟩ := cl1 w0 6 (by omega)
  rw [show ((6 : Nat) : Int) = 6 from rfl] at hF
  have q := loopD_inv (f := evS T10 b10w1) (t := fun e x => tgE e [2] x) (fun _ env => ∃ x2 x3 x4 x5 x6, env = E10 ns F x2 x3 x4 x5 x6) [.int ((1 : Nat) : Int), .int ((2 : Nat) : Int), .int ((1 : Nat) : Int)] 0 (E10 ns F none none none none none) ⟨none, none, none, none, none, rfl⟩ (by
    rintro i d env hd ⟨x2, x3, x4, x5, x6, rfl⟩
    have hp : ∃ p : Nat, d = .int (p : Int) := by
      have hm := List.mem_of_getElem? hd
      rcases List.mem_cons.mp hm with e | hm
      · exact ⟨1, e⟩
      · rcases List.mem_cons.mp hm with e | hm
        · exact ⟨2, e⟩
        · exact ⟨1, List.mem_singleton.mp hm⟩
    obtain ⟨p, rfl⟩ := hp
    obtain ⟨y3, y4, y5, y6, t⟩ := turn10 ns F oF (by omega) p x3 x4 x5 x6
    exact ⟨E10 ns F (some (.int p)) x3 x4 x5 x6, _, tgE1 _ _ _ rfl (by unfold E10; simp), .inl t, _, y3, y4, y5, y6, rfl⟩)
  obtain ⟨_, e1, x2, x3, x4, x5, x6, rfl⟩ := q
  have lo3 : lineOk 3 = true := lineOk_le (by omega)
  have fo := forL_eq T10 [2] (.lst (.cons (.int 1) (.cons (.int 2) (.cons (.int 1) .nil)))) b10w1 (E10 ns F none none none none none) .own [.int 1, .int 2, .int 1] (by simp only [bodyD_eq, res_nx, res_ret, res_exc, res_ite, eS1, eS2, eS3, eS4, eS5, eS6, eS7, eS8, eS9, eS10, eS11, eS12, eS13, eS14, eS15, eS16, eS17, eS18, eS19, eS20, eS21, eS22, eS23, eS24, eS25, eS26, eE1, eE2, eE3, eE4, eE5, eE6, eE7, eE8, eE9, eE10, eE11, eE12, eE13, eE14, eE15, eE16, eE17, eE18, eE19, eE20, eE21, eE22, eE23, eE24, eE25, eE26, eE27, eE28, eE29, eE30, eE31, eE32, eE33, eE34, eE35, eE36, eT1, eT2, eT3, eT4, eT5, eT6, eT7, eT8, eT9, eT10, eT11, eT12, eT13, eL1, eL2, eL3, eC1, eC2, eC3, eA1, eA2, eA3, eO1, eO2, eO3, eAV1, eAV2, eAV3, eOV1, eOV2, eOV3, out_ok, out_exc, thn_nx, thn_ret, thn_exc, thn_brk, thn_cnt, thn_ite, ok_bindN, exc_bindN, bad_bindN, pure_okN, getE0, getEs, putE, noBrw, am, noBrwM, bo, rt, mp, binD, cmpD, cmpI, addI, subI, negI, eqD_int, truthD, notR, absI, lenL, List.map_cons, List.map_nil, List.length_cons, List.length_nil, List.replicate, List.cons_append, List.nil_append, List.set, decide_true, decide_false, Bool.not_true, Bool.not_false, if_true, if_false, Bool.true_and, Bool.and_true, reduceIte, Bool.false_eq_true, decide_eq_true_eq, Nat.reduceSub, Nat.reduceAdd, Nat.reduceLT, Nat.zero_add, mpL, lo3]) rfl
  rw [show mpL fzM [.int 1, .int 2, .int 1] = [.int ((1 : Nat) : Int), .int ((2 : Nat) : Int), .int ((1 : Nat) : Int)] from rfl, e1] at fo
  have hw : strOk "*within" = true := by decide +kernel
  have k6 : callD f6 [.str "*within", .bl true] = .ok (.str "*within") := by
    have := cl6t "*within" hw (by decide +kernel)
    rw [this]
    have e : wh "*within" = "*within" := by decide +kernel
    rw [e]
  have k5 := cl5 "*within" hw
  simp only [f10, bodyD_eq, List.map_cons, List.map_nil, List.length_cons, List.length_nil, Nat.reduceSub, Nat.reduceAdd, List.replicate, List.cons_append, List.nil_append]
  simp only [b10, u10_1, u10_2, u10_3, u10_4, u10_5, u10_6, u10_9, bodyD_eq, res_nx, res_ret, res_exc, res_ite, eS1, eS2, eS3, eS4, eS5, eS6, eS7, eS8, eS9, eS10, eS11, eS12, eS13, eS14, eS15, eS16, eS17, eS18, eS19, eS20, eS21, eS22, eS23, eS24, eS25, eS26, eE1, eE2, eE3, eE4, eE5, eE6, eE7, eE8, eE9, eE10, eE11, eE12, eE13, eE14, eE15, eE16, eE17, eE18, eE19, eE20, eE21, eE22, eE23, eE24, eE25, eE26, eE27, eE28, eE29, eE30, eE31, eE32, eE33, eE34, eE35, eE36, eT1, eT2, eT3, eT4, eT5, eT6, eT7, eT8, eT9, eT10, eT11, eT12, eT13, eL1, eL2, eL3, eC1, eC2, eC3, eA1, eA2, eA3, eO1, eO2, eO3, eAV1, eAV2, eAV3, eOV1, eOV2, eOV3, out_ok, out_exc, thn_nx, thn_ret, thn_exc, thn_brk, thn_cnt, thn_ite, ok_bindN, exc_bindN, bad_bindN, pure_okN, getE0, getEs, putE, noBrw, am, noBrwM, bo, rt, mp, binD, cmpD, cmpI, addI, subI, negI, eqD_int, truthD, notR, absI, lenL, List.map_cons, List.map_nil, List.length_cons, List.length_nil, List.replicate, List.cons_append, List.nil_append, List.set, decide_true, decide_false, Bool.not_true, Bool.not_false, if_true, if_false, Bool.true_and, Bool.and_true, reduceIte, Bool.false_eq_true, decide_eq_true_eq, Nat.reduceSub, Nat.reduceAdd, Nat.reduceLT, Nat.zero_add, boM, mpL_ints, c0, hF, amL_strs]
  rw [b10s1, show ([some (.lst .kon (ns.map Pv.D.int)), some (.lst .own (F.map Pv.D.str)), none, none, none, none, none] : Pv.Env) = E10 ns F none none none none none from rfl, seq_nx fo]
  simp only [b10s2, u10_1, u10_2, u10_3, u10_4, u10_5, u10_6, u10_9, bodyD_eq, res_nx, res_ret, res_exc, res_ite, eS1, eS2, eS3, eS4, eS5, eS6, eS7, eS8, eS9, eS10, eS11, eS12, eS13, eS14, eS15, eS16, eS17, eS18, eS19, eS20, eS21, eS22, eS23, eS24, eS25, eS26, eE1, eE2, eE3, eE4, eE5, eE6, eE7, eE8, eE9, eE10, eE11, eE12, eE13, eE14, eE15, eE16, eE17, eE18, eE19, eE20, eE21, eE22, eE23, eE24, eE25, eE26, eE27, eE28, eE29, eE30, eE31, eE32, eE33, eE34, eE35, eE36, eT1, eT2, eT3, eT4, eT5, eT6, eT7, eT8, eT9, eT10, eT11, eT12, eT13, eL1, eL2, eL3, eC1, eC2, eC3, eA1, eA2, eA3, eO1, eO2, eO3, eAV1, eAV2, eAV3, eOV1, eOV2, eOV3, out_ok, out_exc, thn_nx, thn_ret, thn_exc, thn_brk, thn_cnt, thn_ite, ok_bindN, exc_bindN, bad_bindN, pure_okN, getE0, getEs, putE, noBrw, am, noBrwM, bo, rt, mp, binD, cmpD, cmpI, addI, subI, negI, eqD_int, truthD, notR, absI, lenL, List.map_cons, List.map_nil, List.length_cons, List.length_nil, List.replicate, List.cons_append, List.nil_append, List.set, decide_true, decide_false, Bool.not_true, Bool.not_false, if_true, if_false, Bool.true_and, Bool.and_true, reduceIte, Bool.false_eq_true, decide_eq_true_eq, Nat.reduceSub, Nat.reduceAdd, Nat.reduceLT, Nat.zero_add, k6, k5]
theorem all_mk (law : ∀ ns : List Int, ns.length ≤ 63 → (∀ z ∈ ns, Builtin.Int.intBits z ≤ 1048576) → f10.m [.lst .kon (ns.map Pv.D.int)] = .ok (.bl true)) {P : Program} {w : World} {K : PySem.W.Frag} {h : Heap} {mg : Str → Option Value} {fa : Addr} (X : K.In h) (G : h.Ns mainGlobals mg) (hfa : mg "law" = some (.ref fa))
    {a0_ : Addr} {oc0 kV0 dc0 pm0 cd0 ct0 : Value} {od0 an0 : Option Addr} {sl0 : Array (Option Value)}
    {a1_ : Addr} {oc1 kV1 dc1 pm1 cd1 ct1 : Value} {od1 an1 : Option Addr} {sl1 : Array (Option Value)}
    {a2_ : Addr} {oc2 kV2 dc2 pm2 cd2 ct2 : Value} {od2 an2 : Option Addr} {sl2 : Array (Option Value)}
    {a3_ : Addr} {oc3 kV3 dc3 pm3 cd3 ct3 : Value} {od3 an3 : Option Addr} {sl3 : Array (Option Value)}
    {a4_ : Addr} {oc4 kV4 dc4 pm4 cd4 ct4 : Value} {od4 an4 : Option Addr} {sl4 : Array (Option Value)}
    {a5_ : Addr} {oc5 kV5 dc5 pm5 cd5 ct5 : Value} {od5 an5 : Option Addr} {sl5 : Array (Option Value)}
    {a6_ : Addr} {oc6 kV6 dc6 pm6 cd6 ct6 : Value} {od6 an6 : Option Addr} {sl6 : Array (Option Value)}
    {u6_ n6_ : Nat} {ou6 : Value} {du6 : Option Addr} {su6 : Array (Option Value)} 
    {a7_ : Addr} {oc7 kV7 dc7 pm7 cd7 ct7 : Value} {od7 an7 : Option Addr} {sl7 : Array (Option Value)}
    {a8_ : Addr} {oc8 kV8 dc8 pm8 cd8 ct8 : Value} {od8 an8 : Option Addr} {sl8 : Array (Option Value)}
    {a9_ : Addr} {oc9 kV9 dc9 pm9 cd9 ct9 : Value} {od9 an9 : Option Addr} {sl9 : Array (Option Value)}
    {a10_ : Addr} {oc10 kV10 dc10 pm10 cd10 ct10 : Value} {od10 an10 : Option Addr} {sl10 : Array (Option Value)}
    {ga0 gz0 : Nat} {gw0 : Array (Option Value)} {gt0_0 : Tok} {gt0_1 : Tok} {gt0_2 : Tok}
    {ga1 gz1 : Nat} {gw1 : Array (Option Value)} {gt1_0 : Tok} {gt1_1 : Tok} {gt1_2 : Tok} {gt1_3 : Tok}
    {ga2 gz2 : Nat} {gw2 : Array (Option Value)} {gt2_0 : Tok} {gt2_1 : Tok} {gt2_2 : Tok} {gt2_3 : Tok} {gt2_4 : Tok} {gt2_5 : Tok} {gt2_6 : Tok} {gt2_7 : Tok} {gt2_8 : Tok}
    (a0 : PySem.W.nsIn K mainGlobals "_law_mix" = some (some (.ref a0_)))
    (l0 : K.lookup a0_ = some ⟨oc0, od0, .func (PySem.W.fnOf "_law_mix" "_law_mix" (defArgs (top 8)) (defBody (top 8)) (defScope (top 8)) .none kV0 dc0 pm0 an0 cd0 ct0), sl0⟩)
    (c0_ : PySem.W.codeIn K cd0 "_law_mix" = true)
    (k0_ : PySem.W.keepIn K (.ref a0_) = true)
    (a1 : PySem.W.nsIn K mainGlobals "_law_names" = some (some (.ref a1_)))
    (l1 : K.lookup a1_ = some ⟨oc1, od1, .func (PySem.W.fnOf "_law_names" "_law_names" (defArgs (top 9)) (defBody (top 9)) (defScope (top 9)) .none kV1 dc1 pm1 an1 cd1 ct1), sl1⟩)
    (c1_ : PySem.W.codeIn K cd1 "_law_names" = true)
    (k1_ : PySem.W.keepIn K (.ref a1_) = true)
    (a2 : PySem.W.nsIn K mainGlobals "_law_cell_at" = some (some (.ref a2_)))
    (l2 : K.lookup a2_ = some ⟨oc2, od2, .func (PySem.W.fnOf "_law_cell_at" "_law_cell_at" (defArgs (top 7)) (defBody (top 7)) (defScope (top 7)) .none kV2 dc2 pm2 an2 cd2 ct2), sl2⟩)
    (c2_ : PySem.W.codeIn K cd2 "_law_cell_at" = true)
    (k2_ : PySem.W.keepIn K (.ref a2_) = true)
    (a3 : PySem.W.nsIn K mainGlobals "_law_chart" = some (some (.ref a3_)))
    (l3 : K.lookup a3_ = some ⟨oc3, od3, .func (PySem.W.fnOf "_law_chart" "_law_chart" (defArgs (top 10)) (defBody (top 10)) (defScope (top 10)) .none kV3 dc3 pm3 an3 cd3 ct3), sl3⟩)
    (c3_ : PySem.W.codeIn K cd3 "_law_chart" = true)
    (k3_ : PySem.W.keepIn K (.ref a3_) = true)
    (a4 : PySem.W.nsIn K mainGlobals "_law_accounts" = some (some (.ref a4_)))
    (l4 : K.lookup a4_ = some ⟨oc4, od4, .func (PySem.W.fnOf "_law_accounts" "_law_accounts" (defArgs (top 12)) (defBody (top 12)) (defScope (top 12)) .none kV4 dc4 pm4 an4 cd4 ct4), sl4⟩)
    (c4_ : PySem.W.codeIn K cd4 "_law_accounts" = true)
    (k4_ : PySem.W.keepIn K (.ref a4_) = true)
    (a5 : PySem.W.nsIn K mainGlobals "_law_text" = some (some (.ref a5_)))
    (l5 : K.lookup a5_ = some ⟨oc5, od5, .func (PySem.W.fnOf "_law_text" "_law_text" (defArgs (top 13)) (defBody (top 13)) (defScope (top 13)) .none kV5 dc5 pm5 an5 cd5 ct5), sl5⟩)
    (c5_ : PySem.W.codeIn K cd5 "_law_text" = true)
    (k5_ : PySem.W.keepIn K (.ref a5_) = true)
    (a6 : PySem.W.nsIn K mainGlobals "seen" = some (some (.ref a6_)))
    (l6 : K.lookup a6_ = some ⟨oc6, od6, .func (PySem.W.fnOf "seen" "seen" (defArgs (top 4)) (defBody (top 4)) (defScope (top 4)) (.ref u6_) kV6 dc6 pm6 an6 cd6 ct6), sl6⟩)
    (c6_ : PySem.W.codeIn K cd6 "seen" = true)
    (k6_ : PySem.W.keepIn K (.ref a6_) = true)
    (d6 : K.lookup u6_ = some ⟨ou6, du6, .seq (([.bool false] : List Value).toArray) n6_, su6⟩)
    (a7 : PySem.W.nsIn K mainGlobals "_law_heading" = some (some (.ref a7_)))
    (l7 : K.lookup a7_ = some ⟨oc7, od7, .func (PySem.W.fnOf "_law_heading" "_law_heading" (defArgs (top 11)) (defBody (top 11)) (defScope (top 11)) .none kV7 dc7 pm7 an7 cd7 ct7), sl7⟩)
    (c7_ : PySem.W.codeIn K cd7 "_law_heading" = true)
    (k7_ : PySem.W.keepIn K (.ref a7_) = true)
    (a8 : PySem.W.nsIn K mainGlobals "heading_of" = some (some (.ref a8_)))
    (l8 : K.lookup a8_ = some ⟨oc8, od8, .func (PySem.W.fnOf "heading_of" "heading_of" (defArgs (top 5)) (defBody (top 5)) (defScope (top 5)) .none kV8 dc8 pm8 an8 cd8 ct8), sl8⟩)
    (c8_ : PySem.W.codeIn K cd8 "heading_of" = true)
    (k8_ : PySem.W.keepIn K (.ref a8_) = true)
    (a9 : PySem.W.nsIn K mainGlobals "_law_good" = some (some (.ref a9_)))
    (l9 : K.lookup a9_ = some ⟨oc9, od9, .func (PySem.W.fnOf "_law_good" "_law_good" (defArgs (top 14)) (defBody (top 14)) (defScope (top 14)) .none kV9 dc9 pm9 an9 cd9 ct9), sl9⟩)
    (c9_ : PySem.W.codeIn K cd9 "_law_good" = true)
    (k9_ : PySem.W.keepIn K (.ref a9_) = true)
    (a10 : PySem.W.nsIn K mainGlobals "law" = some (some (.ref a10_)))
    (l10 : K.lookup a10_ = some ⟨oc10, od10, .func (PySem.W.fnOf "law" "law" (defArgs (top 15)) (defBody (top 15)) (defScope (top 15)) .none kV10 dc10 pm10 an10 cd10 ct10), sl10⟩)
    (c10_ : PySem.W.codeIn K cd10 "law" = true)
    (k10_ : PySem.W.keepIn K (.ref a10_) = true)
    (z_len : PySem.W.nsIn K mainGlobals "len" = some none)
    (z_abs : PySem.W.nsIn K mainGlobals "abs" = some none)
    (z_sum : PySem.W.nsIn K mainGlobals "sum" = some none)
    (z_sorted : PySem.W.nsIn K mainGlobals "sorted" = some none)
    (z_list : PySem.W.nsIn K mainGlobals "list" = some none)
    (z_int : PySem.W.nsIn K mainGlobals "int" = some none)
    (z_str : PySem.W.nsIn K mainGlobals "str" = some none)
    (z_max : PySem.W.nsIn K mainGlobals "max" = some none)
    (z_min : PySem.W.nsIn K mainGlobals "min" = some none)
    (z_isinstance : PySem.W.nsIn K mainGlobals "isinstance" = some none)
    (z_range : PySem.W.nsIn K mainGlobals "range" = some none)
    (z_bool : PySem.W.nsIn K mainGlobals "bool" = some none)
    (z_tuple : PySem.W.nsIn K mainGlobals "tuple" = some none)
    (z_dict : PySem.W.nsIn K mainGlobals "dict" = some none)
    (z_ValueError : PySem.W.nsIn K mainGlobals "ValueError" = some none)
    (z_reversed : PySem.W.nsIn K mainGlobals "reversed" = some none)
    (z_enumerate : PySem.W.nsIn K mainGlobals "enumerate" = some none)
    (gm0 : PySem.W.nsIn K mainGlobals "HAVE" = some (some (.ref ga0)))
    (gd0 : K.lookup ga0 = some ⟨.type "list", none, .seq (([.str "*goods" gt0_0, .str ".within" gt0_1, .str ".stake" gt0_2] : List Value).toArray) gz0, gw0⟩)
    (gm1 : PySem.W.nsIn K mainGlobals "OWN" = some (some (.ref ga1)))
    (gd1 : K.lookup ga1 = some ⟨.type "list", none, .seq (([.str "*payout" gt1_0, .str ".fund" gt1_1, .str ".payout" gt1_2, .str ".yield" gt1_3] : List Value).toArray) gz1, gw1⟩)
    (gm2 : PySem.W.nsIn K mainGlobals "RESULT" = some (some (.ref ga2)))
    (gd2 : K.lookup ga2 = some ⟨.type "list", none, .seq (([.str "*sales" gt2_0, .str "*cost" gt2_1, .str "*bridge" gt2_2, .str "*rounding" gt2_3, .str ".made" gt2_4, .str ".freed" gt2_5, .str ".income" gt2_6, .str ".outlay" gt2_7, .str ".bridge" gt2_8] : List Value).toArray) gz2, gw2⟩)
    : ∃ fd : FuncData, (∀ (s : Shared) (v : Value), BindsTo s fd ⟨[v], []⟩ [("_law_script", v)]) ∧ ∀ base : Heap, K.In base → base.Ns mainGlobals mg → FnOk P w K mg base (L2N.CX P w) 4 fa fd ["_law_script"] (spLawB K) := by
  have e := hfa.symm.trans (PySem.W.mg_of X G a10)
  cases e
  let cl : Nat → Addr := fun _ => 0
  have W : Wd lw K mg cl :=
    { one := fun _ z => (List.not_mem_nil z).elim
      rd := fun _ z => (List.not_mem_nil z).elim
      pr := fun _ z => (List.not_mem_nil z).elim
      rf := fun _ z => (List.not_mem_nil z).elim
      blt := List.forall_mem_cons.mpr ⟨PySem.W.mg_none_of X G z_len, List.forall_mem_cons.mpr ⟨PySem.W.mg_none_of X G z_abs, List.forall_mem_cons.mpr ⟨PySem.W.mg_none_of X G z_sum, List.forall_mem_cons.mpr ⟨PySem.W.mg_none_of X G z_sorted, List.forall_mem_cons.mpr ⟨PySem.W.mg_none_of X G z_list, List.forall_mem_cons.mpr ⟨PySem.W.mg_none_of X G z_int, List.forall_mem_cons.mpr ⟨PySem.W.mg_none_of X G z_str, List.forall_mem_cons.mpr ⟨PySem.W.mg_none_of X G z_max, List.forall_mem_cons.mpr ⟨PySem.W.mg_none_of X G z_min, List.forall_mem_cons.mpr ⟨PySem.W.mg_none_of X G z_isinstance, List.forall_mem_cons.mpr ⟨PySem.W.mg_none_of X G z_range, List.forall_mem_cons.mpr ⟨PySem.W.mg_none_of X G z_bool, List.forall_mem_cons.mpr ⟨PySem.W.mg_none_of X G z_tuple, List.forall_mem_cons.mpr ⟨PySem.W.mg_none_of X G z_dict, List.forall_mem_cons.mpr ⟨PySem.W.mg_none_of X G z_ValueError, List.forall_mem_cons.mpr ⟨PySem.W.mg_none_of X G z_reversed, List.forall_mem_cons.mpr ⟨PySem.W.mg_none_of X G z_enumerate, fun _ z => (List.not_mem_nil z).elim⟩⟩⟩⟩⟩⟩⟩⟩⟩⟩⟩⟩⟩⟩⟩⟩⟩
      glo := List.forall_mem_cons.mpr ⟨glo_list (ys := ["*goods", ".within", ".stake"]) (PySem.W.mg_of X G gm0) gd0 rfl (by simp) (.cons ⟨_, rfl⟩ (.cons ⟨_, rfl⟩ (.cons ⟨_, rfl⟩ .nil))), List.forall_mem_cons.mpr ⟨glo_list (ys := ["*payout", ".fund", ".payout", ".yield"]) (PySem.W.mg_of X G gm1) gd1 rfl (by simp) (.cons ⟨_, rfl⟩ (.cons ⟨_, rfl⟩ (.cons ⟨_, rfl⟩ (.cons ⟨_, rfl⟩ .nil)))), List.forall_mem_cons.mpr ⟨glo_list (ys := ["*sales", "*cost", "*bridge", "*rounding", ".made", ".freed", ".income", ".outlay", ".bridge"]) (PySem.W.mg_of X G gm2) gd2 rfl (by simp) (.cons ⟨_, rfl⟩ (.cons ⟨_, rfl⟩ (.cons ⟨_, rfl⟩ (.cons ⟨_, rfl⟩ (.cons ⟨_, rfl⟩ (.cons ⟨_, rfl⟩ (.cons ⟨_, rfl⟩ (.cons ⟨_, rfl⟩ (.cons ⟨_, rfl⟩ .nil))))))))), fun _ z => (List.not_mem_nil z).elim⟩⟩⟩ }
  have F0 := FunD.ofN l0 c0_ k0_
  have B0 : Binds K _ ["_law_cell", "_law_k"] [] := F0.bindsN (ps := ["_law_cell", "_law_k"]) fun _ _ _ _ _ _ us hl => match us, hl with | [_, _], _ => rfl
  have F1 := FunD.ofN l1 c1_ k1_
  have B1 : Binds K _ ["_law_cell", "_law_many"] [] := F1.bindsN (ps := ["_law_cell", "_law_many"]) fun _ _ _ _ _ _ us hl => match us, hl with | [_, _], _ => rfl
  have F2 := FunD.ofN l2 c2_ k2_
  have B2 : Binds K _ ["_law_script", "_law_k"] [] := F2.bindsN (ps := ["_law_script", "_law_k"]) fun _ _ _ _ _ _ us hl => match us, hl with | [_, _], _ => rfl
  have F3 := FunD.ofN l3 c3_ k3_
  have B3 : Binds K _ ["_law_cell"] [] := F3.bindsN (ps := ["_law_cell"]) fun _ _ _ _ _ _ us hl => match us, hl with | [_], _ => rfl
  have F4 := FunD.ofN l4 c4_ k4_
  have B4 : Binds K _ ["_law_chart_here", "_law_firms"] [] := F4.bindsN (ps := ["_law_chart_here", "_law_firms"]) fun _ _ _ _ _ _ us hl => match us, hl with | [_, _], _ => rfl
  have F5 := FunD.ofN l5 c5_ k5_
  have B5 : Binds K _ ["_law_found", "_law_due"] [] := F5.bindsN (ps := ["_law_found", "_law_due"]) fun _ _ _ _ _ _ us hl => match us, hl with | [_, _], _ => rfl
  have F6 := FunD.ofD (dvs := [.bl false]) l6 c6_ k6_ d6 (by simp) (.cons rfl .nil)
  have B6 : ∀ n, n ≤ f6.dfl.length → ∃ us, Binds K _ ["account", "whole"] us ∧ Vals ((f6.dfl.drop n).map scV) us := fun n hn => match n, hn with
    | 0, _ => by obtain ⟨us, h1, h2⟩ := F6.binds1 (ps := ["account", "whole"]) 1 0 (by simp) rfl fun _ _ _ _ _ _ _ us its h1 h2 => (match us, its, h1, h2 with | [_], [_], _, _ => ⟨_, rfl, rfl⟩); exact ⟨us, h2, h1⟩
    | 1, _ => by obtain ⟨us, h1, h2⟩ := F6.binds1 (ps := ["account", "whole"]) 2 1 (by simp) rfl fun _ _ _ _ _ _ _ us its h1 h2 => (match us, its, h1, h2 with | [_, _], [_], _, _ => ⟨_, rfl, rfl⟩); exact ⟨us, h2, h1⟩
    | n + 2, hn => absurd hn (by show ¬ (n + 2 ≤ 1); omega)
  have F7 := FunD.ofN l7 c7_ k7_
  have B7 : Binds K _ ["_law_account", "_law_chart_here"] [] := F7.bindsN (ps := ["_law_account", "_law_chart_here"]) fun _ _ _ _ _ _ us hl => match us, hl with | [_, _], _ => rfl
  have F8 := FunD.ofN l8 c8_ k8_
  have B8 : Binds K _ ["account", "chart"] [] := F8.bindsN (ps := ["account", "chart"]) fun _ _ _ _ _ _ us hl => match us, hl with | [_, _], _ => rfl
  have F9 := FunD.ofN l9 c9_ k9_
  have B9 : Binds K _ ["_law_account", "_law_chart_here"] [] := F9.bindsN (ps := ["_law_account", "_law_chart_here"]) fun _ _ _ _ _ _ us hl => match us, hl with | [_, _], _ => rfl
  have F10 := FunD.ofN l10 c10_ k10_
  have B10 : Binds K _ ["_law_script"] [] := F10.bindsN (ps := ["_law_script"]) fun _ _ _ _ _ _ us hl => match us, hl with | [_], _ => rfl
  refine ⟨_, fun s v => F10.bindsA (ps := ["_law_script"]) (fun _ _ _ _ _ _ us hl => match us, hl with | [_], _ => rfl) s [v] rfl, fun base hk hn => ?_⟩
  have H0 := k0 (P := P) (w := w) (base := base) W F0 (PySem.W.mg_of X G a0) (bind0 B0) 
  have H1 := k1 (P := P) (w := w) (base := base) W F1 (PySem.W.mg_of X G a1) (bind0 B1) H0
  have H2 := k2 (P := P) (w := w) (base := base) W F2 (PySem.W.mg_of X G a2) (bind0 B2) 
  have H3 := k3 (P := P) (w := w) (base := base) W F3 (PySem.W.mg_of X G a3) (bind0 B3) H0 H1
  have H4 := k4 (P := P) (w := w) (base := base) W F4 (PySem.W.mg_of X G a4) (bind0 B4) 
  have H5 := k5 (P := P) (w := w) (base := base) W F5 (PySem.W.mg_of X G a5) (bind0 B5) 
  have H6 := k6 (P := P) (w := w) (base := base) W F6 (PySem.W.mg_of X G a6) B6 
  have H7 := k7 (P := P) (w := w) (base := base) W F7 (PySem.W.mg_of X G a7) (bind0 B7) 
  have H8 := k8 (P := P) (w := w) (base := base) W F8 (PySem.W.mg_of X G a8) (bind0 B8) 
  have H9 := k9 (P := P) (w := w) (base := base) W F9 (PySem.W.mg_of X G a9) (bind0 B9) H5 H6 H7 H8
  exact law_ok (G := gx lw t10 P w K mg base cl) (F := f10) (kL W F10 H1 H2 H3 H4 H5 H6 H9) rfl law
end K71
open PySem PySem.W PyProof.Rows
set_option maxRecDepth 100000 in
set_option maxHeartbeats 0 in
theorem PySem.Challenge.cw_groupbooks_k71_seen_and_headings_holds : PySem.Challenge.rw_groupbooks_k71_seen_and_headings.Holds := by
  w_on; o_law; k_head; (case hw => w_witness2)
  k_fill
  refine Pv.walk_k (l := PySem.Challenge.rw_groupbooks_k71_seen_and_headings) (k := 4) "_law_script" rfl rfl ⟨rfl, by decide, by decide⟩ (fun w h Y => PySem.W.kIn_of Y) ?F
  case F =>
    intro w mg fa h KX G hmg
    refine' K71.all_mk K71.law_plain KX G hmg ?ff_a0 ?ff_l0 ?ff_c0_ ?ff_k0_ ?ff_a1 ?ff_l1 ?ff_c1_ ?ff_k1_ ?ff_a2 ?ff_l2 ?ff_c2_ ?ff_k2_ ?ff_a3 ?ff_l3 ?ff_c3_ ?ff_k3_ ?ff_a4 ?ff_l4 ?ff_c4_ ?ff_k4_ ?ff_a5 ?ff_l5 ?ff_c5_ ?ff_k5_ ?ff_a6 ?ff_l6 ?ff_c6_ ?ff_k6_ ?ff_d6 ?ff_a7 ?ff_l7 ?ff_c7_ ?ff_k7_ ?ff_a8 ?ff_l8 ?ff_c8_ ?ff_k8_ ?ff_a9 ?ff_l9 ?ff_c9_ ?ff_k9_ ?ff_a10 ?ff_l10 ?ff_c10_ ?ff_k10_ ?ff_z_len ?ff_z_abs ?ff_z_sum ?ff_z_sorted ?ff_z_list ?ff_z_int ?ff_z_str ?ff_z_max ?ff_z_min ?ff_z_isinstance ?ff_z_range ?ff_z_bool ?ff_z_tuple ?ff_z_dict ?ff_z_ValueError ?ff_z_reversed ?ff_z_enumerate ?ff_gm0 ?ff_gd0 ?ff_gm1 ?ff_gd1 ?ff_gm2 ?ff_gd2
    (case ff_a0 => k_is)
    (case ff_l0 => k_is)
    (case ff_c0_ => k_is)
    (case ff_k0_ => k_is)
    (case ff_a1 => k_is)
    (case ff_l1 => k_is)
    (case ff_c1_ => k_is)
    (case ff_k1_ => k_is)
    (case ff_a2 => k_is)
    (case ff_l2 => k_is)
    (case ff_c2_ => k_is)
    (case ff_k2_ => k_is)
    (case ff_a3 => k_is)
    (case ff_l3 => k_is)
    (case ff_c3_ => k_is)
    (case ff_k3_ => k_is)
    (case ff_a4 => k_is)
    (case ff_l4 => k_is)
    (case ff_c4_ => k_is)
    (case ff_k4_ => k_is)
    (case ff_a5 => k_is)
    (case ff_l5 => k_is)
    (case ff_c5_ => k_is)
    (case ff_k5_ => k_is)
    (case ff_a6 => k_is)
    (case ff_l6 => k_is)
    (case ff_c6_ => k_is)
    (case ff_k6_ => k_is)
    (case ff_d6 => k_is)
    (case ff_a7 => k_is)
    (case ff_l7 => k_is)
    (case ff_c7_ => k_is)
    (case ff_k7_ => k_is)
    (case ff_a8 => k_is)
    (case ff_l8 => k_is)
    (case ff_c8_ => k_is)
    (case ff_k8_ => k_is)
    (case ff_a9 => k_is)
    (case ff_l9 => k_is)
    (case ff_c9_ => k_is)
    (case ff_k9_ => k_is)
    (case ff_a10 => k_is)
    (case ff_l10 => k_is)
    (case ff_c10_ => k_is)
    (case ff_k10_ => k_is)
    (case ff_z_len => k_is)
    (case ff_z_abs => k_is)
    (case ff_z_sum => k_is)
    (case ff_z_sorted => k_is)
    (case ff_z_list => k_is)
    (case ff_z_int => k_is)
    (case ff_z_str => k_is)
    (case ff_z_max => k_is)
    (case ff_z_min => k_is)
    (case ff_z_isinstance => k_is)
    (case ff_z_range => k_is)
    (case ff_z_bool => k_is)
    (case ff_z_tuple => k_is)
    (case ff_z_dict => k_is)
    (case ff_z_ValueError => k_is)
    (case ff_z_reversed => k_is)
    (case ff_z_enumerate => k_is)
    (case ff_gm0 => k_is)
    (case ff_gd0 => k_is)
    (case ff_gm1 => k_is)
    (case ff_gd1 => k_is)
    (case ff_gm2 => k_is)
    (case ff_gd2 => k_is)
