import PyProof.Rows.All
import Wide.All
import OpenK.AllK
import Wide.FinOn
import HandS.ForMost
import HandS.ForExc
import HandS.Wide
import HandS.Text
import HandS.TupAny
import HandS.SortInts
import HandS.IsInst
import HandS.Deep
import HandS.HotCalls
import HandS.ExcIs
import HandS.ExcOwn
import HandS.Defaults
import HandS.EndBits
import PySem.Challenge.RW_groupbooks_k51_layer_costs
set_option Elab.async false
set_option linter.all false
set_option maxRecDepth 100000
set_option maxHeartbeats 1000000
/-! Pv1: data with modes (D), how it lies in the abstract heap (Rl), what stays so. -/
namespace Pv
open PySem L2
abbrev Frag := PySem.W.Frag
/-- own: made here and known by one road; shr: shared, never written; brw: an own one, seen while nothing is written; kon: shared, maybe locked or of the top -/
inductive Md where
  | own | shr | brw | kon | exn
  deriving DecidableEq
inductive D where
  | non | bl (b : Bool) | int (i : Int) | str (s : Str)
  | tup (l : List D) | lst (m : Md) (l : List D)
  | dk (m : Md) (l : List (Key × D)) | dt (m : Md) (l : List (List Key × D))
  | ins (m : Md) (c : Nat) (l : List (Str × D))
/-- the fixed things: the written part, the classes by number -/
structure Kc where
  K : Frag
  cl : Nat → Addr
  ex : Option (Nat × Addr)
/-- the heap but for some -/
def cut (H : Hp) (os : List Addr) : Hp := fun a => if a ∈ os then none else H a
theorem cut_in {H : Hp} {os : List Addr} {a : Addr} (h : a ∈ os) : cut H os a = none := if_pos h
theorem cut_out {H : Hp} {os : List Addr} {a : Addr} (h : a ∉ os) : cut H os a = H a := if_neg h
theorem cut_some {H : Hp} {os : List Addr} {a : Addr} {o : HO} (h : cut H os a = some o) : H a = some o ∧ a ∉ os := by
  unfold cut at h
  split at h
  · cases h
  · exact ⟨h, by assumption⟩
theorem cut_sub {H : Hp} {os os' : List Addr} (h : ∀ a ∈ os', a ∈ os) : Same (cut H os) (cut H os') := fun a o e => by
  obtain ⟨e1, e2⟩ := cut_some e
  rw [cut_out (fun z => e2 (h a z))]
  exact e1
theorem cut_mono {H H' : Hp} {os : List Addr} (h : Same H H') : Same (cut H os) (cut H' os) := fun a o e => by
  obtain ⟨e1, e2⟩ := cut_some e
  rw [cut_out e2]
  exact h a o e1
theorem cut_upd {H : Hp} {os : List Addr} {a : Addr} {o : HO} (h : a ∈ os) : cut (upd H a o) os = cut H os := by
  funext b
  unfold cut
  split
  · rfl
  · rename_i hb
    exact upd_ne (fun z => hb (z ▸ h))
theorem cut_nil (H : Hp) : cut H [] = H := by
  funext b
  exact cut_out (by simp)
theorem same_cut (H : Hp) (os : List Addr) : Same (cut H os) H := fun _ _ e => (cut_some e).1
/-- fresh things may be cut out as well -/
theorem cut_fresh {H H' : Hp} {os fq : List Addr} (h : Same H H') (hf : ∀ a ∈ fq, H a = none) : Same (cut H os) (cut H' (fq ++ os)) := fun a o e => by
  obtain ⟨e1, e2⟩ := cut_some e
  rw [cut_out]
  · exact h a o e1
  · intro z
    rcases List.mem_append.mp z with z | z
    · rw [hf a z] at e1
      cases e1
    · exact e2 z

mutual
/-- v is d in the heap H; B: what never changes; W: what may be borrowed; the last: the own addresses in it -/
inductive Rl (C : Kc) (B H : Hp) (W : List Addr) : V → D → List Addr → Prop
  | non : Rl C B H W .non .non []
  | bl (b : Bool) : Rl C B H W (.bl b) (.bl b) []
  | int (i : Int) : Rl C B H W (.int i) (.int i) []
  | str (s : Str) : Rl C B H W (.str s) (.str s) []
  | tup {a : Addr} {vs : List V} {ds : List D} {fp : List Addr} : SqT C.K B a vs → RlL C B H W vs ds fp → Rl C B H W (.ref a) (.tup ds) fp
  | lstK {a : Addr} {vs : List V} {ds : List D} : SqL C.K B a vs → RlL C B H W vs ds [] → Rl C B H W (.ref a) (.lst .kon ds) []
  | lstS {a : Addr} {vs : List V} {ds : List D} : B a = some (.lst vs) → RlL C B H W vs ds [] → Rl C B H W (.ref a) (.lst .shr ds) []
  | lstB {a : Addr} {vs : List V} {ds : List D} : a ∈ W → H a = some (.lst vs) → RlL C B H W vs ds [] → Rl C B H W (.ref a) (.lst .brw ds) []
  | lstO {a : Addr} {vs : List V} {ds : List D} {fp : List Addr} : H a = some (.lst vs) → RlL C B H W vs ds fp → Rl C B H W (.ref a) (.lst .own ds) (a :: fp)
  | dkS {a : Addr} {vs : List (Key × V)} {ds : List (Key × D)} : B a = some (.dK vs) → RlP C B H W Key vs ds [] → Rl C B H W (.ref a) (.dk .shr ds) []
  | dkB {a : Addr} {vs : List (Key × V)} {ds : List (Key × D)} : a ∈ W → H a = some (.dK vs) → RlP C B H W Key vs ds [] → Rl C B H W (.ref a) (.dk .brw ds) []
  | dkO {a : Addr} {vs : List (Key × V)} {ds : List (Key × D)} {fp : List Addr} : H a = some (.dK vs) → RlP C B H W Key vs ds fp → Rl C B H W (.ref a) (.dk .own ds) (a :: fp)
  | dtS {a : Addr} {vs : List (List Key × V)} {ds : List (List Key × D)} : B a = some (.dT vs) → RlP C B H W (List Key) vs ds [] → Rl C B H W (.ref a) (.dt .shr ds) []
  | dtB {a : Addr} {vs : List (List Key × V)} {ds : List (List Key × D)} : a ∈ W → H a = some (.dT vs) → RlP C B H W (List Key) vs ds [] → Rl C B H W (.ref a) (.dt .brw ds) []
  | dtO {a : Addr} {vs : List (List Key × V)} {ds : List (List Key × D)} {fp : List Addr} : H a = some (.dT vs) → RlP C B H W (List Key) vs ds fp → Rl C B H W (.ref a) (.dt .own ds) (a :: fp)
  | insS {a dx : Addr} {n : Nat} {vs : List (Str × V)} {ds : List (Str × D)} : B a = some (.ins (C.cl n) dx vs) → RlP C B H W Str vs ds [] → Rl C B H W (.ref a) (.ins .shr n ds) []
  | insB {a dx : Addr} {n : Nat} {vs : List (Str × V)} {ds : List (Str × D)} : a ∈ W → H a = some (.ins (C.cl n) dx vs) → RlP C B H W Str vs ds [] → Rl C B H W (.ref a) (.ins .brw n ds) []
  | insO {a dx : Addr} {n : Nat} {vs : List (Str × V)} {ds : List (Str × D)} {fp : List Addr} : H a = some (.ins (C.cl n) dx vs) → RlP C B H W Str vs ds fp → Rl C B H W (.ref a) (.ins .own n ds) (a :: fp)
  | insX {a : Addr} {n : Nat} : C.ex = some (n, a) → Rl C B H W (.ref a) (.ins .exn n []) []
inductive RlL (C : Kc) (B H : Hp) (W : List Addr) : List V → List D → List Addr → Prop
  | nil : RlL C B H W [] [] []
  | cons {v : V} {d : D} {fp : List Addr} {vs : List V} {ds : List D} {fq : List Addr} : Rl C B H W v d fp → RlL C B H W vs ds fq → RlL C B H W (v :: vs) (d :: ds) (fp ++ fq)
inductive RlP (C : Kc) (B H : Hp) (W : List Addr) : (κ : Type) → List (κ × V) → List (κ × D) → List Addr → Prop
  | nil {κ : Type} : RlP C B H W κ [] [] []
  | cons {κ : Type} {k : κ} {v : V} {d : D} {fp : List Addr} {vs : List (κ × V)} {ds : List (κ × D)} {fq : List Addr} : Rl C B H W v d fp → RlP C B H W κ vs ds fq → RlP C B H W κ ((k, v) :: vs) ((k, d) :: ds) (fp ++ fq)
end

theorem Same.rd {H H' : Hp} (e : Same H H') {a : Addr} {u : HO} (h : Rd H a u) : Rd H' a u := by
  rcases h with h | ⟨o, h⟩
  · exact .inl (e a _ h)
  · exact .inr ⟨o, e a _ h⟩
theorem Same.sqT {K : Frag} {H H' : Hp} (e : Same H H') {a : Addr} {xs : List V} (h : SqT K H a xs) : SqT K H' a xs := by
  rcases h with h | h
  · exact .inl (Same.rd e h)
  · exact .inr h
theorem Same.sqL {K : Frag} {H H' : Hp} (e : Same H H') {a : Addr} {xs : List V} (h : SqL K H a xs) : SqL K H' a xs := by
  rcases h with h | h
  · exact .inl (Same.rd e h)
  · exact .inr h

/-! ### modes -/
mutual
def mp (f : Md → Md) : D → D
  | .non => .non
  | .bl b => .bl b
  | .int i => .int i
  | .str s => .str s
  | .tup l => .tup (mpL f l)
  | .lst m l => .lst (f m) (mpL f l)
  | .dk m l => .dk (f m) (mpK f l)
  | .dt m l => .dt (f m) (mpT f l)
  | .ins m c l => .ins (f m) c (mpF f l)
def mpL (f : Md → Md) : List D → List D
  | [] => []
  | d :: r => mp f d :: mpL f r
def mpK (f : Md → Md) : List (Key × D) → List (Key × D)
  | [] => []
  | (k, d) :: r => (k, mp f d) :: mpK f r
def mpT (f : Md → Md) : List (List Key × D) → List (List Key × D)
  | [] => []
  | (k, d) :: r => (k, mp f d) :: mpT f r
def mpF (f : Md → Md) : List (Str × D) → List (Str × D)
  | [] => []
  | (k, d) :: r => (k, mp f d) :: mpF f r
end
mutual
def am (p : Md → Bool) : D → Bool
  | .non => true
  | .bl b => true
  | .int i => true
  | .str s => true
  | .tup l => amL p l
  | .lst m l => p m && amL p l
  | .dk m l => p m && amK p l
  | .dt m l => p m && amT p l
  | .ins m c l => p m && amF p l
def amL (p : Md → Bool) : List D → Bool
  | [] => true
  | d :: r => am p d && amL p r
def amK (p : Md → Bool) : List (Key × D) → Bool
  | [] => true
  | (k, d) :: r => am p d && amK p r
def amT (p : Md → Bool) : List (List Key × D) → Bool
  | [] => true
  | (k, d) :: r => am p d && amT p r
def amF (p : Md → Bool) : List (Str × D) → Bool
  | [] => true
  | (k, d) :: r => am p d && amF p r
end
theorem mpL_eq (f : Md → Md) : ∀ l, mpL f l = l.map (mp f)
  | [] => rfl
  | d :: r => by rw [mpL, mpL_eq f r]; rfl
theorem amL_eq (p : Md → Bool) : ∀ l, amL p l = l.all (am p)
  | [] => rfl
  | d :: r => by rw [amL, amL_eq p r]; rfl
theorem mpK_eq (f : Md → Md) : ∀ l : List (Key × D), mpK f l = l.map fun q => (q.1, mp f q.2)
  | [] => rfl
  | (k, d) :: r => by rw [mpK, mpK_eq f r]; rfl
theorem amK_eq (p : Md → Bool) : ∀ l : List (Key × D), amK p l = l.all fun q => am p q.2
  | [] => rfl
  | (k, d) :: r => by rw [amK, amK_eq p r]; rfl
theorem mpT_eq (f : Md → Md) : ∀ l : List (List Key × D), mpT f l = l.map fun q => (q.1, mp f q.2)
  | [] => rfl
  | (k, d) :: r => by rw [mpT, mpT_eq f r]; rfl
theorem amT_eq (p : Md → Bool) : ∀ l : List (List Key × D), amT p l = l.all fun q => am p q.2
  | [] => rfl
  | (k, d) :: r => by rw [amT, amT_eq p r]; rfl
theorem mpF_eq (f : Md → Md) : ∀ l : List (Str × D), mpF f l = l.map fun q => (q.1, mp f q.2)
  | [] => rfl
  | (k, d) :: r => by rw [mpF, mpF_eq f r]; rfl
theorem amF_eq (p : Md → Bool) : ∀ l : List (Str × D), amF p l = l.all fun q => am p q.2
  | [] => rfl
  | (k, d) :: r => by rw [amF, amF_eq p r]; rfl
/-- frozen for ever -/
def fzM : Md → Md
  | .own => .shr
  | m => m
/-- handed back -/
def rtM : Md → Md
  | .brw => .shr
  | m => m
/-- handed in -/
def shM : Md → Md
  | .own => .shr
  | .brw => .shr
  | m => m
/-- seen -/
def boM : Md → Md
  | .own => .brw
  | m => m
def isOwn : Md → Bool
  | .own => true
  | _ => false
def noOwnM : Md → Bool
  | .own => false
  | _ => true
def noBrwM : Md → Bool
  | .brw => false
  | _ => true
abbrev fz : D → D := mp fzM
abbrev sh : D → D := mp shM
abbrev rt : D → D := mp rtM
abbrev bo : D → D := mp boM
abbrev clean : D → Bool := am isOwn
abbrev noOwn : D → Bool := am noOwnM
abbrev noBrw : D → Bool := am noBrwM
mutual
theorem Rl.mono {C : Kc} {B B' H H' : Hp} {W : List Addr} (hB : Same B B') (hH : Same H H') : ∀ {v : V} {d : D} {fp : List Addr}, Rl C B H W v d fp → Rl C B' H' W v d fp
  | _, _, _, .non => .non
  | _, _, _, .bl b => .bl b
  | _, _, _, .int i => .int i
  | _, _, _, .str s => .str s
  | _, _, _, .tup h l => .tup (Same.sqT hB h) (RlL.mono hB hH l)
  | _, _, _, .lstK h l => .lstK (Same.sqL hB h) (RlL.mono hB hH l)
  | _, _, _, .lstS h l => .lstS (hB _ _ h) (RlL.mono hB hH l)
  | _, _, _, .lstB w h l => .lstB w (hH _ _ h) (RlL.mono hB hH l)
  | _, _, _, .lstO h l => .lstO (hH _ _ h) (RlL.mono hB hH l)
  | _, _, _, .dkS h l => .dkS (hB _ _ h) (RlP.mono hB hH l)
  | _, _, _, .dkB w h l => .dkB w (hH _ _ h) (RlP.mono hB hH l)
  | _, _, _, .dkO h l => .dkO (hH _ _ h) (RlP.mono hB hH l)
  | _, _, _, .dtS h l => .dtS (hB _ _ h) (RlP.mono hB hH l)
  | _, _, _, .dtB w h l => .dtB w (hH _ _ h) (RlP.mono hB hH l)
  | _, _, _, .dtO h l => .dtO (hH _ _ h) (RlP.mono hB hH l)
  | _, _, _, .insS h l => .insS (hB _ _ h) (RlP.mono hB hH l)
  | _, _, _, .insB w h l => .insB w (hH _ _ h) (RlP.mono hB hH l)
  | _, _, _, .insO h l => .insO (hH _ _ h) (RlP.mono hB hH l)
  | _, _, _, .insX h => .insX h
theorem RlL.mono {C : Kc} {B B' H H' : Hp} {W : List Addr} (hB : Same B B') (hH : Same H H') : ∀ {v : List V} {d : List D} {fp : List Addr}, RlL C B H W v d fp → RlL C B' H' W v d fp
  | _, _, _, .nil => .nil
  | _, _, _, .cons h l => .cons (Rl.mono hB hH h) (RlL.mono hB hH l)
theorem RlP.mono {C : Kc} {B B' H H' : Hp} {W : List Addr} (hB : Same B B') (hH : Same H H') : ∀ {κ : Type} {v : List (κ × V)} {d : List (κ × D)} {fp : List Addr}, RlP C B H W κ v d fp → RlP C B' H' W κ v d fp
  | _, _, _, _, .nil => .nil
  | _, _, _, _, .cons h l => .cons (Rl.mono hB hH h) (RlP.mono hB hH l)
end
mutual
theorem Rl.wm {C : Kc} {B H : Hp} {W W' : List Addr} (w : ∀ a ∈ W, a ∈ W') : ∀ {v : V} {d : D} {fp : List Addr}, Rl C B H W v d fp → Rl C B H W' v d fp
  | _, _, _, .non => .non
  | _, _, _, .bl b => .bl b
  | _, _, _, .int i => .int i
  | _, _, _, .str s => .str s
  | _, _, _, .tup h l => .tup h (RlL.wm w l)
  | _, _, _, .lstK h l => .lstK h (RlL.wm w l)
  | _, _, _, .lstS h l => .lstS h (RlL.wm w l)
  | _, _, _, .lstB m h l => .lstB (w _ m) h (RlL.wm w l)
  | _, _, _, .lstO h l => .lstO h (RlL.wm w l)
  | _, _, _, .dkS h l => .dkS h (RlP.wm w l)
  | _, _, _, .dkB m h l => .dkB (w _ m) h (RlP.wm w l)
  | _, _, _, .dkO h l => .dkO h (RlP.wm w l)
  | _, _, _, .dtS h l => .dtS h (RlP.wm w l)
  | _, _, _, .dtB m h l => .dtB (w _ m) h (RlP.wm w l)
  | _, _, _, .dtO h l => .dtO h (RlP.wm w l)
  | _, _, _, .insS h l => .insS h (RlP.wm w l)
  | _, _, _, .insB m h l => .insB (w _ m) h (RlP.wm w l)
  | _, _, _, .insO h l => .insO h (RlP.wm w l)
  | _, _, _, .insX h => .insX h
theorem RlL.wm {C : Kc} {B H : Hp} {W W' : List Addr} (w : ∀ a ∈ W, a ∈ W') : ∀ {v : List V} {d : List D} {fp : List Addr}, RlL C B H W v d fp → RlL C B H W' v d fp
  | _, _, _, .nil => .nil
  | _, _, _, .cons h l => .cons (Rl.wm w h) (RlL.wm w l)
theorem RlP.wm {C : Kc} {B H : Hp} {W W' : List Addr} (w : ∀ a ∈ W, a ∈ W') : ∀ {κ : Type} {v : List (κ × V)} {d : List (κ × D)} {fp : List Addr}, RlP C B H W κ v d fp → RlP C B H W' κ v d fp
  | _, _, _, _, .nil => .nil
  | _, _, _, _, .cons h l => .cons (Rl.wm w h) (RlP.wm w l)
end
mutual
/-- an own thing is seen -/
theorem Rl.bw {C : Kc} {B H : Hp} {W W' : List Addr} : ∀ {v : V} {d : D} {fp : List Addr}, Rl C B H W v d fp → noBrw d = true → (∀ a ∈ fp, a ∈ W') → Rl C B H W' v (bo d) []
  | _, _, _, .non, _, _ => .non
  | _, _, _, .bl b, _, _ => .bl b
  | _, _, _, .int i, _, _ => .int i
  | _, _, _, .str s, _, _ => .str s
  | _, _, _, .tup h l, n, w => .tup h (RlL.bw l n w)
  | _, _, _, .lstK h l, n, w => .lstK h (RlL.bw l (by simpa [noBrw, am, noBrwM] using n) w)
  | _, _, _, .lstS h l, n, w => .lstS h (RlL.bw l (by simpa [noBrw, am, noBrwM] using n) w)
  | _, _, _, .lstB _ h l, n, w => by simp [noBrw, am, noBrwM] at n
  | _, _, _, .lstO h l, n, w => .lstB (w _ List.mem_cons_self) h (RlL.bw l (by simpa [noBrw, am, noBrwM] using n) fun a ha => w a (List.mem_cons_of_mem _ ha))
  | _, _, _, .dkS h l, n, w => .dkS h (RlP.bwK l (by simpa [noBrw, am, noBrwM] using n) w)
  | _, _, _, .dkB _ h l, n, w => by simp [noBrw, am, noBrwM] at n
  | _, _, _, .dkO h l, n, w => .dkB (w _ List.mem_cons_self) h (RlP.bwK l (by simpa [noBrw, am, noBrwM] using n) fun a ha => w a (List.mem_cons_of_mem _ ha))
  | _, _, _, .dtS h l, n, w => .dtS h (RlP.bwT l (by simpa [noBrw, am, noBrwM] using n) w)
  | _, _, _, .dtB _ h l, n, w => by simp [noBrw, am, noBrwM] at n
  | _, _, _, .dtO h l, n, w => .dtB (w _ List.mem_cons_self) h (RlP.bwT l (by simpa [noBrw, am, noBrwM] using n) fun a ha => w a (List.mem_cons_of_mem _ ha))
  | _, _, _, .insS h l, n, w => .insS h (RlP.bwF l (by simpa [noBrw, am, noBrwM] using n) w)
  | _, _, _, .insB _ h l, n, w => by simp [noBrw, am, noBrwM] at n
  | _, _, _, .insO h l, n, w => .insB (w _ List.mem_cons_self) h (RlP.bwF l (by simpa [noBrw, am, noBrwM] using n) fun a ha => w a (List.mem_cons_of_mem _ ha))
  | _, _, _, .insX h, n, w => .insX h
theorem RlL.bw {C : Kc} {B H : Hp} {W W' : List Addr} : ∀ {v : List V} {d : List D} {fp : List Addr}, RlL C B H W v d fp → amL noBrwM d = true → (∀ a ∈ fp, a ∈ W') → RlL C B H W' v (mpL boM d) []
  | _, _, _, .nil, _, _ => .nil
  | _, _, _, .cons h l, n, w => .cons (fp := []) (fq := []) (Rl.bw h (by simp only [amL, Bool.and_eq_true] at n; exact n.1) fun a ha => w a (List.mem_append_left _ ha)) (RlL.bw l (by simp only [amL, Bool.and_eq_true] at n; exact n.2) fun a ha => w a (List.mem_append_right _ ha))
theorem RlP.bwK {C : Kc} {B H : Hp} {W W' : List Addr} : ∀ {v : List (Key × V)} {d : List (Key × D)} {fp : List Addr}, RlP C B H W Key v d fp → amK noBrwM d = true → (∀ a ∈ fp, a ∈ W') → RlP C B H W' Key v (mpK boM d) []
  | _, _, _, .nil, _, _ => .nil
  | _, _, _, .cons h l, n, w => .cons (fp := []) (fq := []) (Rl.bw h (by simp only [amK, Bool.and_eq_true] at n; exact n.1) fun a ha => w a (List.mem_append_left _ ha)) (RlP.bwK l (by simp only [amK, Bool.and_eq_true] at n; exact n.2) fun a ha => w a (List.mem_append_right _ ha))
theorem RlP.bwT {C : Kc} {B H : Hp} {W W' : List Addr} : ∀ {v : List (List Key × V)} {d : List (List Key × D)} {fp : List Addr}, RlP C B H W (List Key) v d fp → amT noBrwM d = true → (∀ a ∈ fp, a ∈ W') → RlP C B H W' (List Key) v (mpT boM d) []
  | _, _, _, .nil, _, _ => .nil
  | _, _, _, .cons h l, n, w => .cons (fp := []) (fq := []) (Rl.bw h (by simp only [amT, Bool.and_eq_true] at n; exact n.1) fun a ha => w a (List.mem_append_left _ ha)) (RlP.bwT l (by simp only [amT, Bool.and_eq_true] at n; exact n.2) fun a ha => w a (List.mem_append_right _ ha))
theorem RlP.bwF {C : Kc} {B H : Hp} {W W' : List Addr} : ∀ {v : List (Str × V)} {d : List (Str × D)} {fp : List Addr}, RlP C B H W Str v d fp → amF noBrwM d = true → (∀ a ∈ fp, a ∈ W') → RlP C B H W' Str v (mpF boM d) []
  | _, _, _, .nil, _, _ => .nil
  | _, _, _, .cons h l, n, w => .cons (fp := []) (fq := []) (Rl.bw h (by simp only [amF, Bool.and_eq_true] at n; exact n.1) fun a ha => w a (List.mem_append_left _ ha)) (RlP.bwF l (by simp only [amF, Bool.and_eq_true] at n; exact n.2) fun a ha => w a (List.mem_append_right _ ha))
end
mutual
/-- an own or seen thing is frozen: B' shows it -/
theorem Rl.sh {C : Kc} {B B' H H' : Hp} {W W' : List Addr} (hB : Same B B') (hW : ∀ a ∈ W, ∀ o, H a = some o → B' a = some o) : ∀ {v : V} {d : D} {fp : List Addr}, Rl C B H W v d fp → (∀ a ∈ fp, ∀ o, H a = some o → B' a = some o) → Rl C B' H' W' v (Pv.sh d) []
  | _, _, _, .non, _ => .non
  | _, _, _, .bl b, _ => .bl b
  | _, _, _, .int i, _ => .int i
  | _, _, _, .str s, _ => .str s
  | _, _, _, .tup h l, w => .tup (Same.sqT hB h) (RlL.sh hB hW l w)
  | _, _, _, .lstK h l, w => .lstK (Same.sqL hB h) (RlL.sh hB hW l w)
  | _, _, _, .lstS h l, w => .lstS (hB _ _ h) (RlL.sh hB hW l w)
  | _, _, _, .lstB m h l, w => .lstS (hW _ m _ h) (RlL.sh hB hW l w)
  | _, _, _, .lstO h l, w => .lstS (w _ List.mem_cons_self _ h) (RlL.sh hB hW l fun a ha => w a (List.mem_cons_of_mem _ ha))
  | _, _, _, .dkS h l, w => .dkS (hB _ _ h) (RlP.shK hB hW l w)
  | _, _, _, .dkB m h l, w => .dkS (hW _ m _ h) (RlP.shK hB hW l w)
  | _, _, _, .dkO h l, w => .dkS (w _ List.mem_cons_self _ h) (RlP.shK hB hW l fun a ha => w a (List.mem_cons_of_mem _ ha))
  | _, _, _, .dtS h l, w => .dtS (hB _ _ h) (RlP.shT hB hW l w)
  | _, _, _, .dtB m h l, w => .dtS (hW _ m _ h) (RlP.shT hB hW l w)
  | _, _, _, .dtO h l, w => .dtS (w _ List.mem_cons_self _ h) (RlP.shT hB hW l fun a ha => w a (List.mem_cons_of_mem _ ha))
  | _, _, _, .insS h l, w => .insS (hB _ _ h) (RlP.shF hB hW l w)
  | _, _, _, .insB m h l, w => .insS (hW _ m _ h) (RlP.shF hB hW l w)
  | _, _, _, .insO h l, w => .insS (w _ List.mem_cons_self _ h) (RlP.shF hB hW l fun a ha => w a (List.mem_cons_of_mem _ ha))
  | _, _, _, .insX h, w => .insX h
theorem RlL.sh {C : Kc} {B B' H H' : Hp} {W W' : List Addr} (hB : Same B B') (hW : ∀ a ∈ W, ∀ o, H a = some o → B' a = some o) : ∀ {v : List V} {d : List D} {fp : List Addr}, RlL C B H W v d fp → (∀ a ∈ fp, ∀ o, H a = some o → B' a = some o) → RlL C B' H' W' v (mpL shM d) []
  | _, _, _, .nil, _ => .nil
  | _, _, _, .cons h l, w => .cons (fp := []) (fq := []) (Rl.sh hB hW h fun a ha => w a (List.mem_append_left _ ha)) (RlL.sh hB hW l fun a ha => w a (List.mem_append_right _ ha))
theorem RlP.shK {C : Kc} {B B' H H' : Hp} {W W' : List Addr} (hB : Same B B') (hW : ∀ a ∈ W, ∀ o, H a = some o → B' a = some o) : ∀ {v : List (Key × V)} {d : List (Key × D)} {fp : List Addr}, RlP C B H W Key v d fp → (∀ a ∈ fp, ∀ o, H a = some o → B' a = some o) → RlP C B' H' W' Key v (mpK shM d) []
  | _, _, _, .nil, _ => .nil
  | _, _, _, .cons h l, w => .cons (fp := []) (fq := []) (Rl.sh hB hW h fun a ha => w a (List.mem_append_left _ ha)) (RlP.shK hB hW l fun a ha => w a (List.mem_append_right _ ha))
theorem RlP.shT {C : Kc} {B B' H H' : Hp} {W W' : List Addr} (hB : Same B B') (hW : ∀ a ∈ W, ∀ o, H a = some o → B' a = some o) : ∀ {v : List (List Key × V)} {d : List (List Key × D)} {fp : List Addr}, RlP C B H W (List Key) v d fp → (∀ a ∈ fp, ∀ o, H a = some o → B' a = some o) → RlP C B' H' W' (List Key) v (mpT shM d) []
  | _, _, _, .nil, _ => .nil
  | _, _, _, .cons h l, w => .cons (fp := []) (fq := []) (Rl.sh hB hW h fun a ha => w a (List.mem_append_left _ ha)) (RlP.shT hB hW l fun a ha => w a (List.mem_append_right _ ha))
theorem RlP.shF {C : Kc} {B B' H H' : Hp} {W W' : List Addr} (hB : Same B B') (hW : ∀ a ∈ W, ∀ o, H a = some o → B' a = some o) : ∀ {v : List (Str × V)} {d : List (Str × D)} {fp : List Addr}, RlP C B H W Str v d fp → (∀ a ∈ fp, ∀ o, H a = some o → B' a = some o) → RlP C B' H' W' Str v (mpF shM d) []
  | _, _, _, .nil, _ => .nil
  | _, _, _, .cons h l, w => .cons (fp := []) (fq := []) (Rl.sh hB hW h fun a ha => w a (List.mem_append_left _ ha)) (RlP.shF hB hW l fun a ha => w a (List.mem_append_right _ ha))
end
mutual
/-- an own thing is frozen: B' shows it -/
theorem Rl.fz {C : Kc} {B B' H H' : Hp} {W : List Addr} (hB : Same B B') (hH : Same H H') : ∀ {v : V} {d : D} {fp : List Addr}, Rl C B H W v d fp → (∀ a ∈ fp, ∀ o, H a = some o → B' a = some o) → Rl C B' H' W v (Pv.fz d) []
  | _, _, _, .non, _ => .non
  | _, _, _, .bl b, _ => .bl b
  | _, _, _, .int i, _ => .int i
  | _, _, _, .str s, _ => .str s
  | _, _, _, .tup h l, w => .tup (Same.sqT hB h) (RlL.fz hB hH l w)
  | _, _, _, .lstK h l, w => .lstK (Same.sqL hB h) (RlL.fz hB hH l w)
  | _, _, _, .lstS h l, w => .lstS (hB _ _ h) (RlL.fz hB hH l w)
  | _, _, _, .lstB m h l, w => .lstB m (hH _ _ h) (RlL.fz hB hH l w)
  | _, _, _, .lstO h l, w => .lstS (w _ List.mem_cons_self _ h) (RlL.fz hB hH l fun a ha => w a (List.mem_cons_of_mem _ ha))
  | _, _, _, .dkS h l, w => .dkS (hB _ _ h) (RlP.fzK hB hH l w)
  | _, _, _, .dkB m h l, w => .dkB m (hH _ _ h) (RlP.fzK hB hH l w)
  | _, _, _, .dkO h l, w => .dkS (w _ List.mem_cons_self _ h) (RlP.fzK hB hH l fun a ha => w a (List.mem_cons_of_mem _ ha))
  | _, _, _, .dtS h l, w => .dtS (hB _ _ h) (RlP.fzT hB hH l w)
  | _, _, _, .dtB m h l, w => .dtB m (hH _ _ h) (RlP.fzT hB hH l w)
  | _, _, _, .dtO h l, w => .dtS (w _ List.mem_cons_self _ h) (RlP.fzT hB hH l fun a ha => w a (List.mem_cons_of_mem _ ha))
  | _, _, _, .insS h l, w => .insS (hB _ _ h) (RlP.fzF hB hH l w)
  | _, _, _, .insB m h l, w => .insB m (hH _ _ h) (RlP.fzF hB hH l w)
  | _, _, _, .insO h l, w => .insS (w _ List.mem_cons_self _ h) (RlP.fzF hB hH l fun a ha => w a (List.mem_cons_of_mem _ ha))
  | _, _, _, .insX h, w => .insX h
theorem RlL.fz {C : Kc} {B B' H H' : Hp} {W : List Addr} (hB : Same B B') (hH : Same H H') : ∀ {v : List V} {d : List D} {fp : List Addr}, RlL C B H W v d fp → (∀ a ∈ fp, ∀ o, H a = some o → B' a = some o) → RlL C B' H' W v (mpL fzM d) []
  | _, _, _, .nil, _ => .nil
  | _, _, _, .cons h l, w => .cons (fp := []) (fq := []) (Rl.fz hB hH h fun a ha => w a (List.mem_append_left _ ha)) (RlL.fz hB hH l fun a ha => w a (List.mem_append_right _ ha))
theorem RlP.fzK {C : Kc} {B B' H H' : Hp} {W : List Addr} (hB : Same B B') (hH : Same H H') : ∀ {v : List (Key × V)} {d : List (Key × D)} {fp : List Addr}, RlP C B H W Key v d fp → (∀ a ∈ fp, ∀ o, H a = some o → B' a = some o) → RlP C B' H' W Key v (mpK fzM d) []
  | _, _, _, .nil, _ => .nil
  | _, _, _, .cons h l, w => .cons (fp := []) (fq := []) (Rl.fz hB hH h fun a ha => w a (List.mem_append_left _ ha)) (RlP.fzK hB hH l fun a ha => w a (List.mem_append_right _ ha))
theorem RlP.fzT {C : Kc} {B B' H H' : Hp} {W : List Addr} (hB : Same B B') (hH : Same H H') : ∀ {v : List (List Key × V)} {d : List (List Key × D)} {fp : List Addr}, RlP C B H W (List Key) v d fp → (∀ a ∈ fp, ∀ o, H a = some o → B' a = some o) → RlP C B' H' W (List Key) v (mpT fzM d) []
  | _, _, _, .nil, _ => .nil
  | _, _, _, .cons h l, w => .cons (fp := []) (fq := []) (Rl.fz hB hH h fun a ha => w a (List.mem_append_left _ ha)) (RlP.fzT hB hH l fun a ha => w a (List.mem_append_right _ ha))
theorem RlP.fzF {C : Kc} {B B' H H' : Hp} {W : List Addr} (hB : Same B B') (hH : Same H H') : ∀ {v : List (Str × V)} {d : List (Str × D)} {fp : List Addr}, RlP C B H W Str v d fp → (∀ a ∈ fp, ∀ o, H a = some o → B' a = some o) → RlP C B' H' W Str v (mpF fzM d) []
  | _, _, _, .nil, _ => .nil
  | _, _, _, .cons h l, w => .cons (fp := []) (fq := []) (Rl.fz hB hH h fun a ha => w a (List.mem_append_left _ ha)) (RlP.fzF hB hH l fun a ha => w a (List.mem_append_right _ ha))
end
mutual
/-- of H only the own and the borrowed is asked -/
theorem Rl.hm {C : Kc} {B B' H H' : Hp} {W : List Addr} (hB : Same B B') (hW : ∀ a ∈ W, ∀ o, H a = some o → H' a = some o) : ∀ {v : V} {d : D} {fp : List Addr}, Rl C B H W v d fp → (∀ a ∈ fp, ∀ o, H a = some o → H' a = some o) → Rl C B' H' W v d fp
  | _, _, _, .non, _ => .non
  | _, _, _, .bl b, _ => .bl b
  | _, _, _, .int i, _ => .int i
  | _, _, _, .str s, _ => .str s
  | _, _, _, .tup h l, w => .tup (Same.sqT hB h) (RlL.hm hB hW l w)
  | _, _, _, .lstK h l, w => .lstK (Same.sqL hB h) (RlL.hm hB hW l w)
  | _, _, _, .lstS h l, w => .lstS (hB _ _ h) (RlL.hm hB hW l w)
  | _, _, _, .lstB m h l, w => .lstB m (hW _ m _ h) (RlL.hm hB hW l w)
  | _, _, _, .lstO h l, w => .lstO (w _ List.mem_cons_self _ h) (RlL.hm hB hW l fun a ha => w a (List.mem_cons_of_mem _ ha))
  | _, _, _, .dkS h l, w => .dkS (hB _ _ h) (RlP.hm hB hW l w)
  | _, _, _, .dkB m h l, w => .dkB m (hW _ m _ h) (RlP.hm hB hW l w)
  | _, _, _, .dkO h l, w => .dkO (w _ List.mem_cons_self _ h) (RlP.hm hB hW l fun a ha => w a (List.mem_cons_of_mem _ ha))
  | _, _, _, .dtS h l, w => .dtS (hB _ _ h) (RlP.hm hB hW l w)
  | _, _, _, .dtB m h l, w => .dtB m (hW _ m _ h) (RlP.hm hB hW l w)
  | _, _, _, .dtO h l, w => .dtO (w _ List.mem_cons_self _ h) (RlP.hm hB hW l fun a ha => w a (List.mem_cons_of_mem _ ha))
  | _, _, _, .insS h l, w => .insS (hB _ _ h) (RlP.hm hB hW l w)
  | _, _, _, .insB m h l, w => .insB m (hW _ m _ h) (RlP.hm hB hW l w)
  | _, _, _, .insO h l, w => .insO (w _ List.mem_cons_self _ h) (RlP.hm hB hW l fun a ha => w a (List.mem_cons_of_mem _ ha))
  | _, _, _, .insX h, w => .insX h
theorem RlL.hm {C : Kc} {B B' H H' : Hp} {W : List Addr} (hB : Same B B') (hW : ∀ a ∈ W, ∀ o, H a = some o → H' a = some o) : ∀ {v : List V} {d : List D} {fp : List Addr}, RlL C B H W v d fp → (∀ a ∈ fp, ∀ o, H a = some o → H' a = some o) → RlL C B' H' W v d fp
  | _, _, _, .nil, _ => .nil
  | _, _, _, .cons h l, w => .cons (Rl.hm hB hW h fun a ha => w a (List.mem_append_left _ ha)) (RlL.hm hB hW l fun a ha => w a (List.mem_append_right _ ha))
theorem RlP.hm {C : Kc} {B B' H H' : Hp} {W : List Addr} (hB : Same B B') (hW : ∀ a ∈ W, ∀ o, H a = some o → H' a = some o) : ∀ {κ : Type} {v : List (κ × V)} {d : List (κ × D)} {fp : List Addr}, RlP C B H W κ v d fp → (∀ a ∈ fp, ∀ o, H a = some o → H' a = some o) → RlP C B' H' W κ v d fp
  | _, _, _, _, .nil, _ => .nil
  | _, _, _, _, .cons h l, w => .cons (Rl.hm hB hW h fun a ha => w a (List.mem_append_left _ ha)) (RlP.hm hB hW l fun a ha => w a (List.mem_append_right _ ha))
end
mutual
/-- a seen thing is handed back: B' shows it -/
theorem Rl.rt {C : Kc} {B B' H H' : Hp} {W W' : List Addr} (hB : Same B B') (hH : Same H H') (hW : ∀ a ∈ W, ∀ o, H a = some o → B' a = some o) : ∀ {v : V} {d : D} {fp : List Addr}, Rl C B H W v d fp → Rl C B' H' W' v (Pv.rt d) fp
  | _, _, _, .non => .non
  | _, _, _, .bl b => .bl b
  | _, _, _, .int i => .int i
  | _, _, _, .str s => .str s
  | _, _, _, .tup h l => .tup (Same.sqT hB h) (RlL.rt hB hH hW l)
  | _, _, _, .lstK h l => .lstK (Same.sqL hB h) (RlL.rt hB hH hW l)
  | _, _, _, .lstS h l => .lstS (hB _ _ h) (RlL.rt hB hH hW l)
  | _, _, _, .lstB m h l => .lstS (hW _ m _ h) (RlL.rt hB hH hW l)
  | _, _, _, .lstO h l => .lstO (hH _ _ h) (RlL.rt hB hH hW l)
  | _, _, _, .dkS h l => .dkS (hB _ _ h) (RlP.rtK hB hH hW l)
  | _, _, _, .dkB m h l => .dkS (hW _ m _ h) (RlP.rtK hB hH hW l)
  | _, _, _, .dkO h l => .dkO (hH _ _ h) (RlP.rtK hB hH hW l)
  | _, _, _, .dtS h l => .dtS (hB _ _ h) (RlP.rtT hB hH hW l)
  | _, _, _, .dtB m h l => .dtS (hW _ m _ h) (RlP.rtT hB hH hW l)
  | _, _, _, .dtO h l => .dtO (hH _ _ h) (RlP.rtT hB hH hW l)
  | _, _, _, .insS h l => .insS (hB _ _ h) (RlP.rtF hB hH hW l)
  | _, _, _, .insB m h l => .insS (hW _ m _ h) (RlP.rtF hB hH hW l)
  | _, _, _, .insO h l => .insO (hH _ _ h) (RlP.rtF hB hH hW l)
  | _, _, _, .insX h => .insX h
theorem RlL.rt {C : Kc} {B B' H H' : Hp} {W W' : List Addr} (hB : Same B B') (hH : Same H H') (hW : ∀ a ∈ W, ∀ o, H a = some o → B' a = some o) : ∀ {v : List V} {d : List D} {fp : List Addr}, RlL C B H W v d fp → RlL C B' H' W' v (mpL rtM d) fp
  | _, _, _, .nil => .nil
  | _, _, _, .cons h l => .cons (Rl.rt hB hH hW h) (RlL.rt hB hH hW l)
theorem RlP.rtK {C : Kc} {B B' H H' : Hp} {W W' : List Addr} (hB : Same B B') (hH : Same H H') (hW : ∀ a ∈ W, ∀ o, H a = some o → B' a = some o) : ∀ {v : List (Key × V)} {d : List (Key × D)} {fp : List Addr}, RlP C B H W Key v d fp → RlP C B' H' W' Key v (mpK rtM d) fp
  | _, _, _, .nil => .nil
  | _, _, _, .cons h l => .cons (Rl.rt hB hH hW h) (RlP.rtK hB hH hW l)
theorem RlP.rtT {C : Kc} {B B' H H' : Hp} {W W' : List Addr} (hB : Same B B') (hH : Same H H') (hW : ∀ a ∈ W, ∀ o, H a = some o → B' a = some o) : ∀ {v : List (List Key × V)} {d : List (List Key × D)} {fp : List Addr}, RlP C B H W (List Key) v d fp → RlP C B' H' W' (List Key) v (mpT rtM d) fp
  | _, _, _, .nil => .nil
  | _, _, _, .cons h l => .cons (Rl.rt hB hH hW h) (RlP.rtT hB hH hW l)
theorem RlP.rtF {C : Kc} {B B' H H' : Hp} {W W' : List Addr} (hB : Same B B') (hH : Same H H') (hW : ∀ a ∈ W, ∀ o, H a = some o → B' a = some o) : ∀ {v : List (Str × V)} {d : List (Str × D)} {fp : List Addr}, RlP C B H W Str v d fp → RlP C B' H' W' Str v (mpF rtM d) fp
  | _, _, _, .nil => .nil
  | _, _, _, .cons h l => .cons (Rl.rt hB hH hW h) (RlP.rtF hB hH hW l)
end
mutual
/-- nothing seen in it: all that is asked of H' is its own -/
theorem Rl.keep {C : Kc} {B B' H H' : Hp} {W W' : List Addr} (hB : Same B B') : ∀ {v : V} {d : D} {fp : List Addr}, Rl C B H W v d fp → noBrw d = true → (∀ a ∈ fp, ∀ o, H a = some o → H' a = some o) → Rl C B' H' W' v d fp
  | _, _, _, .non, _, _ => .non
  | _, _, _, .bl b, _, _ => .bl b
  | _, _, _, .int i, _, _ => .int i
  | _, _, _, .str s, _, _ => .str s
  | _, _, _, .tup h l, n, w => .tup (Same.sqT hB h) (RlL.keep hB l n w)
  | _, _, _, .lstK h l, n, w => .lstK (Same.sqL hB h) (RlL.keep hB l (by simpa [noBrw, am, noBrwM] using n) w)
  | _, _, _, .lstS h l, n, w => .lstS (hB _ _ h) (RlL.keep hB l (by simpa [noBrw, am, noBrwM] using n) w)
  | _, _, _, .lstB _ h l, n, w => by simp [noBrw, am, noBrwM] at n
  | _, _, _, .lstO h l, n, w => .lstO (w _ List.mem_cons_self _ h) (RlL.keep hB l (by simpa [noBrw, am, noBrwM] using n) fun a ha => w a (List.mem_cons_of_mem _ ha))
  | _, _, _, .dkS h l, n, w => .dkS (hB _ _ h) (RlP.keepK hB l (by simpa [noBrw, am, noBrwM] using n) w)
  | _, _, _, .dkB _ h l, n, w => by simp [noBrw, am, noBrwM] at n
  | _, _, _, .dkO h l, n, w => .dkO (w _ List.mem_cons_self _ h) (RlP.keepK hB l (by simpa [noBrw, am, noBrwM] using n) fun a ha => w a (List.mem_cons_of_mem _ ha))
  | _, _, _, .dtS h l, n, w => .dtS (hB _ _ h) (RlP.keepT hB l (by simpa [noBrw, am, noBrwM] using n) w)
  | _, _, _, .dtB _ h l, n, w => by simp [noBrw, am, noBrwM] at n
  | _, _, _, .dtO h l, n, w => .dtO (w _ List.mem_cons_self _ h) (RlP.keepT hB l (by simpa [noBrw, am, noBrwM] using n) fun a ha => w a (List.mem_cons_of_mem _ ha))
  | _, _, _, .insS h l, n, w => .insS (hB _ _ h) (RlP.keepF hB l (by simpa [noBrw, am, noBrwM] using n) w)
  | _, _, _, .insB _ h l, n, w => by simp [noBrw, am, noBrwM] at n
  | _, _, _, .insO h l, n, w => .insO (w _ List.mem_cons_self _ h) (RlP.keepF hB l (by simpa [noBrw, am, noBrwM] using n) fun a ha => w a (List.mem_cons_of_mem _ ha))
  | _, _, _, .insX h, n, w => .insX h
theorem RlL.keep {C : Kc} {B B' H H' : Hp} {W W' : List Addr} (hB : Same B B') : ∀ {v : List V} {d : List D} {fp : List Addr}, RlL C B H W v d fp → amL noBrwM d = true → (∀ a ∈ fp, ∀ o, H a = some o → H' a = some o) → RlL C B' H' W' v d fp
  | _, _, _, .nil, _, _ => .nil
  | _, _, _, .cons h l, n, w => .cons (Rl.keep hB h (by simp only [amL, Bool.and_eq_true] at n; exact n.1) fun a ha => w a (List.mem_append_left _ ha)) (RlL.keep hB l (by simp only [amL, Bool.and_eq_true] at n; exact n.2) fun a ha => w a (List.mem_append_right _ ha))
theorem RlP.keepK {C : Kc} {B B' H H' : Hp} {W W' : List Addr} (hB : Same B B') : ∀ {v : List (Key × V)} {d : List (Key × D)} {fp : List Addr}, RlP C B H W Key v d fp → amK noBrwM d = true → (∀ a ∈ fp, ∀ o, H a = some o → H' a = some o) → RlP C B' H' W' Key v d fp
  | _, _, _, .nil, _, _ => .nil
  | _, _, _, .cons h l, n, w => .cons (Rl.keep hB h (by simp only [amK, Bool.and_eq_true] at n; exact n.1) fun a ha => w a (List.mem_append_left _ ha)) (RlP.keepK hB l (by simp only [amK, Bool.and_eq_true] at n; exact n.2) fun a ha => w a (List.mem_append_right _ ha))
theorem RlP.keepT {C : Kc} {B B' H H' : Hp} {W W' : List Addr} (hB : Same B B') : ∀ {v : List (List Key × V)} {d : List (List Key × D)} {fp : List Addr}, RlP C B H W (List Key) v d fp → amT noBrwM d = true → (∀ a ∈ fp, ∀ o, H a = some o → H' a = some o) → RlP C B' H' W' (List Key) v d fp
  | _, _, _, .nil, _, _ => .nil
  | _, _, _, .cons h l, n, w => .cons (Rl.keep hB h (by simp only [amT, Bool.and_eq_true] at n; exact n.1) fun a ha => w a (List.mem_append_left _ ha)) (RlP.keepT hB l (by simp only [amT, Bool.and_eq_true] at n; exact n.2) fun a ha => w a (List.mem_append_right _ ha))
theorem RlP.keepF {C : Kc} {B B' H H' : Hp} {W W' : List Addr} (hB : Same B B') : ∀ {v : List (Str × V)} {d : List (Str × D)} {fp : List Addr}, RlP C B H W Str v d fp → amF noBrwM d = true → (∀ a ∈ fp, ∀ o, H a = some o → H' a = some o) → RlP C B' H' W' Str v d fp
  | _, _, _, .nil, _, _ => .nil
  | _, _, _, .cons h l, n, w => .cons (Rl.keep hB h (by simp only [amF, Bool.and_eq_true] at n; exact n.1) fun a ha => w a (List.mem_append_left _ ha)) (RlP.keepF hB l (by simp only [amF, Bool.and_eq_true] at n; exact n.2) fun a ha => w a (List.mem_append_right _ ha))
end
mutual
/-- a clean thing: of B only its tuples are asked -/
theorem Rl.cln {C : Kc} {B B' H : Hp} {W W' : List Addr} (hT : ∀ a xs, SqT C.K B a xs → SqT C.K B' a xs) : ∀ {v : V} {d : D} {fp : List Addr}, Rl C B H W v d fp → clean d = true → Rl C B' H W' v d fp
  | _, _, _, .non, _ => .non
  | _, _, _, .bl b, _ => .bl b
  | _, _, _, .int i, _ => .int i
  | _, _, _, .str s, _ => .str s
  | _, _, _, .tup h l, n => .tup (hT _ _ h) (RlL.cln hT l n)
  | _, _, _, .lstK h l, n => by simp [clean, am, isOwn] at n
  | _, _, _, .lstS h l, n => by simp [clean, am, isOwn] at n
  | _, _, _, .lstB _ h l, n => by simp [clean, am, isOwn] at n
  | _, _, _, .lstO h l, n => .lstO h (RlL.cln hT l (by simpa [clean, am, isOwn] using n))
  | _, _, _, .dkS h l, n => by simp [clean, am, isOwn] at n
  | _, _, _, .dkB _ h l, n => by simp [clean, am, isOwn] at n
  | _, _, _, .dkO h l, n => .dkO h (RlP.clnK hT l (by simpa [clean, am, isOwn] using n))
  | _, _, _, .dtS h l, n => by simp [clean, am, isOwn] at n
  | _, _, _, .dtB _ h l, n => by simp [clean, am, isOwn] at n
  | _, _, _, .dtO h l, n => .dtO h (RlP.clnT hT l (by simpa [clean, am, isOwn] using n))
  | _, _, _, .insS h l, n => by simp [clean, am, isOwn] at n
  | _, _, _, .insB _ h l, n => by simp [clean, am, isOwn] at n
  | _, _, _, .insO h l, n => .insO h (RlP.clnF hT l (by simpa [clean, am, isOwn] using n))
  | _, _, _, .insX h, n => by simp [clean, am, isOwn] at n
theorem RlL.cln {C : Kc} {B B' H : Hp} {W W' : List Addr} (hT : ∀ a xs, SqT C.K B a xs → SqT C.K B' a xs) : ∀ {v : List V} {d : List D} {fp : List Addr}, RlL C B H W v d fp → amL isOwn d = true → RlL C B' H W' v d fp
  | _, _, _, .nil, _ => .nil
  | _, _, _, .cons h l, n => .cons (Rl.cln hT h (by simp only [amL, Bool.and_eq_true] at n; exact n.1)) (RlL.cln hT l (by simp only [amL, Bool.and_eq_true] at n; exact n.2))
theorem RlP.clnK {C : Kc} {B B' H : Hp} {W W' : List Addr} (hT : ∀ a xs, SqT C.K B a xs → SqT C.K B' a xs) : ∀ {v : List (Key × V)} {d : List (Key × D)} {fp : List Addr}, RlP C B H W Key v d fp → amK isOwn d = true → RlP C B' H W' Key v d fp
  | _, _, _, .nil, _ => .nil
  | _, _, _, .cons h l, n => .cons (Rl.cln hT h (by simp only [amK, Bool.and_eq_true] at n; exact n.1)) (RlP.clnK hT l (by simp only [amK, Bool.and_eq_true] at n; exact n.2))
theorem RlP.clnT {C : Kc} {B B' H : Hp} {W W' : List Addr} (hT : ∀ a xs, SqT C.K B a xs → SqT C.K B' a xs) : ∀ {v : List (List Key × V)} {d : List (List Key × D)} {fp : List Addr}, RlP C B H W (List Key) v d fp → amT isOwn d = true → RlP C B' H W' (List Key) v d fp
  | _, _, _, .nil, _ => .nil
  | _, _, _, .cons h l, n => .cons (Rl.cln hT h (by simp only [amT, Bool.and_eq_true] at n; exact n.1)) (RlP.clnT hT l (by simp only [amT, Bool.and_eq_true] at n; exact n.2))
theorem RlP.clnF {C : Kc} {B B' H : Hp} {W W' : List Addr} (hT : ∀ a xs, SqT C.K B a xs → SqT C.K B' a xs) : ∀ {v : List (Str × V)} {d : List (Str × D)} {fp : List Addr}, RlP C B H W Str v d fp → amF isOwn d = true → RlP C B' H W' Str v d fp
  | _, _, _, .nil, _ => .nil
  | _, _, _, .cons h l, n => .cons (Rl.cln hT h (by simp only [amF, Bool.and_eq_true] at n; exact n.1)) (RlP.clnF hT l (by simp only [amF, Bool.and_eq_true] at n; exact n.2))
end
def Mutb : HO → Prop
  | .lst _ => True
  | .dK _ => True
  | .dT _ => True
  | .ins _ _ _ => True
  | _ => False
mutual
theorem Rl.mutb {C : Kc} {B H : Hp} {W : List Addr} : ∀ {v : V} {d : D} {fp : List Addr}, Rl C B H W v d fp → ∀ a ∈ fp, ∃ o, H a = some o ∧ Mutb o
  | _, _, _, .non, a, h => nomatch h
  | _, _, _, .bl _, a, h => nomatch h
  | _, _, _, .int _, a, h => nomatch h
  | _, _, _, .str _, a, h => nomatch h
  | _, _, _, .tup _ l, a, h => RlL.mutb l a h
  | _, _, _, .lstK _ l, a, h => nomatch h
  | _, _, _, .lstS _ l, a, h => nomatch h
  | _, _, _, .lstB _ _ l, a, h => nomatch h
  | _, _, _, .lstO e l, a, h => (List.mem_cons.mp h).elim (fun z => by subst z; exact ⟨_, e, trivial⟩) fun z => RlL.mutb l a z
  | _, _, _, .dkS _ l, a, h => nomatch h
  | _, _, _, .dkB _ _ l, a, h => nomatch h
  | _, _, _, .dkO e l, a, h => (List.mem_cons.mp h).elim (fun z => by subst z; exact ⟨_, e, trivial⟩) fun z => RlP.mutb l a z
  | _, _, _, .dtS _ l, a, h => nomatch h
  | _, _, _, .dtB _ _ l, a, h => nomatch h
  | _, _, _, .dtO e l, a, h => (List.mem_cons.mp h).elim (fun z => by subst z; exact ⟨_, e, trivial⟩) fun z => RlP.mutb l a z
  | _, _, _, .insS _ l, a, h => nomatch h
  | _, _, _, .insB _ _ l, a, h => nomatch h
  | _, _, _, .insO e l, a, h => (List.mem_cons.mp h).elim (fun z => by subst z; exact ⟨_, e, trivial⟩) fun z => RlP.mutb l a z
  | _, _, _, .insX e, a, h => nomatch h
theorem RlL.mutb {C : Kc} {B H : Hp} {W : List Addr} : ∀ {v : List V} {d : List D} {fp : List Addr}, RlL C B H W v d fp → ∀ a ∈ fp, ∃ o, H a = some o ∧ Mutb o
  | _, _, _, .nil, a, h => nomatch h
  | _, _, _, .cons x l, a, h => (List.mem_append.mp h).elim (Rl.mutb x a) (RlL.mutb l a)
theorem RlP.mutb {C : Kc} {B H : Hp} {W : List Addr} : ∀ {κ : Type} {v : List (κ × V)} {d : List (κ × D)} {fp : List Addr}, RlP C B H W κ v d fp → ∀ a ∈ fp, ∃ o, H a = some o ∧ Mutb o
  | _, _, _, _, .nil, a, h => nomatch h
  | _, _, _, _, .cons x l, a, h => (List.mem_append.mp h).elim (Rl.mutb x a) (RlP.mutb l a)
end
mutual
theorem Rl.nown {C : Kc} {B H : Hp} {W : List Addr} : ∀ {v : V} {d : D} {fp : List Addr}, Rl C B H W v d fp → noOwn d = true → fp = []
  | _, _, _, .non, _ => rfl
  | _, _, _, .bl _, _ => rfl
  | _, _, _, .int _, _ => rfl
  | _, _, _, .str _, _ => rfl
  | _, _, _, .tup _ l, n => RlL.nown l n
  | _, _, _, .lstK _ l, n => rfl
  | _, _, _, .lstS _ l, n => rfl
  | _, _, _, .lstB _ _ l, n => rfl
  | _, _, _, .lstO e l, n => by simp [noOwn, am, noOwnM] at n
  | _, _, _, .dkS _ l, n => rfl
  | _, _, _, .dkB _ _ l, n => rfl
  | _, _, _, .dkO e l, n => by simp [noOwn, am, noOwnM] at n
  | _, _, _, .dtS _ l, n => rfl
  | _, _, _, .dtB _ _ l, n => rfl
  | _, _, _, .dtO e l, n => by simp [noOwn, am, noOwnM] at n
  | _, _, _, .insS _ l, n => rfl
  | _, _, _, .insB _ _ l, n => rfl
  | _, _, _, .insO e l, n => by simp [noOwn, am, noOwnM] at n
  | _, _, _, .insX h, n => rfl
theorem RlL.nown {C : Kc} {B H : Hp} {W : List Addr} : ∀ {v : List V} {d : List D} {fp : List Addr}, RlL C B H W v d fp → amL noOwnM d = true → fp = []
  | _, _, _, .nil, _ => rfl
  | _, _, _, .cons h l, n => by
    simp only [amL, Bool.and_eq_true] at n
    rw [Rl.nown h n.1, RlL.nown l n.2]; rfl
end
def noExnM : Md → Bool
  | .exn => false
  | _ => true
abbrev noExn : D → Bool := am noExnM
mutual
theorem Rl.cx {C C' : Kc} {B H : Hp} {W : List Addr} (hK : C.K = C'.K) (hc : C.cl = C'.cl) : ∀ {v : V} {d : D} {fp : List Addr}, Rl C B H W v d fp → (noExn d = true ∨ C.ex = none) → Rl C' B H W v d fp
  | _, _, _, .non, _ => .non
  | _, _, _, .bl b, _ => .bl b
  | _, _, _, .int i, _ => .int i
  | _, _, _, .str s, _ => .str s
  | _, _, _, .tup h l, w => .tup (hK ▸ h) (RlL.cx hK hc l w)
  | _, _, _, .lstK h l, w => .lstK (hK ▸ h) (RlL.cx hK hc l (w.imp_left fun n => by simpa [noExn, am, noExnM] using n))
  | _, _, _, .lstS h l, w => .lstS h (RlL.cx hK hc l (w.imp_left fun n => by simpa [noExn, am, noExnM] using n))
  | _, _, _, .lstB m h l, w => .lstB m h (RlL.cx hK hc l (w.imp_left fun n => by simpa [noExn, am, noExnM] using n))
  | _, _, _, .lstO h l, w => .lstO h (RlL.cx hK hc l (w.imp_left fun n => by simpa [noExn, am, noExnM] using n))
  | _, _, _, .dkS h l, w => .dkS (h) (RlP.cxK hK hc l (w.imp_left fun n => by simpa [noExn, am, noExnM] using n))
  | _, _, _, .dkB m h l, w => .dkB m (h) (RlP.cxK hK hc l (w.imp_left fun n => by simpa [noExn, am, noExnM] using n))
  | _, _, _, .dkO h l, w => .dkO (h) (RlP.cxK hK hc l (w.imp_left fun n => by simpa [noExn, am, noExnM] using n))
  | _, _, _, .dtS h l, w => .dtS (h) (RlP.cxT hK hc l (w.imp_left fun n => by simpa [noExn, am, noExnM] using n))
  | _, _, _, .dtB m h l, w => .dtB m (h) (RlP.cxT hK hc l (w.imp_left fun n => by simpa [noExn, am, noExnM] using n))
  | _, _, _, .dtO h l, w => .dtO (h) (RlP.cxT hK hc l (w.imp_left fun n => by simpa [noExn, am, noExnM] using n))
  | _, _, _, .insS h l, w => .insS (hc ▸ h) (RlP.cxF hK hc l (w.imp_left fun n => by simpa [noExn, am, noExnM] using n))
  | _, _, _, .insB m h l, w => .insB m (hc ▸ h) (RlP.cxF hK hc l (w.imp_left fun n => by simpa [noExn, am, noExnM] using n))
  | _, _, _, .insO h l, w => .insO (hc ▸ h) (RlP.cxF hK hc l (w.imp_left fun n => by simpa [noExn, am, noExnM] using n))
  | _, _, _, .insX h, w => w.elim (fun n => by simp [noExn, am, noExnM] at n) fun z => by rw [z] at h; cases h
theorem RlL.cx {C C' : Kc} {B H : Hp} {W : List Addr} (hK : C.K = C'.K) (hc : C.cl = C'.cl) : ∀ {v : List V} {d : List D} {fp : List Addr}, RlL C B H W v d fp → (amL noExnM d = true ∨ C.ex = none) → RlL C' B H W v d fp
  | _, _, _, .nil, _ => .nil
  | _, _, _, .cons h l, w => .cons (Rl.cx hK hc h (w.imp_left fun n => by simp only [amL, Bool.and_eq_true] at n; exact n.1)) (RlL.cx hK hc l (w.imp_left fun n => by simp only [amL, Bool.and_eq_true] at n; exact n.2))
theorem RlP.cxK {C C' : Kc} {B H : Hp} {W : List Addr} (hK : C.K = C'.K) (hc : C.cl = C'.cl) : ∀ {v : List (Key × V)} {d : List (Key × D)} {fp : List Addr}, RlP C B H W Key v d fp → (amK noExnM d = true ∨ C.ex = none) → RlP C' B H W Key v d fp
  | _, _, _, .nil, _ => .nil
  | _, _, _, .cons h l, w => .cons (Rl.cx hK hc h (w.imp_left fun n => by simp only [amK, Bool.and_eq_true] at n; exact n.1)) (RlP.cxK hK hc l (w.imp_left fun n => by simp only [amK, Bool.and_eq_true] at n; exact n.2))
theorem RlP.cxT {C C' : Kc} {B H : Hp} {W : List Addr} (hK : C.K = C'.K) (hc : C.cl = C'.cl) : ∀ {v : List (List Key × V)} {d : List (List Key × D)} {fp : List Addr}, RlP C B H W (List Key) v d fp → (amT noExnM d = true ∨ C.ex = none) → RlP C' B H W (List Key) v d fp
  | _, _, _, .nil, _ => .nil
  | _, _, _, .cons h l, w => .cons (Rl.cx hK hc h (w.imp_left fun n => by simp only [amT, Bool.and_eq_true] at n; exact n.1)) (RlP.cxT hK hc l (w.imp_left fun n => by simp only [amT, Bool.and_eq_true] at n; exact n.2))
theorem RlP.cxF {C C' : Kc} {B H : Hp} {W : List Addr} (hK : C.K = C'.K) (hc : C.cl = C'.cl) : ∀ {v : List (Str × V)} {d : List (Str × D)} {fp : List Addr}, RlP C B H W Str v d fp → (amF noExnM d = true ∨ C.ex = none) → RlP C' B H W Str v d fp
  | _, _, _, .nil, _ => .nil
  | _, _, _, .cons h l, w => .cons (Rl.cx hK hc h (w.imp_left fun n => by simp only [amF, Bool.and_eq_true] at n; exact n.1)) (RlP.cxF hK hc l (w.imp_left fun n => by simp only [amF, Bool.and_eq_true] at n; exact n.2))
end
end Pv
/-! Pv2: the language (E, S) and what it is worth on data (evE, evS). -/
namespace Pv
open PySem L2

structure Xc where
  c : Nat
  fs : List (Str × D)
inductive Res (α : Type) where
  | ok (a : α) | exc (x : Xc) | bad
namespace Res
def bind {α β : Type} : Res α → (α → Res β) → Res β
  | .ok a, f => f a
  | .exc x, _ => .exc x
  | .bad, _ => .bad
end Res
instance : Monad Res where
  pure := Res.ok
  bind := Res.bind
theorem ok_bind {α β : Type} (a : α) (f : α → Res β) : (Res.ok a >>= f) = f a := rfl
theorem exc_bind {α β : Type} (x : Xc) (f : α → Res β) : ((Res.exc x : Res α) >>= f) = .exc x := rfl
theorem bad_bind {α β : Type} (f : α → Res β) : ((Res.bad : Res α) >>= f) = .bad := rfl
theorem pure_ok {α : Type} (a : α) : (pure a : Res α) = .ok a := rfl

/-- a def: how many parameters, the defaults of the last ones, what it is worth -/
structure Fm where
  ar : Nat
  dfl : List D
  m : List D → Res D
/-- the defs by number; which class is under which; the classes of errors -/
structure Tb where
  f : Nat → Fm
  sub : Nat → Nat → Bool
  cs : List Nat
  xs : List Nat
abbrev Env := List (Option D)

inductive Blt where
  | len | abs | sum | sorted | list | int | str | max2 | min2
  deriving DecidableEq
inductive E where
  | var (i : Nat) | int (n : Int) | str (s : Str) | bl (b : Bool) | non
  | bin (o : Operator) (a b : E) | neg (a : E)
  | cmp (o : CmpOp) (a b : E)
  | nt (a : E) | and (es : E) | or (es : E)
  | ife (c a b : E)
  | tup (es : E) | lst (es : E) | nil | cons (e es : E)
  | ix (a i : E) | sl (a lo hi : E)
  | call (i : Nat) (es : E)
  | blt (f : Blt) (es : E)
  | isi (a : E) (t : String)
  | lc (j : Nat) (src : E) (c : E) (e : E)
  | lcr (j : Nat) (n : E) (c : E) (e : E)
  | isx (i : Nat) (c : Nat)
  | isv (i : Nat)
  | isxs (i : Nat) (cs : List Nat)
  | callH (i : Nat) (es : E)

/-! ### operations on data -/
def mulOk (i j : Int) : Bool := decide (i.natAbs.log2 + j.natAbs.log2 < 1000000)
def divOk (j : Int) : Bool := decide (j ≠ 0) && decide (j.natAbs.log2 < 9000)
def powOk (i j : Int) : Bool := decide (0 ≤ j) && decide (j ≤ 1000000) && decide (i.natAbs < 2 ^ 64)
def lineOk (n : Nat) : Bool := decide (n < sizeLine)
def notKon : Md → Bool
  | .kon => false
  | _ => true
def addD : D → D → Res D
  | .int i, .int j => .ok (.int (i + j))
  | .str x, .str y => if lineOk (x.length + y.length) then .ok (.str (x ++ y)) else .bad
  | .lst m a, .lst n b => if notKon m && notKon n && lineOk (a.length + b.length) then .ok (.lst .own (mpL fzM a ++ mpL fzM b)) else .bad
  | _, _ => .bad
def subD : D → D → Res D
  | .int i, .int j => .ok (.int (i - j))
  | _, _ => .bad
def mulD : D → D → Res D
  | .int i, .int j => if mulOk i j then .ok (.int (i * j)) else .bad
  | _, _ => .bad
def fdivD : D → D → Res D
  | .int i, .int j => if divOk j then .ok (.int (i.fdiv j)) else .bad
  | _, _ => .bad
def modD : D → D → Res D
  | .int i, .int j => if decide (j ≠ 0) then .ok (.int (i.fmod j)) else .bad
  | _, _ => .bad
def powD : D → D → Res D
  | .int i, .int j => if powOk i j then .ok (.int (i ^ j.toNat)) else .bad
  | _, _ => .bad
def binD : Operator → D → D → Res D
  | .Add => addD
  | .Sub => subD
  | .Mult => mulD
  | .FloorDiv => fdivD
  | .Mod => modD
  | .Pow => powD
  | _ => fun _ _ => .bad
def negD : D → Res D
  | .int i => .ok (.int (-i))
  | _ => .bad
/-! plain data for == -/
mutual
def py : D → PyData
  | .non => .none
  | .bl b => .bool b
  | .int i => .int i
  | .str s => .str s
  | .tup l => .tuple (pyL l)
  | .lst _ l => .list (pyL l)
  | .dk _ _ => .dict []
  | .dt _ _ => .dict []
  | .ins _ _ _ => .dict []
def pyL : List D → List PyData
  | [] => []
  | d :: r => py d :: pyL r
end
def plain (d : D) : Bool := SeqAt.shaped (py d)
def deq (a b : D) : Bool := PyData.eqv (py a) (py b)
def eqD (a b : D) : Res Bool := if plain a && plain b then .ok (deq a b) else .bad
def isNon : D → Bool
  | .non => true
  | _ => false
def cmpI (p : Int → Int → Bool) : D → D → Res Bool
  | .int i, .int j => .ok (p i j)
  | _, _ => .bad
def isD : D → D → Res Bool
  | a, .non => .ok (isNon a)
  | _, _ => .bad
def notR : Res Bool → Res Bool
  | .ok b => .ok (!b)
  | .exc x => .exc x
  | .bad => .bad
def flatD : D → Bool
  | .non => true
  | .bl _ => true
  | .int _ => true
  | .str _ => true
  | _ => false
def isL : D → Bool
  | .lst _ _ => true
  | _ => false
/-- x in y, y a list or a tuple -/
def inOk (a b : D) (l : List D) : Bool := (flatD a && l.all flatD) || (isL b && plain a && plain b)
def inD (a b : D) : Res Bool := match b with
  | .lst m l => if inOk a (.lst m l) l then .ok (l.any fun z => deq z a) else .bad
  | .tup l => if inOk a (.tup l) l then .ok (l.any fun z => deq z a) else .bad
  | _ => .bad
def cmpD : CmpOp → D → D → Res Bool
  | .Eq => eqD
  | .NotEq => fun a b => notR (eqD a b)
  | .Lt => cmpI fun i j => decide (i < j)
  | .LtE => cmpI fun i j => decide (i ≤ j)
  | .Gt => cmpI fun i j => decide (j < i)
  | .GtE => cmpI fun i j => decide (j ≤ i)
  | .Is => isD
  | .IsNot => fun a b => notR (isD a b)
  | .In => inD
  | .NotIn => fun a b => notR (inD a b)
def truthD : D → Res Bool
  | .bl b => .ok b
  | _ => .bad
def ixD : D → D → Res D
  | .tup l, .int i => match atI l i with | some d => .ok (fz d) | none => .bad
  | .lst _ l, .int i => match atI l i with | some d => .ok (fz d) | none => .bad
  | .str z, .int i => if lineOk z.length then (match atI z.cps.toList i with | some ch => .ok (.str ⟨#[ch]⟩) | none => .bad) else .bad
  | _, _ => .bad
def cutD (l : List D) (lo hi : Option Int) : List D := (l.drop (HT.sIx l.length 0 lo)).take (HT.sIx l.length l.length hi - HT.sIx l.length 0 lo)
def slD : D → Option Int → Option Int → Res D
  | .lst _ l, lo, hi => .ok (.lst .own (mpL fzM (cutD l lo hi)))
  | .str z, lo, hi => if lineOk z.length then .ok (.str (cutS z lo hi)) else .bad
  | _, _, _ => .bad
def intsOf : List D → Option (List Int)
  | [] => some []
  | .int i :: r => (intsOf r).map (i :: ·)
  | _ :: _ => none
def sortInt (l : List Int) : List Int := l.mergeSort fun a b => decide (a ≤ b)
def bltD : Blt → List D → Res D
  | .len, [.lst _ l] => .ok (.int l.length)
  | .len, [.tup l] => .ok (.int l.length)
  | .len, [.str s] => if lineOk s.length then .ok (.int s.length) else .bad
  | .abs, [.int i] => .ok (.int (if i < 0 then -i else i))
  | .sum, [.lst _ l] => match intsOf l with | some ns => .ok (.int ns.sum) | none => .bad
  | .sorted, [.lst _ l] => match intsOf l with | some ns => .ok (.lst .own ((sortInt ns).map .int)) | none => .bad
  | .list, [.lst _ l] => .ok (.lst .own (mpL fzM l))
  | .list, [.tup l] => .ok (.lst .own (mpL fzM l))
  | .int, [.int i] => .ok (.int i)
  | .int, [.bl b] => .ok (.int (if b then 1 else 0))
  | .max2, [.int i, .int j] => .ok (.int (if j > i then j else i))
  | .min2, [.int i, .int j] => .ok (.int (if j < i then j else i))
  | _, _ => .bad
/-- the built-in types of data -/
def tyD : D → String
  | .non => "NoneType" | .bl _ => "bool" | .int _ => "int" | .str _ => "str" | .tup _ => "tuple" | .lst _ _ => "list" | .dk _ _ => "dict" | .dt _ _ => "dict" | .ins _ _ _ => ""
def isiS (a t : String) : Bool := a == t || (a == "bool" && t == "int")
def tysOk : List String := ["bool", "int", "str", "tuple", "list", "dict"]
def isiD (d : D) (t : String) : Res Bool := match d with
  | .ins _ _ _ => .bad
  | .lst .kon _ => .bad
  | d => if tysOk.contains t then .ok (isiS (tyD d) t) else .bad
/-- a call: what is handed in, what comes back -/
def callD (F : Fm) (ds : List D) : Res D :=
  if ds.length ≤ F.ar ∧ F.ar ≤ ds.length + F.dfl.length then
    match F.m (mpL shM ds ++ F.dfl.drop (ds.length + F.dfl.length - F.ar)) with
    | .ok r => if amL noBrwM ds || clean r then .ok r else .bad
    | .exc x => if amL noBrwM ds || amF isOwn x.fs then .exc x else .bad
    | .bad => .bad
  else .bad
def getE (env : Env) (i : Nat) : Res D := match env[i]? with
  | some (some d) => .ok d
  | _ => .bad
/-- a comprehension's items -/
def lcD (f : D → Res (Option D)) : List D → Res (List D)
  | [] => .ok []
  | d :: r => do
    let o ← f d
    let l ← lcD f r
    match o with
    | some x => return x :: l
    | none => return l
def rngD (n : Int) : List D := (List.range n.toNat).map fun (k : Nat) => .int (k : Int)
/-- a slot that holds nothing of one's own -/
def freeE (env : Env) (j : Nat) : Bool := match env[j]? with
  | some (some d) => noOwn d
  | _ => true
def okO {α : Type} : Res α → Res α
  | .ok a => .ok a
  | _ => .bad
def oneOpt : List D → Res (Option Int)
  | [] => .ok none
  | [.int i] => .ok (some i)
  | _ => .bad

/-- isinstance of the exception at hand -/
def isxD (T : Tb) (n : Nat) : D → Res Bool
  | .ins .exn m _ => .ok (T.sub m n)
  | _ => .bad
/-- all errors here are ValueErrors -/
def isvD : D → Res Bool
  | .ins .exn _ _ => .ok true
  | _ => .bad
def isxsD (T : Tb) (ns : List Nat) : D → Res Bool
  | .ins .exn m _ => .ok (ns.any (T.sub m))
  | _ => .bad
/-- a def that is called within an except suite: nothing may be raised -/
def hotF (F : Fm) : Fm := ⟨F.ar, F.dfl, fun ds => okO (F.m ds)⟩

mutual
def evE (T : Tb) : E → Env → Res D
  | .var i, env => do return bo (← getE env i)
  | .int n, _ => .ok (.int n)
  | .str s, _ => .ok (.str s)
  | .bl b, _ => .ok (.bl b)
  | .non, _ => .ok .non
  | .bin o a b, env => do
    let x ← evE T a env
    let y ← evE T b env
    binD o x y
  | .neg a, env => do negD (← evE T a env)
  | .cmp o a b, env => do
    let x ← evE T a env
    let y ← evE T b env
    return .bl (← cmpD o x y)
  | .nt a, env => do return .bl (!(← truthD (← evE T a env)))
  | .and es, env => do return .bl (← evAV T es env)
  | .or es, env => do return .bl (← evOV T es env)
  | .ife c a b, env => do if (← evT T c env) then evE T a env else evE T b env
  | .tup es, env => do
    let l ← evL T es env
    if lineOk l.length then return .tup (mpL fzM l) else .bad
  | .lst es, env => do
    let l ← evL T es env
    if lineOk l.length then return .lst .own (mpL fzM l) else .bad
  | .nil, _ => .bad
  | .cons _ _, _ => .bad
  | .ix a i, env => do
    let x ← evE T a env
    let y ← evE T i env
    ixD x y
  | .sl a lo hi, env => do
    let x ← evE T a env
    let l ← oneOpt (← evL T lo env)
    let h ← oneOpt (← evL T hi env)
    slD x l h
  | .call i es, env => do callD (T.f i) (← evL T es env)
  | .blt f es, env => do bltD f (← evL T es env)
  | .isi a t, env => do return .bl (← isiD (← evE T a env) t)
  | .lc j src c e, env => do
    match (← evE T src env) with
    | .lst m l =>
      let r ← okO (lcD (fun d => do if (← evC T c (env.set j (some d))) then return some (fz (← evE T e (env.set j (some d)))) else return none) (mpL fzM l))
      if amL noBrwM l && lineOk l.length && freeE env j then return .lst .own r else .bad
    | _ => .bad
  | .lcr j n c e, env => do
    match (← evE T n env) with
    | .int k =>
      let r ← okO (lcD (fun d => do if (← evC T c (env.set j (some d))) then return some (fz (← evE T e (env.set j (some d)))) else return none) (rngD k))
      if decide (k.natAbs < 1000000) && freeE env j then return .lst .own r else .bad
    | _ => .bad
  | .isx i n, env => do return .bl (← isxD T n (← getE env i))
  | .isv i, env => do return .bl (← isvD (← getE env i))
  | .isxs i ns, env => do return .bl (← isxsD T ns (← getE env i))
  | .callH i es, env => do callD (hotF (T.f i)) (← evL T es env)
def evL (T : Tb) : E → Env → Res (List D)
  | .nil, _ => .ok []
  | .cons e es, env => do
    let x ← evE T e env
    let l ← evL T es env
    return x :: l
  | _, _ => .bad
def evT (T : Tb) : E → Env → Res Bool
  | .and es, env => evA T es env
  | .or es, env => evO T es env
  | .nt a, env => do return !(← evT T a env)
  | .cmp o a b, env => do
    let x ← evE T a env
    let y ← evE T b env
    cmpD o x y
  | .var i, env => do truthD (← getE env i)
  | .bl b, _ => .ok b
  | .call i es, env => do truthD (← callD (T.f i) (← evL T es env))
  | .isi a t, env => do isiD (← evE T a env) t
  | .isx i n, env => do isxD T n (← getE env i)
  | .isv i, env => do isvD (← getE env i)
  | .isxs i ns, env => do isxsD T ns (← getE env i)
  | .callH i es, env => do truthD (← callD (hotF (T.f i)) (← evL T es env))
  | _, _ => .bad
def evC (T : Tb) : E → Env → Res Bool
  | .nil, _ => .ok true
  | .cons e .nil, env => evT T e env
  | _, _ => .bad
def evA (T : Tb) : E → Env → Res Bool
  | .cons e es, env => do
    if (← evT T e env) then (match es with | .nil => return true | es => evA T es env) else return false
  | _, _ => .bad
def evO (T : Tb) : E → Env → Res Bool
  | .cons e es, env => do
    if (← evT T e env) then return true else (match es with | .nil => return false | es => evO T es env)
  | _, _ => .bad
def evAV (T : Tb) : E → Env → Res Bool
  | .cons e es, env => do
    if (← truthD (← evE T e env)) then (match es with | .nil => return true | es => evAV T es env) else return false
  | _, _ => .bad
def evOV (T : Tb) : E → Env → Res Bool
  | .cons e es, env => do
    if (← truthD (← evE T e env)) then return true else (match es with | .nil => return false | es => evOV T es env)
  | _, _ => .bad
end

/-! ### statements -/
inductive S where
  | nop | seq (a b : S)
  | asg (i : Nat) (e : E) | asgT (is : List Nat) (e : E)
  | exp (e : E) | app (i : Nat) (e : E)
  | aug (i : Nat) (o : Operator) (e : E)
  | ret (e : E) | retN | retV (i : Nat)
  | ife (c : E) (a b : S)
  | forL (is : List Nat) (src : E) (b : S)
  | forR (j : Nat) (n : E) (b : S)
  | whl (n : Nat) (c : E) (b : S)
  | brk | cnt
  | rse (c : Nat)
  | tryX (b : S) (c i : Nat) (h : S)
  | fz (i : Nat)
inductive Out where
  | nx (env : Env) | ret (d : D) | brk (env : Env) | cnt (env : Env) | exc (x : Xc) (env : Env) | bad
def Out.thn : Out → (Env → Out) → Out
  | .nx e, f => f e
  | o, _ => o
def Res.out {α : Type} (r : Res α) (env : Env) (f : α → Out) : Out := match r with
  | .ok a => f a
  | .exc x => .exc x env
  | .bad => .bad
def putE (env : Env) (i : Nat) (d : D) : Out := if noBrw d && decide (i < env.length) then .nx (env.set i (some d)) else .bad
def putEs : Env → List Nat → List D → Out
  | env, [], [] => .nx env
  | env, i :: is, d :: ds => (putE env i d).thn fun e => putEs e is ds
  | _, _, _ => .bad
/-- a loop's target: one name, or names for a tuple's items -/
def tgE (env : Env) : List Nat → D → Out
  | [i], d => putE env i d
  | i :: j :: is, .tup l => putEs env (i :: j :: is) l
  | _, _ => .bad
def loopD (f : Env → Out) (t : Env → D → Out) : List D → Env → Out
  | [], env => .nx env
  | d :: r, env => match t env d with
    | .nx e1 => (match f e1 with
      | .nx e2 => loopD f t r e2
      | .cnt e2 => loopD f t r e2
      | .brk e2 => .nx e2
      | o => o)
    | _ => .bad
def whlD (c : Env → Res Bool) (f : Env → Out) : Nat → Env → Out
  | 0, _ => .bad
  | n + 1, env => match c env with
    | .ok true => (match f env with
      | .nx e2 => whlD c f n e2
      | .cnt e2 => whlD c f n e2
      | .brk e2 => .nx e2
      | o => o)
    | .ok false => .nx env
    | .exc x => .exc x env
    | .bad => .bad
/-- behind a handler its name is gone -/
def noExnO : Option D → Bool
  | some d => noExn d
  | none => true
def clrO (o : Out) (i : Nat) : Out := match o with
  | .nx e => if freeE e i && (e.set i none).all noExnO then .nx (e.set i none) else .bad
  | .ret d => if noExn d then .ret d else .bad
  | _ => .bad
def evS (T : Tb) : S → Env → Out
  | .nop, env => .nx env
  | .seq a b, env => (evS T a env).thn (evS T b)
  | .asg i e, env => (evE T e env).out env (putE env i)
  | .asgT is e, env => (evE T e env).out env fun d => match d with
    | .tup l => if is.length == 1 || !amL noBrwM l then .bad else putEs env is (mpL fzM l)
    | _ => .bad
  | .exp e, env => (evE T e env).out env fun _ => .nx env
  | .app i e, env => match env[i]? with
    | some (some (.lst .own l)) => (evE T e env).out env fun d => if noBrw d && lineOk l.length then .nx (env.set i (some (.lst .own (l ++ [Pv.fz d])))) else .bad
    | _ => .bad
  | .aug i o e, env => (getE env i).out env fun x => (evE T e env).out env fun y => (match o, x, y with
    | .Add, .int a, .int b => putE env i (.int (a + b))
    | .Sub, .int a, .int b => putE env i (.int (a - b))
    | _, _, _ => .bad)
  | .ret e, env => (evE T e env).out env fun d => .ret (Pv.rt d)
  | .retN, _ => .ret .non
  | .retV i, env => (getE env i).out env .ret
  | .ife c a b, env => (evT T c env).out env fun k => if k then evS T a env else evS T b env
  | .forL is src b, env => (evE T src env).out env fun d => match d with
    | .lst _ l => if amL noBrwM l && noBrw d then loopD (evS T b) (fun e x => tgE e is x) (mpL fzM l) env else .bad
    | _ => .bad
  | .forR j n b, env => (evE T n env).out env fun d => match d with
    | .int k => if decide (k.natAbs < 1000000) then loopD (evS T b) (fun e x => tgE e [j] x) (rngD k) env else .bad
    | _ => .bad
  | .whl n c b, env => whlD (evT T c) (evS T b) n env
  | .brk, env => .brk env
  | .cnt, env => .cnt env
  | .rse c, env => .exc ⟨c, []⟩ env
  | .tryX b c i h, env => match evS T b env with
    | .exc x e1 => if T.xs.contains x.c && x.fs.isEmpty && freeE e1 i && decide (i < e1.length) then (if T.sub x.c c then clrO (evS T h (e1.set i (some (.ins .exn x.c [])))) i else .exc x e1) else .bad
    | o => o
  | .fz i, env => match env[i]? with
    | some (some d) => .nx (env.set i (some (Pv.fz d)))
    | _ => .bad
end Pv
/-! Pv3: what is wished of a value; the operations' rules. -/
namespace Pv
open PySem L2 PySem.Spec
open PyProof.Rows (floordiv_int)

/-- the frame's slots hold the data; fp: their own addresses -/
inductive EnvR (C : Kc) (B H : Hp) : St → Env → List Addr → Prop
  | nil : EnvR C B H [] [] []
  | skip {o : Option V} {σ : St} {env : Env} {fp : List Addr} : EnvR C B H σ env fp → EnvR C B H (o :: σ) (none :: env) fp
  | put {v : V} {d : D} {fq : List Addr} {σ : St} {env : Env} {fp : List Addr} : Rl C B H [] v d fq → EnvR C B H σ env fp → EnvR C B H (some v :: σ) (some d :: env) (fq ++ fp)
theorem EnvR.mono {C : Kc} {B B' H H' : Hp} (hB : Same B B') (hH : Same H H') : ∀ {σ : St} {env : Env} {fp : List Addr}, EnvR C B H σ env fp → EnvR C B' H' σ env fp
  | _, _, _, .nil => .nil
  | _, _, _, .skip h => .skip (EnvR.mono hB hH h)
  | _, _, _, .put r h => .put (r.mono hB hH) (EnvR.mono hB hH h)
theorem EnvR.get {C : Kc} {B H : Hp} : ∀ {σ : St} {env : Env} {fp : List Addr} {i : Nat} {d : D}, EnvR C B H σ env fp → env[i]? = some (some d) → ∃ v fq, σ[i]? = some (some v) ∧ Rl C B H [] v d fq ∧ ∀ a ∈ fq, a ∈ fp
  | _, _, _, i, d, .nil, h => by simp at h
  | _, _, _, 0, d, .skip _, h => by simp at h
  | _, _, _, i + 1, d, .skip r, h => by
    obtain ⟨v, fq, h1, h2, h3⟩ := EnvR.get (i := i) (d := d) r (by simpa using h)
    exact ⟨v, fq, by simpa using h1, h2, h3⟩
  | _, _, _, 0, d, .put r _, h => by
    simp at h
    subst h
    exact ⟨_, _, rfl, r, fun a ha => List.mem_append_left _ ha⟩
  | _, _, _, i + 1, d, .put _ r, h => by
    obtain ⟨v, fq, h1, h2, h3⟩ := EnvR.get (i := i) (d := d) r (by simpa using h)
    exact ⟨v, fq, by simpa using h1, h2, fun a ha => List.mem_append_right _ (h3 a ha)⟩
theorem EnvR.mutb {C : Kc} {B H : Hp} : ∀ {σ : St} {env : Env} {fp : List Addr}, EnvR C B H σ env fp → ∀ a ∈ fp, ∃ o, H a = some o ∧ Mutb o
  | _, _, _, .nil, a, h => nomatch h
  | _, _, _, .skip r, a, h => EnvR.mutb r a h
  | _, _, _, .put x r, a, h => (List.mem_append.mp h).elim (x.mutb a) (EnvR.mutb r a)
theorem EnvR.len {C : Kc} {B H : Hp} : ∀ {σ : St} {env : Env} {fp : List Addr}, EnvR C B H σ env fp → σ.length = env.length
  | _, _, _, .nil => rfl
  | _, _, _, .skip r => by simp [EnvR.len r]
  | _, _, _, .put _ r => by simp [EnvR.len r]
/-! nothing is seen where nothing may be borrowed -/
mutual
theorem Rl.nb {C : Kc} {B H : Hp} : ∀ {v : V} {d : D} {fp : List Addr}, Rl C B H [] v d fp → noBrw d = true
  | _, _, _, .non => rfl
  | _, _, _, .bl _ => rfl
  | _, _, _, .int _ => rfl
  | _, _, _, .str _ => rfl
  | _, _, _, .tup _ l => RlL.nb l
  | _, _, _, .lstK _ l => by simp [noBrw, am, noBrwM]; exact RlL.nb l
  | _, _, _, .lstS _ l => by simp [noBrw, am, noBrwM]; exact RlL.nb l
  | _, _, _, .lstB w _ l => nomatch w
  | _, _, _, .lstO _ l => by simp [noBrw, am, noBrwM]; exact RlL.nb l
  | _, _, _, .dkS _ l => by simp [noBrw, am, noBrwM]; exact RlP.nbK l
  | _, _, _, .dkB w _ l => nomatch w
  | _, _, _, .dkO _ l => by simp [noBrw, am, noBrwM]; exact RlP.nbK l
  | _, _, _, .dtS _ l => by simp [noBrw, am, noBrwM]; exact RlP.nbT l
  | _, _, _, .dtB w _ l => nomatch w
  | _, _, _, .dtO _ l => by simp [noBrw, am, noBrwM]; exact RlP.nbT l
  | _, _, _, .insS _ l => by simp [noBrw, am, noBrwM]; exact RlP.nbF l
  | _, _, _, .insB w _ l => nomatch w
  | _, _, _, .insO _ l => by simp [noBrw, am, noBrwM]; exact RlP.nbF l
  | _, _, _, .insX _ => rfl
theorem RlL.nb {C : Kc} {B H : Hp} : ∀ {v : List V} {d : List D} {fp : List Addr}, RlL C B H [] v d fp → amL noBrwM d = true
  | _, _, _, .nil => rfl
  | _, _, _, .cons h l => by simp only [amL, Bool.and_eq_true]; exact ⟨Rl.nb h, RlL.nb l⟩
theorem RlP.nbK {C : Kc} {B H : Hp} : ∀ {v : List (Key × V)} {d : List (Key × D)} {fp : List Addr}, RlP C B H [] Key v d fp → amK noBrwM d = true
  | _, _, _, .nil => rfl
  | _, _, _, .cons h l => by simp only [amK, Bool.and_eq_true]; exact ⟨Rl.nb h, RlP.nbK l⟩
theorem RlP.nbT {C : Kc} {B H : Hp} : ∀ {v : List (List Key × V)} {d : List (List Key × D)} {fp : List Addr}, RlP C B H [] (List Key) v d fp → amT noBrwM d = true
  | _, _, _, .nil => rfl
  | _, _, _, .cons h l => by simp only [amT, Bool.and_eq_true]; exact ⟨Rl.nb h, RlP.nbT l⟩
theorem RlP.nbF {C : Kc} {B H : Hp} : ∀ {v : List (Str × V)} {d : List (Str × D)} {fp : List Addr}, RlP C B H [] Str v d fp → amF noBrwM d = true
  | _, _, _, .nil => rfl
  | _, _, _, .cons h l => by simp only [amF, Bool.and_eq_true]; exact ⟨Rl.nb h, RlP.nbF l⟩
end

structure OkF (C : Kc) (O : List Addr) (env : Env) (σ : St) (H : Hp) (fp : List Addr) : Prop where
  rel : EnvR C (cut H (fp ++ O)) H σ env fp
  nd : fp.Nodup
  dj : ∀ a ∈ fp, a ∉ O
  od : ∀ a ∈ O, ∃ o, H a = some o
section
variable {C : Kc} {O os os' W W' fp fq : List Addr} {env : Env} {σ : St} {H H' H2 : Hp}
theorem OkF.fd (h : OkF C O env σ H fp) : ∀ a ∈ fp, ∃ o, H a = some o := fun a ha => let ⟨o, e, _⟩ := h.rel.mutb a ha; ⟨o, e⟩
theorem OkF.osd (h : OkF C O env σ H fp) : ∀ a ∈ fp ++ O, ∃ o, H a = some o := fun a ha => (List.mem_append.mp ha).elim (h.fd a) (h.od a)
theorem OkF.grow (h : OkF C O env σ H fp) (e : Same H H') : OkF C O env σ H' fp :=
  ⟨h.rel.mono (cut_mono e) e, h.nd, h.dj, fun a ha => let ⟨o, q⟩ := h.od a ha; ⟨o, e a o q⟩⟩
theorem OkF.wide (h : OkF C O env σ H fp) (e : Same H H') (hf : ∀ a ∈ fq, H a = none) (hd : ∀ a ∈ fq, ∃ o, H' a = some o) : OkF C (fq ++ O) env σ H' fp where
  rel := h.rel.mono (fun a o q => by
    obtain ⟨q1, q2⟩ := cut_some q
    rw [cut_out]
    · exact e a o q1
    · intro z
      rcases List.mem_append.mp z with z | z
      · exact q2 (List.mem_append_left _ z)
      · rcases List.mem_append.mp z with z | z
        · rw [hf a z] at q1; cases q1
        · exact q2 (List.mem_append_right _ z)) e
  nd := h.nd
  dj := fun a ha z => by
    rcases List.mem_append.mp z with z | z
    · obtain ⟨o, q⟩ := h.fd a ha
      rw [hf a z] at q; cases q
    · exact h.dj a ha z
  od := fun a ha => by
    rcases List.mem_append.mp ha with z | z
    · exact hd a z
    · obtain ⟨o, q⟩ := h.od a z
      exact ⟨o, e a o q⟩
end

/-- an exception's data -/
def RlX (C : Kc) (B : Hp) (cls : Value) (dx : Option Addr) (x : Xc) : Prop :=
  cls = .ref (C.cl x.c) ∧ ((x.fs = [] ∧ dx = none) ∨ ∃ a vs, x.fs ≠ [] ∧ dx = some a ∧ B a = some (.xd vs) ∧ RlP C B (fun _ => none) [] Str vs x.fs [])
theorem RlX.mono {C : Kc} {B B' : Hp} {cls : Value} {dx : Option Addr} {x : Xc} (e : Same B B') (h : RlX C B cls dx x) : RlX C B' cls dx x := by
  obtain ⟨h1, h2⟩ := h
  refine ⟨h1, h2.imp id fun ⟨a, vs, q0, q1, q2, q3⟩ => ⟨a, vs, q0, q1, e _ _ q2, q3.mono e fun _ _ z => z⟩⟩

/-- a value that comes: of data d, its own addresses new -/
def VR (C : Kc) (os W : List Addr) (H : Hp) (d : D) (Q : VK) : Prop := ∀ v H' fq, Same H H' → Rl C (cut H' (fq ++ os)) H' W v d fq → fq.Nodup → (∀ a ∈ fq, H a = none) → Q v H'
def VRL (C : Kc) (os W : List Addr) (H : Hp) (d : List D) (Q : List V → Hp → Prop) : Prop := ∀ v H' fq, Same H H' → RlL C (cut H' (fq ++ os)) H' W v d fq → fq.Nodup → (∀ a ∈ fq, H a = none) → Q v H'
def XR (C : Kc) (os : List Addr) (H : Hp) (x : Xc) (Wx : WX) (σ : St) : Prop := ∀ cls dx H', Same H H' → RlX C (cut H' os) cls dx x → Wx cls dx σ H'
def WG (C : Kc) (os : List Addr) (Wx : WX) (σ : St) (H : Hp) {α : Type} (r : Res α) (P : α → Prop) : Prop := match r with
  | .ok a => P a
  | .exc x => XR C os H x Wx σ
  | .bad => False
section
variable {C : Kc} {os os' W : List Addr} {H H' : Hp} {d : D} {Q : VK} {Wx : WX} {σ : St}
theorem fresh_b (e : Same H H') {a : Addr} (h : H' a = none) : H a = none := Same.free e h
theorem VR.weak (h : VR C os W H d Q) (e : Same H H') (ho : ∀ a ∈ os, a ∈ os') : VR C os' W H' d Q := fun v H2 fq e2 r nd hf =>
  h v H2 fq (e.trans e2) (r.mono (cut_sub fun a ha => (List.mem_append.mp ha).elim (List.mem_append_left _) fun z => List.mem_append_right _ (ho a z)) fun _ _ q => q) nd fun a ha => fresh_b e (hf a ha)
theorem XR.weak {x : Xc} (h : XR C os H x Wx σ) (e : Same H H') (ho : ∀ a ∈ os, a ∈ os') : XR C os' H' x Wx σ := fun cls dx H2 e2 r => h cls dx H2 (e.trans e2) (r.mono (cut_sub ho))
theorem WG.bind {α β : Type} {r : Res α} {f : α → Res β} {P : β → Prop} {P' : α → Prop} (h : WG C os Wx σ H (r >>= f) P) (e : Same H H') (ho : ∀ a ∈ os, a ∈ os') (k : ∀ a, r = .ok a → WG C os Wx σ H (f a) P → P' a) : WG C os' Wx σ H' r P' := by
  cases r with
  | ok a => exact k a rfl h
  | exc x => exact XR.weak h e ho
  | bad => exact h
theorem WG.ret {α β : Type} {r : Res α} {g : α → β} {P : β → Prop} {P' : α → Prop} (h : WG C os Wx σ H (do return g (← r)) P) (e : Same H H') (ho : ∀ a ∈ os, a ∈ os') (k : ∀ a, r = .ok a → P (g a) → P' a) : WG C os' Wx σ H' r P' := h.bind e ho fun a ha q => k a ha q
theorem WG.ok {α : Type} {r : Res α} {P : α → Prop} (h : WG C os Wx σ H r P) (ne : ∀ x, r ≠ .exc x) : ∃ a, r = .ok a ∧ P a := by
  cases r with
  | ok a => exact ⟨a, rfl, h⟩
  | exc x => exact absurd rfl (ne x)
  | bad => exact h.elim
/-- what is cut less, in a greater heap -/
theorem cutS {os1 os2 : List Addr} (e : Same H H') (h : ∀ a ∈ os2, a ∈ os1 ∨ H a = none) : Same (cut H os1) (cut H' os2) := fun a o q => by
  obtain ⟨q1, q2⟩ := cut_some q
  rw [cut_out]
  · exact e a o q1
  · intro z
    rcases h a z with z | z
    · exact q2 z
    · rw [z] at q1; cases q1
theorem VR.sc (h : VR C os W H d Q) {v : V} (r : ∀ B, Rl C B H W v d []) : Q v H := h v H [] (fun _ _ q => q) (r _) List.nodup_nil (fun _ z => nomatch z)
theorem VR.int {i : Int} (h : VR C os W H (.int i) Q) : Q (.int i) H := h.sc fun _ => .int i
theorem VR.bl {i : Bool} (h : VR C os W H (.bl i) Q) : Q (.bl i) H := h.sc fun _ => .bl i
theorem VR.str {i : Str} (h : VR C os W H (.str i) Q) : Q (.str i) H := h.sc fun _ => .str i
theorem VR.non (h : VR C os W H .non Q) : Q .non H := h.sc fun _ => .non
end

/-! ### inversions -/
section
variable {C : Kc} {B H : Hp} {W : List Addr} {v : V} {vs : List V} {f : List Addr}
theorem Rl.int_inv {i : Int} (h : Rl C B H W v (.int i) f) : v = .int i ∧ f = [] := by cases h; exact ⟨rfl, rfl⟩
theorem Rl.bl_inv {i : Bool} (h : Rl C B H W v (.bl i) f) : v = .bl i ∧ f = [] := by cases h; exact ⟨rfl, rfl⟩
theorem Rl.str_inv {i : Str} (h : Rl C B H W v (.str i) f) : v = .str i ∧ f = [] := by cases h; exact ⟨rfl, rfl⟩
theorem Rl.non_inv (h : Rl C B H W v .non f) : v = .non ∧ f = [] := by cases h; exact ⟨rfl, rfl⟩
theorem RlL.len : ∀ {vs : List V} {ds : List D} {f : List Addr}, RlL C B H W vs ds f → vs.length = ds.length
  | _, _, _, .nil => rfl
  | _, _, _, .cons _ l => by simp [RlL.len l]
theorem RlL.get : ∀ {vs : List V} {ds : List D} {f : List Addr} {j : Nat} {d : D}, RlL C B H W vs ds f → ds[j]? = some d → ∃ v g, vs[j]? = some v ∧ Rl C B H W v d g ∧ ∀ a ∈ g, a ∈ f
  | _, _, _, j, d, .nil, h => by simp at h
  | _, _, _, 0, d, .cons r _, h => by
    simp at h
    subst h
    exact ⟨_, _, rfl, r, fun a ha => List.mem_append_left _ ha⟩
  | _, _, _, j + 1, d, .cons _ l, h => by
    obtain ⟨v, g, h1, h2, h3⟩ := RlL.get (j := j) (d := d) l (by simpa using h)
    exact ⟨v, g, by simpa using h1, h2, fun a ha => List.mem_append_right _ (h3 a ha)⟩
theorem RlL.app : ∀ {vs ws : List V} {ds es : List D} {f g : List Addr}, RlL C B H W vs ds f → RlL C B H W ws es g → RlL C B H W (vs ++ ws) (ds ++ es) (f ++ g)
  | _, _, _, _, _, _, .nil, h => h
  | _, _, _, _, _, _, .cons (fp := fp) (fq := fq) r l, h => by
    rw [List.append_assoc]
    exact .cons r (RlL.app l h)
theorem RlL.take0 : ∀ (n : Nat) {vs : List V} {ds : List D}, RlL C B H W vs ds [] → RlL C B H W (vs.take n) (ds.take n) []
  | 0, _, _, _ => .nil
  | n + 1, [], [], _ => .nil
  | n + 1, v :: vs, d :: ds, h => by
    generalize hf : ([] : List Addr) = f at h
    cases h with
    | cons r l =>
      obtain ⟨e1, e2⟩ := List.append_eq_nil_iff.mp hf.symm
      subst e1 e2
      exact .cons (fp := []) (fq := []) r (RlL.take0 n l)
theorem RlL.drop0 : ∀ (n : Nat) {vs : List V} {ds : List D}, RlL C B H W vs ds [] → RlL C B H W (vs.drop n) (ds.drop n) []
  | 0, _, _, h => h
  | n + 1, [], [], h => .nil
  | n + 1, v :: vs, d :: ds, h => by
    generalize hf : ([] : List Addr) = f at h
    cases h with
    | cons r l =>
      obtain ⟨e1, e2⟩ := List.append_eq_nil_iff.mp hf.symm
      subst e1 e2
      exact RlL.drop0 n l
end
section
variable {C : Kc} {H : Hp} {os W : List Addr} {v : V} {f : List Addr}
theorem sqT_cut {K : Frag} {a : Addr} {xs : List V} (h : SqT K (cut H os) a xs) : SqT K H a xs := Same.sqT (same_cut H os) h
theorem sqL_cut {K : Frag} {a : Addr} {xs : List V} (h : SqL K (cut H os) a xs) : SqL K H a xs := Same.sqL (same_cut H os) h
theorem Rl.tup_inv {ds : List D} (h : Rl C (cut H os) H W v (.tup ds) f) : ∃ a vs, v = .ref a ∧ SqT C.K H a vs ∧ SqT C.K (cut H os) a vs ∧ RlL C (cut H os) H W vs ds f := by
  cases h with
  | tup t l => exact ⟨_, _, rfl, sqT_cut t, t, l⟩
theorem Rl.lst_inv {m : Md} {ds : List D} (h : Rl C (cut H os) H W v (.lst m ds) f) : ∃ a vs g, v = .ref a ∧ SqL C.K H a vs ∧ (notKon m = true → H a = some (.lst vs)) ∧ RlL C (cut H os) H W vs ds g ∧ ∀ b ∈ g, b ∈ f := by
  cases h with
  | lstK t l => exact ⟨_, _, _, rfl, sqL_cut t, (fun z => nomatch z), l, fun _ z => z⟩
  | lstS t l => exact ⟨_, _, _, rfl, SqL.of (cut_some t).1, fun _ => (cut_some t).1, l, fun _ z => z⟩
  | lstB w t l => exact ⟨_, _, _, rfl, SqL.of t, fun _ => t, l, fun _ z => z⟩
  | lstO t l => exact ⟨_, _, _, rfl, SqL.of t, fun _ => t, l, fun _ z => List.mem_cons_of_mem _ z⟩
end
/-! ### making new things -/
section
variable {C : Kc} {H H' : Hp} {os os' W : List Addr} {Q : VK}
/-- the frozen items of what was met, under a new heap that shows them -/
theorem RlL.froze {vs : List V} {ds : List D} {g fq : List Addr} (l : RlL C (cut H os) H W vs ds g) (e : Same H H') (hs : ∀ a ∈ os', a ∈ os) (hg : ∀ a ∈ g, a ∉ os') (hq : ∀ a ∈ fq, H a = none) : RlL C (cut H' (fq ++ os')) H' W vs (mpL fzM ds) [] := by
  refine l.fz (fun a o q => ?_) e fun a ha o q => ?_
  · obtain ⟨q1, q2⟩ := cut_some q
    rw [cut_out]
    · exact e a o q1
    · intro z
      rcases List.mem_append.mp z with z | z
      · rw [hq a z] at q1; cases q1
      · exact q2 (hs a z)
  · rw [cut_out]
    · exact e a o q
    · intro z
      rcases List.mem_append.mp z with z | z
      · rw [hq a z] at q; cases q
      · exact hg a ha z
theorem Rl.froze {v : V} {d : D} {g fq : List Addr} (l : Rl C (cut H os) H W v d g) (e : Same H H') (hs : ∀ a ∈ os', a ∈ os) (hg : ∀ a ∈ g, a ∉ os') (hq : ∀ a ∈ fq, H a = none) : Rl C (cut H' (fq ++ os')) H' W v (Pv.fz d) [] := by
  refine l.fz (fun a o q => ?_) e fun a ha o q => ?_
  · obtain ⟨q1, q2⟩ := cut_some q
    rw [cut_out]
    · exact e a o q1
    · intro z
      rcases List.mem_append.mp z with z | z
      · rw [hq a z] at q1; cases q1
      · exact q2 (hs a z)
  · rw [cut_out]
    · exact e a o q
    · intro z
      rcases List.mem_append.mp z with z | z
      · rw [hq a z] at q; cases q
      · exact hg a ha z
theorem same_new {p : Addr} {o : HO} (h : H p = none) : Same H (upd H p o) := fun b u e => by
  rw [upd_ne (ne_of_none e h)]
  exact e
/-- a new list of frozen items -/
theorem VR.newL {p : Addr} {vs : List V} {ds : List D} {g : List Addr} (h : VR C os' W H (.lst .own (mpL fzM ds)) Q) (l : RlL C (cut H os) H W vs ds g) (hs : ∀ a ∈ os', a ∈ os) (hg : ∀ a ∈ g, a ∉ os') (hp : H p = none) : Q (.ref p) (upd H p (.lst vs)) :=
  h (.ref p) _ [p] (same_new hp) (.lstO (fp := []) upd_same (l.froze (same_new hp) hs hg fun a ha => by simp at ha; subst ha; exact hp)) (by simp) fun a ha => by simp at ha; subst ha; exact hp
theorem VR.newT {p : Addr} {vs : List V} {ds : List D} {g : List Addr} (h : VR C os' W H (.tup (mpL fzM ds)) Q) (l : RlL C (cut H os) H W vs ds g) (hs : ∀ a ∈ os', a ∈ os) (hg : ∀ a ∈ g, a ∉ os') (hp : H p = none) (ho : p ∉ os') : Q (.ref p) (upd H p (.tup vs)) := by
  refine h (.ref p) _ [] (same_new hp) (.tup (fp := []) (SqT.of ?_) (l.froze (fq := []) (same_new hp) hs hg fun a ha => nomatch ha)) List.nodup_nil fun a ha => nomatch ha
  show cut _ os' p = _
  rw [cut_out ho]
  exact upd_same
end
theorem line_le {n : Nat} (h : lineOk n = true) : n ≤ sizeLine := Nat.le_of_lt (of_decide_eq_true h)
theorem line_lt {n : Nat} (h : lineOk n = true) : n < sizeLine := of_decide_eq_true h

/-! ### the operations -/
def rB (C : Kc) (o : Operator) : R2 := fun x y H Q => ∃ os os' W d1 d2 f1 f2 d, Rl C (cut H os) H W x d1 f1 ∧ Rl C (cut H os) H W y d2 f2 ∧ (∀ a ∈ os', a ∈ os) ∧ (∀ a ∈ f1 ++ f2, a ∉ os') ∧ binD o d1 d2 = .ok d ∧ VR C os' W H d Q
theorem op_fdivW2 {X : Cx} : OpR X (binaryOp .FloorDiv) (rI (fun _ j => divOk j = true) fun i j => .int (i.fdiv j)) := opI fun i j _ _ _ _ _ hc q => by
  unfold divOk at hc
  simp only [Bool.and_eq_true, decide_eq_true_eq] at hc
  exact floordiv_int hc.1 q (.inl (PyProof.noPylong_of_log2 hc.2))
theorem op_bin {X : Cx} {C : Kc} {o : Operator} (ho : o = .Add ∨ o = .Sub ∨ o = .Mult ∨ o = .FloorDiv ∨ o = .Mod ∨ o = .Pow) : OpR X (binaryOp o) (rB C o) := by
  intro pins s σ H x y v u Q I rx ry h
  obtain ⟨os, os', W, d1, d2, f1, f2, d, r1, r2, hs, hf, hd, q⟩ := h
  rcases ho with rfl | rfl | rfl | rfl | rfl | rfl
  · change addD d1 d2 = .ok d at hd
    unfold addD at hd
    split at hd
    · obtain ⟨rfl, _⟩ := r1.int_inv
      obtain ⟨rfl, _⟩ := r2.int_inv
      cases hd
      exact op_add pins s σ H _ _ v u Q I rx ry ⟨_, _, rfl, rfl, q.int⟩
    · obtain ⟨rfl, _⟩ := r1.str_inv
      obtain ⟨rfl, _⟩ := r2.str_inv
      split at hd
      · rename_i hl
        cases hd
        exact op_add_str pins s σ H _ _ v u Q I rx ry ⟨_, _, rfl, rfl, line_le hl, q.str⟩
      · cases hd
    · obtain ⟨a, vs, g1, rfl, _, ha, l1, s1⟩ := r1.lst_inv
      obtain ⟨b, ws, g2, rfl, _, hb, l2, s2⟩ := r2.lst_inv
      split at hd
      · rename_i hl
        simp only [Bool.and_eq_true] at hl
        obtain ⟨⟨m1, m2⟩, hl⟩ := hl
        cases hd
        refine op_cat pins s σ H _ _ v u Q I rx ry ⟨a, b, vs, ws, rfl, rfl, ha m1, hb m2, ?_, fun p hp => ?_⟩
        · rw [l1.len, l2.len]; exact line_le hl
        · refine VR.newL (g := g1 ++ g2) (os := os) (ds := _ ++ _) (by rw [mpL_eq, List.map_append, ← mpL_eq, ← mpL_eq]; exact q) (l1.app l2) hs (fun c hc => hf c ?_) hp
          exact (List.mem_append.mp hc).elim (fun z => List.mem_append_left _ (s1 c z)) fun z => List.mem_append_right _ (s2 c z)
      · cases hd
    · cases hd
  · change subD d1 d2 = .ok d at hd
    unfold subD at hd
    split at hd
    · obtain ⟨rfl, _⟩ := r1.int_inv
      obtain ⟨rfl, _⟩ := r2.int_inv
      cases hd
      exact op_sub pins s σ H _ _ v u Q I rx ry ⟨_, _, rfl, rfl, q.int⟩
    · cases hd
  · change mulD d1 d2 = .ok d at hd
    unfold mulD at hd
    split at hd
    · obtain ⟨rfl, _⟩ := r1.int_inv
      obtain ⟨rfl, _⟩ := r2.int_inv
      split at hd
      · rename_i hl
        cases hd
        exact op_mulW pins s σ H _ _ v u Q I rx ry ⟨_, _, rfl, rfl, (by unfold mulOk at hl; simpa [CMulW] using hl), q.int⟩
      · cases hd
    · cases hd
  · change fdivD d1 d2 = .ok d at hd
    unfold fdivD at hd
    split at hd
    · obtain ⟨rfl, _⟩ := r1.int_inv
      obtain ⟨rfl, _⟩ := r2.int_inv
      split at hd
      · rename_i hl
        cases hd
        exact op_fdivW2 pins s σ H _ _ v u Q I rx ry ⟨_, _, rfl, rfl, hl, q.int⟩
      · cases hd
    · cases hd
  · change modD d1 d2 = .ok d at hd
    unfold modD at hd
    split at hd
    · obtain ⟨rfl, _⟩ := r1.int_inv
      obtain ⟨rfl, _⟩ := r2.int_inv
      split at hd
      · rename_i hl
        cases hd
        exact op_modN pins s σ H _ _ v u Q I rx ry ⟨_, _, rfl, rfl, of_decide_eq_true hl, q.int⟩
      · cases hd
    · cases hd
  · change powD d1 d2 = .ok d at hd
    unfold powD at hd
    split at hd
    · obtain ⟨rfl, _⟩ := r1.int_inv
      obtain ⟨rfl, _⟩ := r2.int_inv
      split at hd
      · rename_i hl
        cases hd
        unfold powOk at hl
        simp only [Bool.and_eq_true, decide_eq_true_eq] at hl
        exact op_pow pins s σ H _ _ v u Q I rx ry ⟨_, _, rfl, rfl, ⟨hl.1.1, hl.1.2, hl.2⟩, q.int⟩
      · cases hd
    · cases hd
/-! comparisons -/
mutual
theorem Rl.dp {C : Kc} {H : Hp} {os W : List Addr} : ∀ {v : V} {d : D} {f : List Addr}, Rl C (cut H os) H W v d f → (py d).canLay0 = true → (∀ m l, d ≠ .dk m l) → Dp C.K H v (py d)
  | _, _, _, .non, _, _ => .non
  | _, _, _, .bl _, _, _ => .bl _
  | _, _, _, .int _, _, _ => .int _
  | _, _, _, .str _, _, _ => .str _
  | _, _, _, .tup t l, n, _ => .tup (sqT_cut t) (RlL.dp l (by simpa [py, PyData.canLay0] using n))
  | _, _, _, .lstK t l, n, _ => .lst (sqL_cut t) (RlL.dp l (by simpa [py, PyData.canLay0] using n))
  | _, _, _, .lstS t l, n, _ => .lst (SqL.of (cut_some t).1) (RlL.dp l (by simpa [py, PyData.canLay0] using n))
  | _, _, _, .lstB w t l, n, _ => .lst (SqL.of t) (RlL.dp l (by simpa [py, PyData.canLay0] using n))
  | _, _, _, .lstO t l, n, _ => .lst (SqL.of t) (RlL.dp l (by simpa [py, PyData.canLay0] using n))
  | _, _, _, .dkS t l, n, _ => by simp [py, PyData.canLay0] at n
  | _, _, _, .dkB w t l, n, _ => by simp [py, PyData.canLay0] at n
  | _, _, _, .dkO t l, n, _ => by simp [py, PyData.canLay0] at n
  | _, _, _, .dtS t l, n, _ => by simp [py, PyData.canLay0] at n
  | _, _, _, .dtB w t l, n, _ => by simp [py, PyData.canLay0] at n
  | _, _, _, .dtO t l, n, _ => by simp [py, PyData.canLay0] at n
  | _, _, _, .insS t l, n, _ => by simp [py, PyData.canLay0] at n
  | _, _, _, .insB w t l, n, _ => by simp [py, PyData.canLay0] at n
  | _, _, _, .insO t l, n, _ => by simp [py, PyData.canLay0] at n
  | _, _, _, .insX _, n, _ => by simp [py, PyData.canLay0] at n
theorem RlL.dp {C : Kc} {H : Hp} {os W : List Addr} : ∀ {v : List V} {d : List D} {f : List Addr}, RlL C (cut H os) H W v d f → PyData.canLayAll0 (pyL d) = true → DpAll C.K H v (pyL d)
  | _, _, _, .nil, _ => .nil
  | _, _, _, .cons h l, n => by
    simp only [pyL, PyData.canLayAll0, Bool.and_eq_true] at n
    exact .cons (Rl.dp h n.1 (fun m l e => by rw [e] at n; simp [py, PyData.canLay0] at n)) (RlL.dp l n.2)
end
theorem Rl.dpP {C : Kc} {H : Hp} {os W : List Addr} {v : V} {d : D} {f : List Addr} (r : Rl C (cut H os) H W v d f) (h : plain d = true) : Dp C.K H v (py d) := by
  have n := SeqAt.canLay_of_shaped h
  exact r.dp n fun m l e => by rw [e] at n; simp [py, PyData.canLay0] at n
def rC (C : Kc) (o : CmpOp) : R2 := fun x y H Q => ∃ os W d1 d2 f1 f2 b, Rl C (cut H os) H W x d1 f1 ∧ Rl C (cut H os) H W y d2 f2 ∧ cmpD o d1 d2 = .ok b ∧ Q (.bl b) H
theorem eqD_ok {a b : D} {k : Bool} (h : eqD a b = .ok k) : plain a = true ∧ plain b = true ∧ k = deq a b := by
  unfold eqD at h
  split at h
  · rename_i hp
    simp only [Bool.and_eq_true] at hp
    cases h
    exact ⟨hp.1, hp.2, rfl⟩
  · cases h
theorem cmpI_ok {p : Int → Int → Bool} {a b : D} {k : Bool} (h : cmpI p a b = .ok k) : ∃ i j, a = .int i ∧ b = .int j ∧ k = p i j := by
  unfold cmpI at h
  split at h
  · cases h
    exact ⟨_, _, rfl, rfl, rfl⟩
  · cases h
theorem isD_ok {a b : D} {k : Bool} (h : isD a b = .ok k) : b = .non ∧ k = isNon a := by
  unfold isD at h
  split at h
  · cases h
    exact ⟨rfl, rfl⟩
  · cases h
theorem Rl.isN {C : Kc} {B H : Hp} {W : List Addr} {v : V} {d : D} {f : List Addr} (h : Rl C B H W v d f) : isNon d = decide (v = .non) := by
  cases h <;> rfl
theorem Rl.flat {C : Kc} {B H : Hp} {W : List Addr} {v : V} {d : D} {f : List Addr} (r : Rl C B H W v d f) (h : flatD d = true) : flatV v = true := by
  cases r <;> first | rfl | (cases h; done)
theorem Rl.eqv {C : Kc} {B H : Hp} {W : List Addr} {v w : V} {d e : D} {f g : List Addr} (r : Rl C B H W v d f) (s : Rl C B H W w e g) (h : flatD d = true) (k : flatD e = true) : eqV v w = deq d e := by
  cases r <;> first | (cases h; done) | skip
  all_goals cases s <;> first | rfl | (cases k; done)
theorem RlL.flats {C : Kc} {B H : Hp} {W : List Addr} {v : V} {d : D} {f : List Addr} (r : Rl C B H W v d f) (h : flatD d = true) : ∀ {vs : List V} {ds : List D} {g : List Addr}, RlL C B H W vs ds g → ds.all flatD = true → vs.all flatV = true ∧ inV v vs = ds.any fun z => deq z d
  | _, _, _, .nil, _ => ⟨rfl, rfl⟩
  | _, _, _, .cons (v := v1) (d := d1) (vs := vs) (ds := ds) r1 l, k => by
    simp only [List.all_cons, Bool.and_eq_true] at k
    obtain ⟨h1, h2⟩ := RlL.flats r h l k.2
    refine ⟨by simp only [List.all_cons, Bool.and_eq_true]; exact ⟨r1.flat k.1, h1⟩, ?_⟩
    show (eqV v1 v || vs.any fun y => eqV y v) = (deq d1 d || ds.any fun z => deq z d)
    rw [r1.eqv r k.1 h]
    exact congrArg _ h2
theorem pyL_any (d : D) : ∀ l : List D, ((pyL l).any fun z => PyData.eqv z (py d)) = l.any fun z => deq z d
  | [] => rfl
  | x :: l => by
    show (PyData.eqv (py x) (py d) || (pyL l).any fun z => PyData.eqv z (py d)) = (deq x d || l.any fun z => deq z d)
    rw [pyL_any d l]
    rfl
/-- x in y: two roads -/
theorem inD_ok {C : Kc} {H : Hp} {os W : List Addr} {x y : V} {d1 d2 : D} {f1 f2 : List Addr} {b : Bool} (r1 : Rl C (cut H os) H W x d1 f1) (r2 : Rl C (cut H os) H W y d2 f2) (h : inD d1 d2 = .ok b) :
    (∃ p xs, y = .ref p ∧ (SqL C.K H p xs ∨ SqT C.K H p xs) ∧ flatV x = true ∧ xs.all flatV = true ∧ inV x xs = b) ∨ (∃ d ds, Dp C.K H x d ∧ Dp C.K H y (.list ds) ∧ SeqAt.shaped d = true ∧ SeqAt.shaped (.list ds) = true ∧ (ds.any fun z => PyData.eqv z d) = b) := by
  have go : ∀ {l : List D} {vs : List V} {g : List Addr}, RlL C (cut H os) H W vs l g → (flatD d1 && l.all flatD) = true → flatV x = true ∧ vs.all flatV = true ∧ inV x vs = l.any fun z => deq z d1 := fun ll k => by
    simp only [Bool.and_eq_true] at k
    obtain ⟨h1, h2⟩ := RlL.flats r1 k.1 ll k.2
    exact ⟨r1.flat k.1, h1, h2⟩
  unfold inD at h
  split at h <;> first | (cases h; done) | skip
  · rename_i m l
    split at h <;> first | (cases h; done) | skip
    rename_i hc
    cases h
    unfold inOk at hc
    rcases Bool.or_eq_true_iff.mp hc with k | k
    · obtain ⟨a, vs, g, rfl, hS, _, ll, _⟩ := r2.lst_inv
      obtain ⟨q1, q2, q3⟩ := go ll k
      exact .inl ⟨a, vs, rfl, .inl hS, q1, q2, q3⟩
    · simp only [Bool.and_eq_true] at k
      exact .inr ⟨py d1, pyL l, r1.dpP k.1.2, r2.dpP k.2, k.1.2, k.2, pyL_any d1 l⟩
  · rename_i l
    split at h <;> first | (cases h; done) | skip
    rename_i hc
    cases h
    unfold inOk at hc
    rcases Bool.or_eq_true_iff.mp hc with k | k
    · obtain ⟨a, vs, rfl, hS, _, ll⟩ := r2.tup_inv
      obtain ⟨q1, q2, q3⟩ := go ll k
      exact .inl ⟨a, vs, rfl, .inr hS, q1, q2, q3⟩
    · simp [isL] at k
theorem op_cmp {X : Cx} {C : Kc} (hK : X.K = C.K) (hu1 : X.A.units + 65 < cLine) {o : CmpOp} : OpR X (compareOp o) (rC C o) := by
  have hu : X.A.units + 64 < cLine := by omega
  intro pins s σ H x y v u Q I rx ry h
  obtain ⟨os, W, d1, d2, f1, f2, b, r1, r2, hd, q⟩ := h
  have hIn : o = .Eq ∨ o = .NotEq ∨ o = .Lt ∨ o = .LtE ∨ o = .Gt ∨ o = .GtE ∨ o = .Is ∨ o = .IsNot ∨ o = .In ∨ o = .NotIn := by cases o <;> simp
  rcases hIn with rfl | rfl | rfl | rfl | rfl | rfl | rfl | rfl | rfl | rfl
  · obtain ⟨p1, p2, rfl⟩ := eqD_ok (show eqD d1 d2 = .ok b from hd)
    exact op_eqD hu pins s σ H _ _ v u Q I rx ry ⟨py d1, py d2, by rw [hK]; exact r1.dpP p1, by rw [hK]; exact r2.dpP p2, p1, p2, q⟩
  · change notR (eqD d1 d2) = Res.ok b at hd
    cases e : eqD d1 d2 with
    | ok k =>
      rw [e] at hd
      obtain ⟨p1, p2, rfl⟩ := eqD_ok e
      cases hd
      exact op_neD hu pins s σ H _ _ v u Q I rx ry ⟨py d1, py d2, by rw [hK]; exact r1.dpP p1, by rw [hK]; exact r2.dpP p2, p1, p2, q⟩
    | exc z => rw [e] at hd; cases hd
    | bad => rw [e] at hd; cases hd
  · obtain ⟨i, j, e1, e2, e3⟩ := cmpI_ok hd
    subst e1 e2 e3
    obtain ⟨rfl, _⟩ := r1.int_inv; obtain ⟨rfl, _⟩ := r2.int_inv; exact op_lt pins s σ H _ _ v u Q I rx ry ⟨_, _, rfl, rfl, q⟩
  · obtain ⟨i, j, e1, e2, e3⟩ := cmpI_ok hd
    subst e1 e2 e3
    obtain ⟨rfl, _⟩ := r1.int_inv; obtain ⟨rfl, _⟩ := r2.int_inv; exact op_le pins s σ H _ _ v u Q I rx ry ⟨_, _, rfl, rfl, q⟩
  · obtain ⟨i, j, e1, e2, e3⟩ := cmpI_ok hd
    subst e1 e2 e3
    obtain ⟨rfl, _⟩ := r1.int_inv; obtain ⟨rfl, _⟩ := r2.int_inv; exact op_gt pins s σ H _ _ v u Q I rx ry ⟨_, _, rfl, rfl, q⟩
  · obtain ⟨i, j, e1, e2, e3⟩ := cmpI_ok hd
    subst e1 e2 e3
    obtain ⟨rfl, _⟩ := r1.int_inv; obtain ⟨rfl, _⟩ := r2.int_inv; exact op_ge pins s σ H _ _ v u Q I rx ry ⟨_, _, rfl, rfl, q⟩
  · obtain ⟨e2, e3⟩ := isD_ok hd
    subst e2 e3
    obtain ⟨rfl, _⟩ := r2.non_inv
    exact op_isN pins s σ H _ _ v u Q I rx ry ⟨rfl, by rw [← r1.isN]; exact q⟩
  · change notR (isD d1 d2) = Res.ok b at hd
    cases e : isD d1 d2 with
    | ok k =>
      rw [e] at hd
      obtain ⟨e2, e3⟩ := isD_ok e
      subst e2 e3
      cases hd
      obtain ⟨rfl, _⟩ := r2.non_inv
      exact op_notN pins s σ H _ _ v u Q I rx ry ⟨rfl, by rw [← r1.isN]; exact q⟩
    | exc z => rw [e] at hd; cases hd
    | bad => rw [e] at hd; cases hd
  · rcases inD_ok r1 r2 hd with ⟨p, xs, rfl, z1, z2, z3, rfl⟩ | ⟨d, ds, z1, z2, z3, z4, rfl⟩
    · exact op_in_seq pins s σ H _ _ v u Q I rx ry ⟨p, xs, rfl, by rw [hK]; exact z1, z2, z3, q⟩
    · exact op_inD hu1 pins s σ H _ _ v u Q I rx ry ⟨d, ds, by rw [hK]; exact z1, by rw [hK]; exact z2, z3, z4, q⟩
  · change notR (inD d1 d2) = Res.ok b at hd
    cases e : inD d1 d2 with
    | ok k =>
      rw [e] at hd
      cases hd
      rcases inD_ok r1 r2 e with ⟨p, xs, rfl, z1, z2, z3, rfl⟩ | ⟨d, ds, z1, z2, z3, z4, rfl⟩
      · exact op_notIn_seq pins s σ H _ _ v u Q I rx ry ⟨p, xs, rfl, by rw [hK]; exact z1, z2, z3, q⟩
      · exact op_notInD hu1 pins s σ H _ _ v u Q I rx ry ⟨d, ds, by rw [hK]; exact z1, by rw [hK]; exact z2, z3, z4, q⟩
    | exc z => rw [e] at hd; cases hd
    | bad => rw [e] at hd; cases hd
end Pv
/-! Pv4: built-ins, places, slices by their rules; the text against the language. -/
namespace Pv
open PySem L2 PySem.Spec

theorem intsOf_map : ∀ {ds : List D} {ns : List Int}, intsOf ds = some ns → ds = ns.map .int
  | [], ns, h => by cases h; rfl
  | d :: r, ns, h => by
    cases d with
    | int i =>
      unfold intsOf at h
      cases e : intsOf r with
      | none => rw [e] at h; cases h
      | some l =>
        rw [e] at h
        cases h
        rw [intsOf_map e]; rfl
    | _ => cases h
theorem RlL.ints {C : Kc} {B H : Hp} {W : List Addr} : ∀ {vs : List V} {ns : List Int} {f : List Addr}, RlL C B H W vs (ns.map .int) f → vs = ns.map V.int
  | [], [], _, _ => rfl
  | v :: vs, n :: ns, _, h => by
    cases h with
    | cons r l =>
      obtain ⟨rfl, _⟩ := r.int_inv
      rw [RlL.ints l]; rfl
  | [], n :: ns, _, h => by cases h
  | v :: vs, [], _, h => by cases h
theorem sortInt_eq {a b : List Int} (h : a.Perm b) (s : a.Pairwise (· ≤ ·)) : a = sortInt b := by
  refine List.Perm.eq_of_pairwise (le := (· ≤ ·)) (fun x y _ _ h1 h2 => Int.le_antisymm h1 h2) s ?_ (h.trans (List.mergeSort_perm b _).symm)
  have := List.pairwise_mergeSort (le := fun a b : Int => decide (a ≤ b)) (fun a b c h1 h2 => by simp only [decide_eq_true_eq] at *; omega) (fun a b => by simp only [Bool.or_eq_true, decide_eq_true_eq]; omega) b
  exact this.imp fun h => of_decide_eq_true h
theorem RlL.ofInts {C : Kc} {B H : Hp} {W : List Addr} : ∀ ns : List Int, RlL C B H W (ns.map V.int) (ns.map .int) []
  | [] => .nil
  | n :: ns => .cons (fp := []) (fq := []) (.int n) (RlL.ofInts ns)
theorem mpL_ints (f : Md → Md) (ns : List Int) : mpL f (ns.map .int) = ns.map .int := by
  rw [mpL_eq, List.map_map]
  rfl
theorem RlL.one {C : Kc} {B H : Hp} {W : List Addr} {vs : List V} {d : D} {f : List Addr} (h : RlL C B H W vs [d] f) : ∃ v g, vs = [v] ∧ Rl C B H W v d g ∧ ∀ a ∈ g, a ∈ f := by
  cases h with
  | cons r l =>
    cases l
    exact ⟨_, _, rfl, r, fun a ha => List.mem_append_left _ ha⟩
theorem RlL.two {C : Kc} {B H : Hp} {W : List Addr} {vs : List V} {d e : D} {f : List Addr} (h : RlL C B H W vs [d, e] f) : ∃ v u g g', vs = [v, u] ∧ Rl C B H W v d g ∧ Rl C B H W u e g' ∧ (∀ a ∈ g, a ∈ f) ∧ ∀ a ∈ g', a ∈ f := by
  cases h with
  | cons r l =>
    obtain ⟨u, g', rfl, r2, hg⟩ := l.one
    exact ⟨_, _, _, _, rfl, r, r2, fun a ha => List.mem_append_left _ ha, fun a ha => List.mem_append_right _ (hg a ha)⟩

/-! ### built-ins -/
def rBl (C : Kc) (f : Blt) : List V → Hp → VK → Prop := fun vs H Q => ∃ os os' W ds fs d, RlL C (cut H os) H W vs ds fs ∧ (∀ a ∈ os', a ∈ os) ∧ (∀ a ∈ fs, a ∉ os') ∧ bltD f ds = .ok d ∧ VR C os' W H d Q
def bltV : Blt → Value
  | .len => .builtin "len" | .abs => .builtin "abs" | .sum => .builtin "sum" | .sorted => .builtin "sorted" | .list => .type "list" | .int => .type "int" | .str => .type "str" | .max2 => .builtin "max" | .min2 => .builtin "min"
section
variable {X : Cx} {C : Kc}
theorem call_blt (hK : X.K = C.K) (hc : X.calm = true) (f : Blt) : CallR X (bltV f) (rBl C f) := by
  intro pins s σ H vs us Q I r h
  obtain ⟨os, os', W, ds, fs, d, rl, hs, hf, hd, q⟩ := h
  cases f with
  | len =>
    unfold bltD at hd
    split at hd <;> first | cases hd | skip
    all_goals first | contradiction | skip
    · obtain ⟨v, g, rfl, r1, _⟩ := rl.one
      obtain ⟨a, ws, _, rfl, hl, _, l, _⟩ := r1.lst_inv
      exact call_len pins s σ H _ us Q I r ⟨_, ws.length, rfl, .inl ⟨ws, by rw [hK]; exact hl, rfl⟩, by rw [l.len]; exact q.int⟩
    · obtain ⟨v, g, rfl, r1, _⟩ := rl.one
      obtain ⟨a, ws, rfl, hl, _, l⟩ := r1.tup_inv
      exact call_len pins s σ H _ us Q I r ⟨_, ws.length, rfl, .inr ⟨ws, by rw [hK]; exact hl, rfl⟩, by rw [l.len]; exact q.int⟩
    · split at hd
      · rename_i hl
        cases hd
        obtain ⟨v, g, rfl, r1, _⟩ := rl.one
        obtain ⟨rfl, _⟩ := r1.str_inv
        exact call_len pins s σ H _ us Q I r ⟨_, _, rfl, ⟨line_le hl, rfl⟩, q.int⟩
      · cases hd
  | abs =>
    unfold bltD at hd
    split at hd <;> first | cases hd | skip
    all_goals first | contradiction | skip
    obtain ⟨v, g, rfl, r1, _⟩ := rl.one
    obtain ⟨rfl, _⟩ := r1.int_inv
    exact call_abs pins s σ H _ us Q I r ⟨_, rfl, q.int⟩
  | sum =>
    unfold bltD at hd
    split at hd <;> first | cases hd | skip
    all_goals first | contradiction | skip
    split at hd <;> first | cases hd | skip
    rename_i ns hns
    obtain ⟨v, g, rfl, r1, _⟩ := rl.one
    obtain ⟨a, ws, _, rfl, hl, _, l, _⟩ := r1.lst_inv
    have e := intsOf_map hns
    subst e
    rw [l.ints] at hl
    exact cr_sum hc pins s σ H _ us Q I r ⟨a, ns, rfl, by rw [hK]; exact hl, q.int⟩
  | sorted =>
    unfold bltD at hd
    split at hd <;> first | cases hd | skip
    all_goals first | contradiction | skip
    split at hd <;> first | cases hd | skip
    rename_i ns hns
    obtain ⟨v, g, rfl, r1, _⟩ := rl.one
    obtain ⟨a, ws, _, rfl, hl, _, l, _⟩ := r1.lst_inv
    have e := intsOf_map hns
    subst e
    rw [l.ints] at hl
    refine cr_sortedI pins s σ H _ us Q I r ⟨a, ns, rfl, by rw [hK]; exact hl, fun ns' p hp hw hn => ?_⟩
    rw [sortInt_eq hp hw]
    refine VR.newL (ds := (sortInt ns).map .int) (g := []) (by rw [mpL_ints]; exact q) (RlL.ofInts _) hs (fun _ z => nomatch z) hn
  | list =>
    unfold bltD at hd
    split at hd <;> first | cases hd | skip
    all_goals first | contradiction | skip
    · obtain ⟨v, g, rfl, r1, hg⟩ := rl.one
      obtain ⟨a, ws, g1, rfl, hl, _, l, hg1⟩ := r1.lst_inv
      exact call_list_of pins s σ H _ us Q I r ⟨a, ws, rfl, .inl (by rw [hK]; exact hl), fun p hp => VR.newL q l hs (fun b hb => hf b (hg b (hg1 b hb))) hp⟩
    · obtain ⟨v, g, rfl, r1, hg⟩ := rl.one
      obtain ⟨a, ws, rfl, hl, _, l⟩ := r1.tup_inv
      exact call_list_of pins s σ H _ us Q I r ⟨a, ws, rfl, .inr (by rw [hK]; exact hl), fun p hp => VR.newL q l hs (fun b hb => hf b (hg b hb)) hp⟩
  | int =>
    unfold bltD at hd
    split at hd <;> first | cases hd | skip
    all_goals first | contradiction | skip
    · obtain ⟨v, g, rfl, r1, _⟩ := rl.one
      obtain ⟨rfl, _⟩ := r1.int_inv
      exact call_int1 pins s σ H _ us Q I r (.inl ⟨_, rfl, q.int⟩)
    · obtain ⟨v, g, rfl, r1, _⟩ := rl.one
      obtain ⟨rfl, _⟩ := r1.bl_inv
      exact call_int1 pins s σ H _ us Q I r (.inr ⟨_, rfl, q.int⟩)
  | str =>
    unfold bltD at hd
    split at hd <;> first | contradiction | cases hd
  | max2 =>
    unfold bltD at hd
    split at hd <;> first | cases hd | skip
    all_goals first | contradiction | skip
    obtain ⟨v, u, g, g', rfl, r1, r2, _⟩ := rl.two
    obtain ⟨rfl, _⟩ := r1.int_inv
    obtain ⟨rfl, _⟩ := r2.int_inv
    exact call_max2 hc pins s σ H _ us Q I r ⟨_, _, rfl, q.int⟩
  | min2 =>
    unfold bltD at hd
    split at hd <;> first | cases hd | skip
    all_goals first | contradiction | skip
    obtain ⟨v, u, g, g', rfl, r1, r2, _⟩ := rl.two
    obtain ⟨rfl, _⟩ := r1.int_inv
    obtain ⟨rfl, _⟩ := r2.int_inv
    exact call_min2 hc pins s σ H _ us Q I r ⟨_, _, rfl, q.int⟩
/-! isinstance -/
theorem kit_all {K : Frag} {a t : String} (ha : a ∈ ["NoneType", "bool", "int", "str", "tuple", "list", "dict"]) (ht : t ∈ tysOk) : PySem.W.kitOne K (.type a) (.type t) = some (isiS a t) := by
  simp only [List.mem_cons, List.not_mem_nil, or_false] at ha
  simp only [tysOk, List.mem_cons, List.not_mem_nil, or_false] at ht
  rcases ha with rfl | rfl | rfl | rfl | rfl | rfl | rfl <;> rcases ht with rfl | rfl | rfl | rfl | rfl | rfl <;> rfl
def rIs (C : Kc) (t : String) : List V → Hp → VK → Prop := fun vs H Q => ∃ os W d x f b, vs = [x, .ty t] ∧ Rl C (cut H os) H W x d f ∧ isiD d t = .ok b ∧ Q (.bl b) H
theorem Rl.tyOf {H : Hp} {os W : List Addr} {x : V} {d : D} {f : List Addr} {t : String} {b : Bool} (r : Rl C (cut H os) H W x d f) (h : isiD d t = .ok b) : TyOf C.K H x (.type (tyD d)) ∨ (∃ xs, d = .tup xs) := by
  cases r with
  | non => exact .inl .non
  | bl b => exact .inl (.bl b)
  | int b => exact .inl (.int b)
  | str b => exact .inl (.str b)
  | tup _ _ => exact .inr ⟨_, rfl⟩
  | lstK _ _ => cases h
  | lstS t _ => exact .inl (.lst (cut_some t).1)
  | lstB _ t _ => exact .inl (.lst t)
  | lstO t _ => exact .inl (.lst t)
  | dkS t _ => exact .inl (.dK (cut_some t).1)
  | dkB _ t _ => exact .inl (.dK t)
  | dkO t _ => exact .inl (.dK t)
  | dtS t _ => exact .inl (.dT (cut_some t).1)
  | dtB _ t _ => exact .inl (.dT t)
  | dtO t _ => exact .inl (.dT t)
  | insS _ _ => cases h
  | insB _ _ _ => cases h
  | insO _ _ => cases h
  | insX _ => cases h
theorem isiD_ok {d : D} {t : String} {b : Bool} (h : isiD d t = .ok b) : t ∈ tysOk ∧ tyD d ∈ ["NoneType", "bool", "int", "str", "tuple", "list", "dict"] ∧ b = isiS (tyD d) t := by
  unfold isiD at h
  split at h
  · cases h
  · cases h
  · rename_i hn1 hn2
    split at h
    · rename_i ht
      cases h
      refine ⟨by simpa using ht, ?_, rfl⟩
      cases d with
      | ins m c l => exact absurd rfl (hn1 m c l)
      | _ => simp [tyD]
    · cases h
theorem call_isD (hK : X.K = C.K) (t : String) : CallR X (.builtin "isinstance") (rIs C t) := by
  intro pins s σ H vs us Q I r h
  obtain ⟨os, W, d, x, f, b, rfl, r1, hd, q⟩ := h
  obtain ⟨h1, h2, rfl⟩ := isiD_ok hd
  have k := kit_all (K := X.K) h2 h1
  rcases r1.tyOf hd with z | ⟨xs, rfl⟩
  · exact call_isi pins s σ H _ us Q I r ⟨x, .ty t, _, _, _, rfl, .ty t, .base (by rw [hK]; exact z), k, q⟩
  · obtain ⟨a, ws, rfl, hl, _, l⟩ := r1.tup_inv
    rcases hl with (hl | ⟨o, hl⟩) | ⟨o, its, n, hl, hc, _⟩
    · exact call_isi pins s σ H _ us Q I r ⟨_, .ty t, _, _, _, rfl, .ty t, .base (.tup hl), k, q⟩
    · exact call_isi pins s σ H _ us Q I r ⟨_, .ty t, _, _, _, rfl, .ty t, .fTuple hl, k, q⟩
    · exact call_isi pins s σ H _ us Q I r ⟨_, .ty t, _, _, _, rfl, .ty t, .kTuple (by rw [hK]; exact hl) hc, k, q⟩
/-! places, slices -/
def rIxD (C : Kc) : R2 := fun x y H Q => ∃ os os' W d1 d2 f1 f2 d, Rl C (cut H os) H W x d1 f1 ∧ Rl C (cut H os) H W y d2 f2 ∧ (∀ a ∈ os', a ∈ os) ∧ (∀ a ∈ f1, a ∉ os') ∧ ixD d1 d2 = .ok d ∧ VR C os' W H d Q
theorem atI_map {α β : Type} {xs : List α} {ys : List β} (h : xs.length = ys.length) {i : Int} {y : β} (e : atI ys i = some y) : ∃ j : Nat, ys[j]? = some y ∧ ∀ x, xs[j]? = some x → atI xs i = some x := by
  unfold atI at e ⊢
  rw [h]
  cases q : ixN ys.length i with
  | none => rw [q] at e; cases e
  | some j =>
    rw [q] at e
    exact ⟨j, e, fun x hx => hx⟩
theorem VR.fz {os os' W : List Addr} {H : Hp} {v : V} {d : D} {g : List Addr} {Q : VK} (q : VR C os' W H (fz d) Q) (r : Rl C (cut H os) H W v d g) (hs : ∀ a ∈ os', a ∈ os) (hg : ∀ a ∈ g, a ∉ os') : Q v H :=
  q v H [] (fun _ _ z => z) (r.froze (fun _ _ z => z) hs hg fun _ z => nomatch z) List.nodup_nil fun _ z => nomatch z
theorem ix_D (hK : X.K = C.K) : IxR X (rIxD C) := by
  intro value slice pins s σ H x y v u Q I rx ry h hp
  obtain ⟨os, os', W, d1, d2, f1, f2, d, r1, r2, hs, hf, hd, q⟩ := h
  unfold ixD at hd
  split at hd <;> first | (cases hd; done) | skip
  rotate_left 2
  · rename_i z i
    obtain ⟨rfl, _⟩ := r2.int_inv
    split at hd <;> first | (cases hd; done) | skip
    rename_i e
    split at hd <;> first | (cases hd; done) | skip
    rename_i ch hch
    cases hd
    obtain ⟨rfl, _⟩ := r1.str_inv
    exact ix_str value slice pins s σ H _ _ v u Q I rx ry ⟨_, i, ch, rfl, rfl, line_le e, hch, q.str⟩ hp
  all_goals
    rename_i l i
    split at hd <;> first | cases hd | skip
    rename_i e he
    obtain ⟨rfl, _⟩ := r2.int_inv
  · obtain ⟨a, ws, rfl, hl, _, l⟩ := r1.tup_inv
    obtain ⟨j, h1, h2⟩ := atI_map l.len he
    obtain ⟨w, g, hw, rw', hg⟩ := l.get h1
    exact ix_tup value slice pins s σ H _ _ v u Q I rx ry ⟨a, ws, i, w, rfl, rfl, by rw [hK]; exact hl, h2 w hw, VR.fz q rw' hs fun b hb => hf b (hg b hb)⟩ hp
  · obtain ⟨a, ws, g1, rfl, hl, _, l, hg1⟩ := r1.lst_inv
    obtain ⟨j, h1, h2⟩ := atI_map l.len he
    obtain ⟨w, g, hw, rw', hg⟩ := l.get h1
    exact ix_list value slice pins s σ H _ _ v u Q I rx ry ⟨a, ws, i, w, rfl, rfl, by rw [hK]; exact hl, h2 w hw, VR.fz q rw' hs fun b hb => hf b (hg1 b (hg b hb))⟩ hp
theorem cutD_fz (l : List D) (lo hi : Option Int) : mpL fzM (cutD l lo hi) = cutD (mpL fzM l) lo hi := by
  unfold cutD
  rw [mpL_eq, mpL_eq, List.map_take, List.map_drop, List.length_map]
theorem RlL.cutV {C : Kc} {B H : Hp} {W : List Addr} {vs : List V} {ds : List D} (h : RlL C B H W vs ds []) (lo hi : Option Int) : RlL C B H W (L2.cutV vs lo hi) (cutD ds lo hi) [] := by
  unfold L2.cutV cutD
  rw [h.len]
  exact RlL.take0 _ (RlL.drop0 _ h)
def rSlD (C : Kc) : V → Option Int → Option Int → Hp → VK → Prop := fun x lo hi H Q => ∃ os os' W d1 f1 d, Rl C (cut H os) H W x d1 f1 ∧ (∀ a ∈ os', a ∈ os) ∧ (∀ a ∈ f1, a ∉ os') ∧ slD d1 lo hi = .ok d ∧ VR C os' W H d Q
theorem sl_D (hK : X.K = C.K) : SlR X (rSlD C) := by
  intro pins s σ H x v vl vu lo hi sl Q I rx hS pl pu h
  obtain ⟨os, os', W, d1, f1, d, r1, hs, hf, hd, q⟩ := h
  unfold slD at hd
  split at hd <;> first | (cases hd; done) | skip
  rotate_left
  · split at hd <;> first | (cases hd; done) | skip
    rename_i e
    cases hd
    obtain ⟨rfl, _⟩ := r1.str_inv
    exact sl_str pins s σ H _ v vl vu lo hi sl Q I rx hS pl pu ⟨_, rfl, line_le e, q.str⟩
  cases hd
  obtain ⟨a, ws, g1, rfl, hl, _, l, hg1⟩ := r1.lst_inv
  refine sl_list pins s σ H _ v vl vu lo hi sl Q I rx hS pl pu ⟨a, ws, rfl, by rw [hK]; exact hl, fun p hp => ?_⟩
  -- the items, frozen, are cut
  rw [cutD_fz] at q
  have fr := l.froze (H' := upd H p (.lst (cutV ws lo hi))) (fq := [p]) (same_new hp) hs (fun b hb => hf b (hg1 b hb)) (fun b hb => by simp at hb; subst hb; exact hp)
  refine q (.ref p) _ [p] (same_new hp) (.lstO (fp := []) upd_same ?_) (by simp) fun b hb => by simp at hb; subst hb; exact hp
  exact fr.cutV lo hi
end
end Pv
/-! Pv5: the text of an expression against E, and that it is worth evE. -/
namespace Pv
open PySem L2 PySem.Spec

structure Gt where
  T : Tb
  fn : Nat → Str
  cn : Nat → Str
structure Gx extends Gt where
  P : Program
  w : World
  C : Kc
  mg : Str → Option Value
  base : Heap
instance : Coe Gx Gt := ⟨Gx.toGt⟩
/-- a def's promise -/
def spD (C : Kc) (F : Fm) : Sp := fun vs H Q E => ∃ O ds, RlL C (cut H O) H [] vs ds [] ∧ (∀ a ∈ O, ∃ o, H a = some o) ∧ ds.length = F.ar ∧
  match F.m ds with
  | .ok r => VR C O [] H r Q
  | .exc x => ∀ cls dx H', Same H H' → RlX C (cut H' O) cls dx x → E cls dx H'
  | .bad => False
def scV : D → V
  | .int i => .int i
  | .bl b => .bl b
  | .str s => .str s
  | _ => .non
def isSc : D → Bool
  | .int _ => true
  | .bl _ => true
  | .str _ => true
  | .non => true
  | _ => false
theorem Rl.ofSc {C : Kc} {B H : Hp} {W : List Addr} {d : D} (h : isSc d = true) : Rl C B H W (scV d) d [] := by
  cases d with
  | non => exact .non
  | int i => exact .int i
  | bl i => exact .bl i
  | str i => exact .str i
  | _ => cases h
theorem RlL.ofSc {C : Kc} {B H : Hp} {W : List Addr} : ∀ {ds : List D}, ds.all isSc = true → RlL C B H W (ds.map scV) ds []
  | [], _ => .nil
  | d :: r, h => by
    simp only [List.all_cons, Bool.and_eq_true] at h
    exact .cons (fp := []) (fq := []) (Rl.ofSc h.1) (RlL.ofSc h.2)
/-- the def named nm keeps the promise of F, at level k -/
structure FnI (G : Gx) (k : Nat) (F : Fm) (nm : Str) : Prop where
  ex : ∃ f fd ps, FnOk G.P G.w G.C.K G.mg G.base (L2N.CX G.P G.w) k f fd ps (spD G.C F) ∧ G.mg nm = some (.ref f) ∧ PySem.W.keepIn G.C.K (.ref f) = true ∧ ps.length = F.ar ∧
    (∀ n, n ≤ F.dfl.length → ∃ us, Binds G.C.K fd ps us ∧ Vals ((F.dfl.drop n).map scV) us) ∧ F.dfl.all isSc = true
abbrev FnIs (G : Gx) (k i : Nat) : Prop := FnI G k (G.T.f i) (G.fn i)
/-- the object of the exception at hand: class m, no namespace -/
def ExO (G : Gt) (cl : Nat → Addr) (m : Nat) (oe : Obj) : Prop := m ∈ G.T.xs ∧ L2N.Zn (.ref (cl m)) none oe ∧ ∃ vs, oe.data = .fields vs
/-- the def named nm keeps the promise of F within an except suite, whatever exception is at hand -/
structure FnIH (G : Gx) (k : Nat) (F : Fm) (nm : Str) : Prop where
  ex : ∃ f fd ps, (∀ (m : Nat) (a : Addr) (oe : Obj) (base : Heap), ExO G.toGt G.C.cl m oe → (∀ b o, G.base.get? b = some o → base.get? b = some o) → base.get? a = some oe →
      L2H.FnH G.P G.w G.C.K G.mg base (L2N.CX G.P G.w) k f fd ps (spD ⟨G.C.K, G.C.cl, some (m, a)⟩ (hotF F))) ∧ G.mg nm = some (.ref f) ∧ PySem.W.keepIn G.C.K (.ref f) = true ∧ ps.length = F.ar ∧
    (∀ n, n ≤ F.dfl.length → ∃ us, Binds G.C.K fd ps us ∧ Vals ((F.dfl.drop n).map scV) us) ∧ F.dfl.all isSc = true
abbrev FnIHs (G : Gx) (k i : Nat) : Prop := FnIH G k (G.T.f i) (G.fn i)
/-- the exception at hand in the context -/
structure HotG (G : Gx) (k : Nat) (X : Cx) (m : Nat) (a : Addr) (oe : Obj) : Prop where
  ex : G.C.ex = some (m, a)
  ob : ExO G.toGt G.C.cl m oe
  at_ : ∀ {pins σ H s}, Inv X pins σ H s → s.heap.get? a = some oe ∧ H a = none ∧ a ∉ frs X.stack
  hc : L2H.HotC X
  room : L2H.RoomH k X.A
def isxE : E → Bool
  | .isx _ _ => true
  | .isv _ => true
  | .isxs _ _ => true
  | _ => false
structure Cn where
  N : List Str
  fs : List Nat
  hot : Bool
  rs : List Nat
  hs : List Nat
def bltNames : List Str := ["len", "abs", "sum", "sorted", "list", "int", "str", "max", "min", "isinstance", "range", "bool", "tuple", "dict", "ValueError"]
/-! ### the text -/
def visB (sc : Scope) (x : Str) : Bool := match sc.names.lookup x with
  | some .local => true
  | some .cell => true
  | some .free => true
  | _ => false
def nmB (x : Str) : Bool := !(x == ("__debug__" : Str)) && !(x == ("__classdict__" : Str))
def glB (sc : Scope) (x : Str) : Bool := decide (sc.names.lookup x = some .globalImplicit) && !(x == ("__debug__" : Str)) && !(x == ("__name__" : Str))
def bltS : Blt → Str
  | .len => "len" | .abs => "abs" | .sum => "sum" | .sorted => "sorted" | .list => "list" | .int => "int" | .str => "str" | .max2 => "max" | .min2 => "min"
def binOk : Operator → Bool
  | .Add => true | .Sub => true | .Mult => true | .FloorDiv => true | .Mod => true | .Pow => true
  | _ => false
def cmpOk (_ : CmpOp) : Bool := true
/-- a tuple of own classes -/
def ckCs (G : Gt) (sc : Scope) : List Nat → List Expr → Bool
  | [], [] => true
  | n :: ns, .Name m _ :: ys => decide (n ∈ G.T.cs) && decide (m = G.cn n) && glB sc m && ckCs G sc ns ys
  | _, _ => false
mutual
def ckE (G : Gt) (c : Cn) : Scope → E → Expr → Bool
  | sc, .var i, .Name x _ => decide (c.N[i]? = some x) && visB sc x && nmB x
  | _, .int n, .Constant (.int m) _ _ => decide (n = m)
  | _, .str n, .Constant (.str m) _ _ => decide (n = m)
  | _, .bl n, .Constant (.bool m) _ _ => decide (n = m)
  | _, .non, .Constant .none _ _ => true
  | sc, .bin o a b, .BinOp x o' y _ => decide (o = o') && binOk o && ckE G c sc a x && ckE G c sc b y
  | sc, .neg a, .UnaryOp .USub x _ => ckE G c sc a x
  | sc, .cmp o a b, .Compare x [o'] [y] _ => decide (o = o') && cmpOk o && ckE G c sc a x && ckE G c sc b y
  | sc, .nt a, .UnaryOp .Not x _ => ckE G c sc a x
  | sc, .and es, .BoolOp .And (x :: xs) _ => ckL G c sc es (x :: xs)
  | sc, .or es, .BoolOp .Or (x :: xs) _ => ckL G c sc es (x :: xs)
  | sc, .ife t a b, .IfExp z x y _ => ckE G c sc t z && ckE G c sc a x && ckE G c sc b y
  | sc, .tup es, .Tuple xs _ _ => ckL G c sc es xs
  | sc, .lst es, .List xs _ => ckL G c sc es xs
  | sc, .ix a i, .Subscript x y _ => ckE G c sc a x && ckE G c sc i y
  | sc, .sl a lo hi, .Subscript x (.Slice l h none _) _ => ckE G c sc a x && ckO G c sc lo l && ckO G c sc hi h
  | sc, .call i es, .Call (.Name f _) (x :: xs) [] _ => !c.hot && decide (i ∈ c.fs) && decide (f = G.fn i) && glB sc f && ckL G c sc es (x :: xs)
  | sc, .blt f es, .Call (.Name n _) (x :: xs) [] _ => !c.hot && decide (n = bltS f) && glB sc n && ckL G c sc es (x :: xs)
  | sc, .isi a t, .Call (.Name n _) [x, .Name m _] [] _ => decide (n = ("isinstance" : Str)) && decide (m = Str.ofString t) && tysOk.contains t && glB sc n && glB sc m && ckE G c sc a x
  | sc, .lc j src t e, .ListComp elt [⟨.Name x _, iter, ifs, 0⟩] scope _ => !c.hot && ckE G c sc src iter && blkC c.N sc scope [(x, j)] && decide ((relS scope sc).names.lookup x = some .local) && ckL G c (relS scope sc) t ifs && decide (ifs.length ≤ 1) && ckE G c (relS scope sc) e elt
  | sc, .lcr j n t e, .ListComp elt [⟨.Name x _, .Call (.Name r _) [a] [] _, ifs, 0⟩] scope _ => !c.hot && decide (r = ("range" : Str)) && glB sc r && ckE G c sc n a && blkC c.N sc scope [(x, j)] && decide ((relS scope sc).names.lookup x = some .local) && ckL G c (relS scope sc) t ifs && decide (ifs.length ≤ 1) && ckE G c (relS scope sc) e elt
  | sc, .isx i n, .Call (.Name nm _) [.Name x _, .Name m _] [] _ => c.hot && decide (n ∈ G.T.cs) && decide (nm = ("isinstance" : Str)) && decide (c.N[i]? = some x) && decide (m = G.cn n) && glB sc nm && glB sc m && visB sc x && nmB x
  | sc, .isv i, .Call (.Name nm _) [.Name x _, .Name m _] [] _ => c.hot && decide (nm = ("isinstance" : Str)) && decide (c.N[i]? = some x) && decide (m = ("ValueError" : Str)) && glB sc nm && glB sc m && visB sc x && nmB x
  | sc, .isxs i ns, .Call (.Name nm _) [.Name x _, .Tuple ys _ _] [] _ => c.hot && lineOk ns.length && decide (nm = ("isinstance" : Str)) && decide (c.N[i]? = some x) && ckCs G sc ns ys && glB sc nm && visB sc x && nmB x
  | sc, .callH i es, .Call (.Name f _) (x :: xs) [] _ => c.hot && decide (i ∈ c.hs) && decide (f = G.fn i) && glB sc f && ckL G c sc es (x :: xs)
  | _, _, _ => false
def ckL (G : Gt) (c : Cn) : Scope → E → List Expr → Bool
  | _, .nil, [] => true
  | sc, .cons e es, x :: xs => ckE G c sc e x && ckL G c sc es xs
  | _, _, _ => false
def ckO (G : Gt) (c : Cn) : Scope → E → Option Expr → Bool
  | _, .nil, none => true
  | sc, .cons e .nil, some x => ckE G c sc e x
  | _, _, _ => false
end
def notSt : Expr → Bool
  | .Starred _ _ => false
  | _ => true
theorem ck_notSt {G : Gx} {c : Cn} {sc : Scope} {e : E} {x : Expr} (h : ckE G c sc e x = true) : notSt x = true := by
  cases x <;> first | rfl | (cases e <;> simp [ckE] at h)
theorem ck_nb {G : Gt} {c : Cn} {sc : Scope} {e : E} {x : Expr} {o : CmpOp} (h : ckE G c sc e x = true) : behindInMarks o x = false := by
  cases x <;> first | rfl | (cases e <;> simp [ckE] at h)
theorem star_cons {x : Expr} {es : List Expr} {env : PySem.Env} (h : notSt x = true) : starEach (x :: es) env = (false, eval x env) :: starEach es env := by
  cases x <;> first | rfl | cases h

def noSt (xs : List Expr) : Bool := xs.all notSt
theorem ckL_noSt {G : Gx} {c : Cn} {sc : Scope} : ∀ {e : E} {xs : List Expr}, ckL G c sc e xs = true → noSt xs = true
  | .nil, [], _ => rfl
  | .cons e es, x :: xs, h => by
    simp only [ckL, Bool.and_eq_true] at h
    simp only [noSt, List.all_cons, Bool.and_eq_true]
    exact ⟨ck_notSt h.1, ckL_noSt h.2⟩
theorem star_any {pos : Pos} {env : PySem.Env} : ∀ {xs : List Expr}, noSt xs = true → (backTo pos (starEach xs env)).any (·.1) = false
  | [], _ => rfl
  | x :: xs, h => by
    simp only [noSt, List.all_cons, Bool.and_eq_true] at h
    rw [star_cons h.1]
    show (false || (backTo pos (starEach xs env)).any (·.1)) = false
    rw [Bool.false_or]
    exact star_any h.2
/-! ### the readings -/
def tE (G : Gx) (Wx : WX) (e : E) : TE := fun σ H Q => ∃ env O fp, OkF G.C O env σ H fp ∧ WG G.C (fp ++ O) Wx σ H (evE G.T e env) fun d => VR G.C (fp ++ O) fp H d Q
def tL (G : Gx) (Wx : WX) (e : E) : TA := fun σ H Q => ∃ env O fp, OkF G.C O env σ H fp ∧ WG G.C (fp ++ O) Wx σ H (evL G.T e env) fun d => VRL G.C (fp ++ O) fp H d Q
def tO (G : Gx) (Wx : WX) (e : E) : TO := fun σ H Q => ∃ env O fp, OkF G.C O env σ H fp ∧ WG G.C (fp ++ O) Wx σ H (evL G.T e env >>= oneOpt) fun d => ∀ H', Same H H' → Q d H'
def tB1 (G : Gx) (Wx : WX) (f : Env → Res Bool) : TT := fun σ H Q => ∃ env O fp, OkF G.C O env σ H fp ∧ WG G.C (fp ++ O) Wx σ H (f env) fun d => ∀ H', Same H H' → Q d H'
def tBV (G : Gx) (Wx : WX) (f : Env → Res Bool) : TE := fun σ H Q => ∃ env O fp, OkF G.C O env σ H fp ∧ WG G.C (fp ++ O) Wx σ H (f env) fun d => ∀ H', Same H H' → Q (.bl d) H'
theorem PE.imp {X : Cx} {e : Expr} {t t' : TE} (h : PE X e t) (i : ∀ σ H Q, t' σ H Q → t σ H Q) : PE X e t' := ⟨fun pins s σ H Q I q => h.run pins s σ H Q I (i σ H Q q)⟩
theorem PT.imp {X : Cx} {e : Expr} {t t' : TT} (h : PT X e t) (i : ∀ σ H Q, t' σ H Q → t σ H Q) : PT X e t' := ⟨fun pins s σ H Q I q => h.run pins s σ H Q I (i σ H Q q)⟩
theorem PW.imp {X : Cx} {e : Expr} {t t' : TT} (h : PW X e t) (i : ∀ σ H Q, t' σ H Q → t σ H Q) : PW X e t' := ⟨fun wh pins s σ H Q I q => h.run wh pins s σ H Q I (i σ H Q q)⟩
theorem PA.imp {X : Cx} {e : List Expr} {t t' : TA} (h : PA X e t) (i : ∀ σ H Q, t' σ H Q → t σ H Q) : PA X e t' := ⟨fun p pins s σ H Q I q => h.run p pins s σ H Q I (i σ H Q q)⟩
theorem PO.imp {X : Cx} {e : Option Expr} {t t' : TO} (h : PO X e t) (i : ∀ σ H Q, t' σ H Q → t σ H Q) : PO X e t' := ⟨fun pins s σ H Q I q => h.run pins s σ H Q I (i σ H Q q)⟩
structure Good (G : Gx) (c : Cn) (k : Nat) (sc : Scope) (Wx : WX) (X : Cx) : Prop where
  hP : X.prog = G.P
  hw : X.w = G.w
  hK : X.K = G.C.K
  hmg : X.mg = G.mg
  hb : X.base = G.base
  hN : X.N = c.N
  nd : c.N.Nodup
  hsc : X.env.scope = sc
  calm : c.hot = false → X.calm = true
  room : c.hot = false → Room k X.A
  units : X.A.units + 65 < cLine
  tk : L2N.Takes X Wx
  po : PassesOwn (model X.prog X.w) X.A X.env X.xe
  blt : ∀ x ∈ bltNames, G.mg x = none
  fns : ∀ i ∈ c.fs, FnIs G k i
  fnh : ∀ i ∈ c.hs, FnIHs G k i
  hotg : c.hot = true → ∃ m a oe, HotG G k X m a oe
  isx : c.hot = true → ∀ e x, isxE e = true → ckE G c sc e x = true → PE X x (tE G Wx e)

/-- what an expression is worth: as a value, a test, items, a slice's part, the operands of and, or -/
structure Snd (G : Gx) (c : Cn) (k : Nat) (e : E) : Prop where
  E : ∀ {sc Wx X x}, Good G c k sc Wx X → ckE G c sc e x = true → PE X x (tE G Wx e)
  T : ∀ {sc Wx X x}, Good G c k sc Wx X → ckE G c sc e x = true → PT X x (tB1 G Wx (evT G.T e))
  L : ∀ {sc Wx X xs}, Good G c k sc Wx X → ckL G c sc e xs = true → PA X xs (tL G Wx e)
  O : ∀ {sc Wx X o}, Good G c k sc Wx X → ckO G c sc e o = true → PO X o (tO G Wx e)
  I : ∀ {sc Wx X xs}, Good G c k sc Wx X → ckL G c sc e xs = true → xs.length ≤ 1 → PTs X xs (tB1 G Wx (evC G.T e))
  A : ∀ {sc Wx X x xs pos}, Good G c k sc Wx X → ckL G c sc e (x :: xs) = true → PW X (.BoolOp .And (x :: xs) pos) (tB1 G Wx (evA G.T e))
  R : ∀ {sc Wx X x xs pos}, Good G c k sc Wx X → ckL G c sc e (x :: xs) = true → PW X (.BoolOp .Or (x :: xs) pos) (tB1 G Wx (evO G.T e))
  AV : ∀ {sc Wx X x xs pos}, Good G c k sc Wx X → ckL G c sc e (x :: xs) = true → PE X (.BoolOp .And (x :: xs) pos) (tBV G Wx (evAV G.T e))
  RV : ∀ {sc Wx X x xs pos}, Good G c k sc Wx X → ckL G c sc e (x :: xs) = true → PE X (.BoolOp .Or (x :: xs) pos) (tBV G Wx (evOV G.T e))
/-- a test that is worth nothing -/
theorem pt_bad {X : Cx} {G : Gx} {Wx : WX} {x : Expr} {f : Env → Res Bool} (h : ∀ env, f env = .bad) : PT X x (tB1 G Wx f) := ⟨fun _ _ _ _ _ _ ⟨env, O, fp, _, z⟩ => by
  rw [h env] at z
  exact z.elim⟩
theorem pe_bad {X : Cx} {G : Gx} {Wx : WX} {x : Expr} {e : E} (h : ∀ env, evE G.T e env = .bad) : PE X x (tE G Wx e) := ⟨fun _ _ _ _ _ _ ⟨env, O, fp, _, z⟩ => by
  rw [h env] at z
  exact z.elim⟩
section
variable {C : Kc} {O os os' fp fq : List Addr} {env : Env} {σ : St} {H H' : Hp}
/-- fresh addresses are none of those that are there -/
theorem OkF.nf (h : OkF C O env σ H fp) (hf : ∀ a ∈ fq, H a = none) : ∀ a ∈ fq, a ∉ fp ++ O := fun a ha z => by
  obtain ⟨o, e⟩ := h.osd a z
  rw [hf a ha] at e
  cases e
end
/-- an own call, with defaults, by a wish at the slots -/
def tCallD (sp : Sp) (dvs : List V) (E : St → XK) (t : TA) : TE := fun σ H Q => t σ H fun vs H1 => sp (vs ++ dvs) H1 Q (E σ)
theorem pe_callD {X : Cx} {CX : CXT} {k : Nat} {f : Addr} {fd : FuncData} {ps : List Str} {sp : Sp} {dvs : List V} {ds : List Value} {E : St → XK} {x : Str} {p pos : Pos} {e : Expr} {es : List Expr} {t : TA}
    (F : FnOk X.prog X.w X.K X.mg X.base CX k f fd ps sp) (hr : Room k X.A) (hg : Gl X x) (hm : X.mg x = some (.ref f)) (hk : PySem.W.keepIn X.K (.ref f) = true)
    (hb : Binds X.K fd ps ds) (hd : Vals dvs ds) (hx : ∀ σ, PassesAt CX X σ (E σ)) (ha : PA X (e :: es) t) (hdb : (x == ("__debug__" : Str)) = false) (he : noSt (e :: es) = true) :
    PE X (.Call (.Name x p) (e :: es) [] pos) (tCallD sp dvs E t) := by
  refine ⟨fun pins s σ H Q I h => ?_⟩
  refine wpAny_Call_Name_kw (ld_glob I hg hm ?_ hdb)
  have h1 := he
  simp only [noSt, List.all_cons, Bool.and_eq_true] at h1
  refine PySem.W.callWith_K (h₀ := X.base) I.ok.mod.kin hk ?_ (star_cons h1.1) (star_any h1.2)
  refine thn (ha.run pos pins s σ H _ I h) fun us s1 ⟨vs, H1, I1, r, q⟩ => ?_
  refine ⟨I1.kIn, ?_⟩
  have r2 : Vals (vs ++ dvs) (us ++ ds) := r.append hd
  have hl : (us ++ ds).length = ps.length := r2.length.symm.trans (F.len _ _ _ _ q)
  have run := F.run X.A X.stack s1 H1 ⟨us, []⟩ (us ++ ds) (vs ++ dvs) Q (E σ) hr I1.env0 (hb s1 us I1.kIn hl) r2 q
  refine wpAny_call (codeAny_mono run fun r s' hq => ?_)
  match r, hq with
  | .error e, hq => exact hx σ pins H1 s1 e s' I1 hq
  | .ok (.ret u), hq => exact I1.after hq
  | .ok .next, hq => exact False.elim hq
  | .ok .brk, hq => exact False.elim hq
  | .ok .cont, hq => exact False.elim hq
end Pv
/-! Pv6: an expression is worth evE. -/
namespace Pv
open PySem L2 PySem.Spec
section
variable {G : Gx} {c : Cn} {k : Nat}
theorem snd_plain {e : E} (hE : ∀ {sc Wx X x}, Good G c k sc Wx X → ckE G c sc e x = true → PE X x (tE G Wx e)) (hT : ∀ {sc Wx X x}, Good G c k sc Wx X → ckE G c sc e x = true → PT X x (tB1 G Wx (evT G.T e)))
    (nl : ∀ sc xs, ckL G c sc e xs = false) (no : ∀ sc o, ckO G c sc e o = false) : Snd G c k e where
  E := hE
  T := hT
  L := fun _ h => by rw [nl] at h; cases h
  O := fun _ h => by rw [no] at h; cases h
  I := fun _ h _ => by rw [nl] at h; cases h
  A := fun _ h => by rw [nl] at h; cases h
  R := fun _ h => by rw [nl] at h; cases h
  AV := fun _ h => by rw [nl] at h; cases h
  RV := fun _ h => by rw [nl] at h; cases h
theorem getE_ok {env : Env} {i : Nat} {d : D} (h : getE env i = .ok d) : env[i]? = some (some d) := by
  unfold getE at h
  split at h
  · cases h; assumption
  · cases h
theorem getE_ne {env : Env} {i : Nat} (x : Xc) : getE env i ≠ .exc x := by
  unfold getE
  split <;> intro h <;> cases h
theorem truthD_ok {d : D} {b : Bool} (h : truthD d = .ok b) : d = .bl b := by
  unfold truthD at h
  split at h
  · cases h; rfl
  · cases h
theorem truthD_ne {d : D} (x : Xc) : truthD d ≠ .exc x := by
  unfold truthD
  split <;> intro h <;> cases h
/-- a value that is a bool, as a test -/
theorem WG.truth {C : Kc} {os W : List Addr} {Wx : WX} {σ : L2.St} {H : Hp} {r : Res D} {Q : Bool → Hp → Prop} (h : WG C os Wx σ H (r >>= truthD) fun d => ∀ H', Same H H' → Q d H') :
    WG C os Wx σ H r fun d => VR C os W H d fun x H1 => ∃ c, x = .bl c ∧ Q c H1 := by
  refine h.bind (Same.refl H) (fun _ z => z) fun d hd q => ?_
  obtain ⟨b, hb, q⟩ := q.ok truthD_ne
  have e := truthD_ok hb
  subst e
  intro v H1 fq e1 r1 _ _
  obtain ⟨rfl, _⟩ := r1.bl_inv
  exact ⟨b, rfl, q H1 e1⟩
theorem visB_ok {sc : Scope} {x : Str} (h : visB sc x = true) : Vis sc x := by
  unfold visB at h
  unfold Vis
  split at h
  · exact .inl (by assumption)
  · exact .inr (.inl (by assumption))
  · exact .inr (.inr (by assumption))
  · cases h
theorem nmB_ok {x : Str} (h : nmB x = true) : (x == ("__debug__" : Str)) = false ∧ (x == ("__classdict__" : Str)) = false := by
  unfold nmB at h
  simp only [Bool.and_eq_true, Bool.not_eq_true'] at h
  exact h
theorem glB_ok {sc : Scope} {x : Str} (h : glB sc x = true) : sc.names.lookup x = some .globalImplicit ∧ (x == ("__debug__" : Str)) = false ∧ x ≠ "__name__" := by
  unfold glB at h
  simp only [Bool.and_eq_true, Bool.not_eq_true', decide_eq_true_eq] at h
  exact ⟨h.1.1, h.1.2, fun e => by rw [e] at h; simp at h⟩
theorem Good.gl {sc : Scope} {Wx : WX} {X : Cx} (g : Good G c k sc Wx X) {x : Str} (h : glB sc x = true) : Gl X x := by
  show X.env.scope.names.lookup x = _
  rw [g.hsc]
  exact (glB_ok h).1
theorem Good.mgN {sc : Scope} {Wx : WX} {X : Cx} (g : Good G c k sc Wx X) {x : Str} (h : x ∈ bltNames) : X.mg x = none := by
  rw [g.hmg]
  exact g.blt x h
theorem refl_nil {H : Hp} : ∀ b o, H b = some o → H b = some o := fun _ _ e => e
theorem pe_varD {sc : Scope} {Wx : WX} {X : Cx} {i : Nat} {n : Str} {pos : Pos} (g : Good G c k sc Wx X) (h : (decide (c.N[i]? = some n) && visB sc n && nmB n) = true) : PE X (.Name n pos) (tE G Wx (.var i)) := by
  simp only [Bool.and_eq_true, decide_eq_true_eq] at h
  obtain ⟨⟨h1, h2⟩, h3⟩ := h
  obtain ⟨h4, h5⟩ := nmB_ok h3
  refine PE.imp (pe_var (i := i) (by rw [g.hN]; exact h1) (by rw [g.hsc]; exact visB_ok h2) h4 h5) ?_
  rintro σ H Q ⟨env, O, fp, ok, hw⟩
  simp only [evE] at hw
  obtain ⟨d, hd, q⟩ := (hw.ret (Same.refl H) (fun _ z => z) (P' := fun d => VR G.C (fp ++ O) fp H (bo d) Q) fun a _ q => q).ok getE_ne
  obtain ⟨v, fq, hv, r, hq⟩ := ok.rel.get (getE_ok hd)
  exact ⟨v, hv, q v H [] refl_nil (r.bw r.nb hq) List.nodup_nil fun _ z => nomatch z⟩
theorem snd_var (i : Nat) : Snd G c k (.var i) := by
  refine snd_plain (fun {sc Wx X x} g h => ?_) (fun {sc Wx X x} g h => ?_) (fun _ xs => by cases xs <;> rfl) (fun _ o => by cases o <;> rfl)
  · cases x <;> first | (exact pe_varD g h) | (simp [ckE] at h)
  · cases x <;> first | (simp [ckE] at h; done) | skip
    refine PT.imp (pt_val (pe_varD g h)) ?_
    rintro σ H Q ⟨env, O, fp, ok, hw⟩
    refine ⟨env, O, fp, ok, ?_⟩
    simp only [evE, evT] at hw ⊢
    have hw' : WG G.C (fp ++ O) Wx σ H ((do return bo (← getE env i)) >>= truthD) fun d => ∀ H', Same H H' → Q d H' := by
      cases e : getE env i with
      | ok d =>
        rw [e] at hw
        cases d <;> exact hw
      | exc x => rw [e] at hw; exact hw
      | bad => rw [e] at hw; exact hw
    exact hw'.truth
theorem snd_const {e : E} {d : D} {v : V} (hv : ∀ env, evE G.T e env = .ok d) (hr : ∀ {B H : Hp} {W : List Addr}, Rl G.C B H W v d []) (hp : ∀ {sc X x}, ckE G c sc e x = true → PE X x (tC v)) (ht : ∀ env, evT G.T e env = .bad)
    (nl : ∀ sc xs, ckL G c sc e xs = false) (no : ∀ sc o, ckO G c sc e o = false) : Snd G c k e := by
  refine snd_plain (fun {sc Wx X x} g h => ?_) (fun {sc Wx X x} g h => pt_bad ht) nl no
  refine PE.imp (hp h) ?_
  rintro σ H Q ⟨env, O, fp, ok, hw⟩
  rw [hv env] at hw
  exact hw v H [] refl_nil hr List.nodup_nil fun _ z => nomatch z
theorem snd_int (n : Int) : Snd G c k (.int n) := snd_const (d := .int n) (v := .int n) (fun _ => by simp only [evE]) (.int n) (fun {sc X x} h => by
  cases x <;> first | (simp [ckE] at h; done) | skip
  rename_i v _ _
  cases v <;> first | (simp [ckE] at h; done) | skip
  simp only [ckE, decide_eq_true_eq] at h
  subst h
  exact pe_int) (fun _ => by simp only [evT]) (fun _ xs => by cases xs <;> rfl) (fun _ o => by cases o <;> rfl)
theorem snd_str (n : Str) : Snd G c k (.str n) := snd_const (d := .str n) (v := .str n) (fun _ => by simp only [evE]) (.str n) (fun {sc X x} h => by
  cases x <;> first | (simp [ckE] at h; done) | skip
  rename_i v _ _
  cases v <;> first | (simp [ckE] at h; done) | skip
  simp only [ckE, decide_eq_true_eq] at h
  subst h
  exact pe_str) (fun _ => by simp only [evT]) (fun _ xs => by cases xs <;> rfl) (fun _ o => by cases o <;> rfl)
theorem snd_non : Snd G c k .non := snd_const (d := .non) (v := .non) (fun _ => by simp only [evE]) .non (fun {sc X x} h => by
  cases x <;> first | (simp [ckE] at h; done) | skip
  rename_i v _ _
  cases v <;> first | (simp [ckE] at h; done) | skip
  exact pe_non) (fun _ => by simp only [evT]) (fun _ xs => by cases xs <;> rfl) (fun _ o => by cases o <;> rfl)
theorem pe_blD {sc : Scope} {Wx : WX} {X : Cx} {b m : Bool} {j : Nat} {pos : Pos} (h : decide (b = m) = true) : PE X (.Constant (.bool m) j pos) (tE G Wx (.bl b)) := by
  simp only [decide_eq_true_eq] at h
  subst h
  refine PE.imp pe_bl ?_
  rintro σ H Q ⟨env, O, fp, ok, hw⟩
  simp only [evE] at hw
  exact hw (.bl b) H [] refl_nil (.bl b) List.nodup_nil fun _ z => nomatch z
theorem snd_bl (b : Bool) : Snd G c k (.bl b) := by
  refine snd_plain (fun {sc Wx X x} g h => ?_) (fun {sc Wx X x} g h => ?_) (fun _ xs => by cases xs <;> rfl) (fun _ o => by cases o <;> rfl)
  · cases x <;> first | (simp [ckE] at h; done) | skip
    rename_i v _ _
    cases v <;> first | (simp [ckE] at h; done) | skip
    exact pe_blD (sc := sc) h
  · cases x <;> first | (simp [ckE] at h; done) | skip
    rename_i v _ _
    cases v <;> first | (simp [ckE] at h; done) | skip
    refine PT.imp (pt_val (pe_blD (G := G) (Wx := Wx) (sc := sc) h)) ?_
    rintro σ H Q ⟨env, O, fp, ok, hw⟩
    refine ⟨env, O, fp, ok, ?_⟩
    simp only [evE, evT] at hw ⊢
    intro v H1 fq e1 r1 _ _
    obtain ⟨rfl, _⟩ := r1.bl_inv
    exact ⟨b, rfl, hw H1 e1⟩
/-- two operands -/
theorem two {a b : E} {O fp : List Addr} {env : Env} {σ : L2.St} {H : Hp} {Wx : WX} {α : Type} {f : D → D → Res α} {P : α → Prop} {K : V → V → Hp → Prop} (ok : OkF G.C O env σ H fp)
    (hw : WG G.C (fp ++ O) Wx σ H (evE G.T a env >>= fun x => evE G.T b env >>= fun y => f x y) P)
    (kk : ∀ x y v u H2 f1 f2, Same H H2 → Rl G.C (cut H2 (f2 ++ (fp ++ (f1 ++ O)))) H2 fp v x f1 → Rl G.C (cut H2 (f2 ++ (fp ++ (f1 ++ O)))) H2 fp u y f2 → (∀ a ∈ f1 ++ f2, H a = none) → WG G.C (fp ++ O) Wx σ H (f x y) P → K v u H2) :
    tE G Wx a σ H fun v H1 => tE G Wx b σ H1 fun u H2 => K v u H2 := by
  refine ⟨env, O, fp, ok, hw.bind (Same.refl H) (fun _ z => z) fun x hx q => ?_⟩
  intro v H1 f1 e1 r1 n1 g1
  have hd : ∀ a ∈ f1, ∃ o, H1 a = some o := fun a ha => let ⟨o, e, _⟩ := r1.mutb a ha; ⟨o, e⟩
  refine ⟨env, f1 ++ O, fp, ok.wide e1 g1 hd, q.bind e1 (fun z hz => ?_) fun y hy q2 => ?_⟩
  · rcases List.mem_append.mp hz with hz | hz
    · exact List.mem_append_left _ hz
    · exact List.mem_append_right _ (List.mem_append_right _ hz)
  · intro u H2 f2 e2 r2 n2 g2
    refine kk x y v u H2 f1 f2 (e1.trans e2) (r1.mono (cutS e2 fun z hz => ?_) e2) r2 (fun z hz => ?_) q2
    · rcases List.mem_append.mp hz with hz | hz
      · exact .inr (g2 z hz)
      · rcases List.mem_append.mp hz with hz | hz
        · exact .inl (List.mem_append_right _ (List.mem_append_left _ hz))
        · rcases List.mem_append.mp hz with hz | hz
          · exact .inl (List.mem_append_left _ hz)
          · exact .inl (List.mem_append_right _ (List.mem_append_right _ hz))
    · rcases List.mem_append.mp hz with hz | hz
      · exact g1 z hz
      · exact fresh_b e1 (g2 z hz)
theorem sub4 {f1 f2 fp O : List Addr} : ∀ a ∈ fp ++ O, a ∈ f2 ++ (fp ++ (f1 ++ O)) := fun a ha => by
  rcases List.mem_append.mp ha with h | h
  · exact List.mem_append_right _ (List.mem_append_left _ h)
  · exact List.mem_append_right _ (List.mem_append_right _ (List.mem_append_right _ h))
theorem binD_ne (o : Operator) (a b : D) (x : Xc) : binD o a b ≠ .exc x := by
  intro h
  unfold binD at h
  split at h
  all_goals first
    | (unfold addD at h; split at h <;> first | (cases h; done) | (split at h <;> cases h))
    | (unfold subD at h; split at h <;> cases h)
    | (unfold mulD at h; split at h <;> first | (cases h; done) | (split at h <;> cases h))
    | (unfold fdivD at h; split at h <;> first | (cases h; done) | (split at h <;> cases h))
    | (unfold modD at h; split at h <;> first | (cases h; done) | (split at h <;> cases h))
    | (unfold powD at h; split at h <;> first | (cases h; done) | (split at h <;> cases h))
    | cases h
theorem binOk_ok {o : Operator} (h : binOk o = true) : o = .Add ∨ o = .Sub ∨ o = .Mult ∨ o = .FloorDiv ∨ o = .Mod ∨ o = .Pow := by
  cases o <;> first | (cases h; done) | simp
theorem snd_bin {o : Operator} {a b : E} (ha : Snd G c k a) (hb : Snd G c k b) : Snd G c k (.bin o a b) := by
  refine snd_plain (fun {sc Wx X x} g h => ?_) (fun {sc Wx X x} g h => pt_bad fun _ => by simp only [evT]) (fun _ xs => by cases xs <;> rfl) (fun _ o => by cases o <;> rfl)
  cases x <;> first | (simp [ckE] at h; done) | skip
  simp only [ckE, Bool.and_eq_true, decide_eq_true_eq] at h
  obtain ⟨⟨⟨rfl, h2⟩, h3⟩, h4⟩ := h
  refine PE.imp (pe_op (op_bin (C := G.C) (binOk_ok h2)) (ha.E g h3) (hb.E g h4)) ?_
  rintro σ H Q ⟨env, O, fp, ok, hw⟩
  simp only [evE] at hw
  refine two ok hw fun x y v u H2 f1 f2 e r1 r2 hf q => ?_
  obtain ⟨d, hd, q⟩ := q.ok (binD_ne _ _ _)
  exact ⟨_, fp ++ O, fp, x, y, f1, f2, d, r1, r2, sub4, ok.nf hf, hd, q.weak e fun _ z => z⟩
theorem cmpI_ne {p : Int → Int → Bool} {a b : D} (x : Xc) : cmpI p a b ≠ .exc x := by
  intro h; unfold cmpI at h; split at h <;> cases h
theorem eqD_ne {a b : D} (x : Xc) : eqD a b ≠ .exc x := by
  intro h; unfold eqD at h; split at h <;> cases h
theorem isD_ne {a b : D} (x : Xc) : isD a b ≠ .exc x := by
  intro h; unfold isD at h; split at h <;> cases h
theorem notR_ne {r : Res Bool} (hr : ∀ x, r ≠ .exc x) (x : Xc) : notR r ≠ .exc x := by
  cases r with
  | exc y => exact absurd rfl (hr y)
  | ok _ => intro h; cases h
  | bad => intro h; cases h
theorem inD_ne {a b : Pv.D} (x : Xc) : inD a b ≠ .exc x := by
  unfold inD
  split
  · split <;> intro h <;> cases h
  · split <;> intro h <;> cases h
  · intro h; cases h
theorem cmpD_ne (o : CmpOp) (a b : D) (x : Xc) : cmpD o a b ≠ .exc x := by
  cases o with
  | Eq => exact eqD_ne x
  | NotEq => exact notR_ne eqD_ne x
  | Lt => exact cmpI_ne x
  | LtE => exact cmpI_ne x
  | Gt => exact cmpI_ne x
  | GtE => exact cmpI_ne x
  | Is => exact isD_ne x
  | IsNot => exact notR_ne isD_ne x
  | In => exact inD_ne x
  | NotIn => exact notR_ne inD_ne x
theorem snd_cmp {o : CmpOp} {a b : E} (ha : Snd G c k a) (hb : Snd G c k b) : Snd G c k (.cmp o a b) := by
  have key : ∀ {Wx : WX} {σ : L2.St} {H : Hp} {Q : Bool → Hp → Prop} {env : Env} {O fp : List Addr}, OkF G.C O env σ H fp → WG G.C (fp ++ O) Wx σ H (evE G.T a env >>= fun x => evE G.T b env >>= fun y => cmpD o x y) (fun d => ∀ H', Same H H' → Q d H') →
      tE G Wx a σ H fun v H1 => tE G Wx b σ H1 fun u H2 => rC G.C o v u H2 fun x H3 => ∃ k, x = .bl k ∧ Q k H3 := fun ok hw => two ok hw fun x y v u H2 f1 f2 e r1 r2 hf q => by
    obtain ⟨d, hd, q⟩ := q.ok (cmpD_ne _ _ _)
    exact ⟨_, _, x, y, f1, f2, d, r1, r2, hd, d, rfl, q H2 e⟩
  refine snd_plain (fun {sc Wx X x} g h => ?_) (fun {sc Wx X x} g h => ?_) (fun _ xs => by cases xs <;> rfl) (fun _ o => by cases o <;> rfl)
  all_goals
    cases x <;> first | (simp [ckE] at h; done) | skip
    rename_i x1 ops ys pos
    match ops, ys, h with
    | [o'], [y], h => ?_
  · simp only [ckE, Bool.and_eq_true, decide_eq_true_eq] at h
    obtain ⟨⟨⟨rfl, h2⟩, h3⟩, h4⟩ := h
    refine PE.imp (pe_cmpR (op_cmp (C := G.C) g.hK g.units) (ha.E g h3) (hb.E g h4) (ck_nb h4)) ?_
    rintro σ H Q ⟨env, O, fp, ok, hw⟩
    simp only [evE] at hw
    refine two ok (f := fun x y => do return D.bl (← cmpD o x y)) hw fun x y v u H2 f1 f2 e r1 r2 hf q => ?_
    obtain ⟨d, hd, q⟩ := (q.ret (Same.refl _) (fun _ z => z) fun _ _ q => q).ok (cmpD_ne _ _ _)
    exact ⟨_, _, x, y, f1, f2, d, r1, r2, hd, (q.weak e fun _ z => z).bl⟩
  · simp only [ckE, Bool.and_eq_true, decide_eq_true_eq] at h
    obtain ⟨⟨⟨rfl, h2⟩, h3⟩, h4⟩ := h
    refine PT.imp (pt_cmpR (op_cmp (C := G.C) g.hK g.units) (ha.E g h3) (hb.E g h4) (ck_nb h4)) ?_
    rintro σ H Q ⟨env, O, fp, ok, hw⟩
    simp only [evT] at hw
    exact key ok hw
end
end Pv
/-! Pv7: an expression is worth evE, further. -/
namespace Pv
open PySem L2 PySem.Spec
section
variable {G : Gx} {c : Cn} {k : Nat}
theorem negD_ne {a : D} (x : Xc) : negD a ≠ .exc x := by
  intro h; unfold negD at h; split at h <;> cases h
/-- one operand -/
theorem one {a : E} {O fp : List Addr} {env : Env} {σ : L2.St} {H : Hp} {Wx : WX} {α : Type} {f : D → Res α} {P : α → Prop} {K : V → Hp → Prop} (ok : OkF G.C O env σ H fp)
    (hw : WG G.C (fp ++ O) Wx σ H (evE G.T a env >>= f) P)
    (kk : ∀ x v H1 f1, Same H H1 → Rl G.C (cut H1 (f1 ++ (fp ++ O))) H1 fp v x f1 → (∀ a ∈ f1, H a = none) → WG G.C (fp ++ O) Wx σ H (f x) P → K v H1) : tE G Wx a σ H K :=
  ⟨env, O, fp, ok, hw.bind (Same.refl H) (fun _ z => z) fun x hx q v H1 f1 e1 r1 _ g1 => kk x v H1 f1 e1 r1 g1 q⟩
theorem snd_neg {a : E} (ha : Snd G c k a) : Snd G c k (.neg a) := by
  refine snd_plain (fun {sc Wx X x} g h => ?_) (fun {sc Wx X x} g h => pt_bad fun _ => by simp only [evT]) (fun _ xs => by cases xs <;> rfl) (fun _ o => by cases o <;> rfl)
  cases x <;> first | (simp [ckE] at h; done) | skip
  rename_i op y pos
  cases op <;> first | (simp [ckE] at h; done) | skip
  simp only [ckE] at h
  refine PE.imp (pe_un un_neg (ha.E g h)) ?_
  rintro σ H Q ⟨env, O, fp, ok, hw⟩
  simp only [evE] at hw
  refine one ok hw fun x v H1 f1 e r1 hf q => ?_
  obtain ⟨d, hd, q⟩ := q.ok negD_ne
  unfold negD at hd
  split at hd <;> first | (cases hd; done) | skip
  cases hd
  obtain ⟨rfl, _⟩ := r1.int_inv
  exact ⟨_, rfl, (q.weak e fun _ z => z).int⟩
theorem snd_nt {a : E} (ha : Snd G c k a) : Snd G c k (.nt a) := by
  refine snd_plain (fun {sc Wx X x} g h => ?_) (fun {sc Wx X x} g h => ?_) (fun _ xs => by cases xs <;> rfl) (fun _ o => by cases o <;> rfl)
  all_goals
    cases x <;> first | (simp [ckE] at h; done) | skip
    rename_i op y pos
    cases op <;> first | (simp [ckE] at h; done) | skip
    simp only [ckE] at h
  · refine PE.imp (pe_not (ha.E g h)) ?_
    rintro σ H Q ⟨env, O, fp, ok, hw⟩
    simp only [evE] at hw
    refine one ok (f := fun x => do return D.bl (!(← truthD x))) hw fun x v H1 f1 e r1 hf q => ?_
    obtain ⟨d, hd, q⟩ := (q.ret (Same.refl _) (fun _ z => z) fun _ _ q => q).ok truthD_ne
    have ed := truthD_ok hd
    subst ed
    obtain ⟨rfl, _⟩ := r1.bl_inv
    exact ⟨_, rfl, (q.weak e fun _ z => z).bl⟩
  · refine PT.imp (pt_not (ha.T g h)) ?_
    rintro σ H Q ⟨env, O, fp, ok, hw⟩
    simp only [evT] at hw
    exact ⟨env, O, fp, ok, hw.ret (Same.refl H) (fun _ z => z) fun b _ q => q⟩
theorem snd_ife {t a b : E} (ht : Snd G c k t) (ha : Snd G c k a) (hb : Snd G c k b) : Snd G c k (.ife t a b) := by
  refine snd_plain (fun {sc Wx X x} g h => ?_) (fun {sc Wx X x} g h => pt_bad fun _ => by simp only [evT]) (fun _ xs => by cases xs <;> rfl) (fun _ o => by cases o <;> rfl)
  cases x <;> first | (simp [ckE] at h; done) | skip
  simp only [ckE, Bool.and_eq_true] at h
  obtain ⟨⟨h1, h2⟩, h3⟩ := h
  refine PE.imp (pe_ifExp (ht.T g h1) (ha.E g h2) (hb.E g h3)) ?_
  rintro σ H Q ⟨env, O, fp, ok, hw⟩
  simp only [evE] at hw
  refine ⟨env, O, fp, ok, hw.bind (Same.refl H) (fun _ z => z) fun b _ q H1 e1 => ?_⟩
  cases b with
  | true =>
    refine iteT ⟨env, O, fp, ok.grow e1, ?_⟩
    exact WG.bind (f := fun d => Res.ok d) (show WG G.C (fp ++ O) Wx σ H (evE G.T a env >>= fun d => Res.ok d) (fun d => VR G.C (fp ++ O) fp H d Q) by
      have q' : WG G.C (fp ++ O) Wx σ H (evE G.T a env) (fun d => VR G.C (fp ++ O) fp H d Q) := q
      cases e : evE G.T a env with
      | ok d => rw [e] at q'; exact q'
      | exc z => rw [e] at q'; exact q'
      | bad => rw [e] at q'; exact q') e1 (fun _ z => z) fun d _ q => q.weak e1 fun _ z => z
  | false =>
    refine iteF ⟨env, O, fp, ok.grow e1, ?_⟩
    exact WG.bind (f := fun d => Res.ok d) (show WG G.C (fp ++ O) Wx σ H (evE G.T b env >>= fun d => Res.ok d) (fun d => VR G.C (fp ++ O) fp H d Q) by
      have q' : WG G.C (fp ++ O) Wx σ H (evE G.T b env) (fun d => VR G.C (fp ++ O) fp H d Q) := q
      cases e : evE G.T b env with
      | ok d => rw [e] at q'; exact q'
      | exc z => rw [e] at q'; exact q'
      | bad => rw [e] at q'; exact q') e1 (fun _ z => z) fun d _ q => q.weak e1 fun _ z => z
theorem WG.id {C : Kc} {os os' : List Addr} {Wx : WX} {σ : L2.St} {H H' : Hp} {α : Type} {r : Res α} {P P' : α → Prop} (h : WG C os Wx σ H r P) (e : Same H H') (ho : ∀ a ∈ os, a ∈ os') (k : ∀ a, r = .ok a → P a → P' a) : WG C os' Wx σ H' r P' := by
  cases r with
  | ok a => exact k a rfl h
  | exc x => exact XR.weak h e ho
  | bad => exact h
theorem WG.nx {C : Kc} {os os' : List Addr} {Wx : WX} {σ : L2.St} {H H' : Hp} {α β : Type} {r : Res α} {f : α → Res β} {P : β → Prop} {P' : α → Prop} (h : WG C os Wx σ H (r >>= f) P) (e : Same H H') (ho : ∀ a ∈ os, a ∈ os') (k : ∀ a, r = .ok a → WG C os Wx σ H (f a) P → P' a) : WG C os' Wx σ H' r P' := h.bind e ho k
/-! ### lists of expressions -/
theorem snd_list {e : E} (ne : ∀ sc x, ckE G c sc e x = false) (hL : ∀ {sc Wx X xs}, Good G c k sc Wx X → ckL G c sc e xs = true → PA X xs (tL G Wx e))
    (hO : ∀ {sc Wx X o}, Good G c k sc Wx X → ckO G c sc e o = true → PO X o (tO G Wx e))
    (hI : ∀ {sc Wx X xs}, Good G c k sc Wx X → ckL G c sc e xs = true → xs.length ≤ 1 → PTs X xs (tB1 G Wx (evC G.T e)))
    (hA : ∀ {sc Wx X x xs pos}, Good G c k sc Wx X → ckL G c sc e (x :: xs) = true → PW X (.BoolOp .And (x :: xs) pos) (tB1 G Wx (evA G.T e)))
    (hR : ∀ {sc Wx X x xs pos}, Good G c k sc Wx X → ckL G c sc e (x :: xs) = true → PW X (.BoolOp .Or (x :: xs) pos) (tB1 G Wx (evO G.T e)))
    (hAV : ∀ {sc Wx X x xs pos}, Good G c k sc Wx X → ckL G c sc e (x :: xs) = true → PE X (.BoolOp .And (x :: xs) pos) (tBV G Wx (evAV G.T e)))
    (hRV : ∀ {sc Wx X x xs pos}, Good G c k sc Wx X → ckL G c sc e (x :: xs) = true → PE X (.BoolOp .Or (x :: xs) pos) (tBV G Wx (evOV G.T e))) : Snd G c k e where
  E := fun _ h => by rw [ne] at h; cases h
  T := fun _ h => by rw [ne] at h; cases h
  L := hL
  O := hO
  I := hI
  A := hA
  R := hR
  AV := hAV
  RV := hRV
theorem snd_nil : Snd G c k .nil := by
  refine snd_list (fun _ x => by cases x <;> rfl) (fun {sc Wx X xs} g h => ?_) (fun {sc Wx X o} g h => ?_) (fun {sc Wx X xs} g h hl => ?_) (fun {sc Wx X x xs pos} g h => ?_) (fun {sc Wx X x xs pos} g h => ?_) (fun {sc Wx X x xs pos} g h => ?_) (fun {sc Wx X x xs pos} g h => ?_)
  · cases xs <;> first | (simp [ckL] at h; done) | skip
    refine PA.imp pa_nil ?_
    rintro σ H Q ⟨env, O, fp, ok, hw⟩
    simp only [evL] at hw
    exact hw [] H [] refl_nil .nil List.nodup_nil fun _ z => nomatch z
  · cases o <;> first | (simp [ckO] at h; done) | skip
    refine PO.imp po_none ?_
    rintro σ H Q ⟨env, O, fp, ok, hw⟩
    simp only [evL] at hw
    exact hw H refl_nil
  · cases xs <;> first | (simp [ckL] at h; done) | skip
    refine ⟨fun pins s σ H Q I ⟨env, O, fp, ok, hw⟩ => pts_nil.run pins s σ H Q I ?_⟩
    simp only [evC] at hw
    exact hw H refl_nil
  all_goals simp [ckL] at h
theorem ckL_nil {sc : Scope} {es : E} (h : ckL G c sc es [] = true) : es = .nil := by
  cases es <;> first | (simp [ckL] at h; done) | rfl
theorem ckL_cons {sc : Scope} {es : E} {y : Expr} {ys : List Expr} (h : ckL G c sc es (y :: ys) = true) : ∃ e1 e2, es = .cons e1 e2 := by
  cases es <;> first | (simp [ckL] at h; done) | exact ⟨_, _, rfl⟩
theorem snd_cons {e es : E} (he : Snd G c k e) (hs : Snd G c k es) : Snd G c k (.cons e es) := by
  refine snd_list (fun _ x => by cases x <;> rfl) (fun {sc Wx X xs} g h => ?_) (fun {sc Wx X o} g h => ?_) (fun {sc Wx X xs} g h hl => ?_) (fun {sc Wx X x xs pos} g h => ?_) (fun {sc Wx X x xs pos} g h => ?_) (fun {sc Wx X x xs pos} g h => ?_) (fun {sc Wx X x xs pos} g h => ?_)
  · cases xs <;> first | (simp [ckL] at h; done) | skip
    rename_i x xs
    simp only [ckL, Bool.and_eq_true] at h
    refine PA.imp (pa_cons (he.E g h.1) (hs.L g h.2) (star_cons (ck_notSt h.1))) ?_
    rintro σ H Q ⟨env, O, fp, ok, hw⟩
    simp only [evL] at hw
    refine ⟨env, O, fp, ok, hw.bind (Same.refl H) (fun _ z => z) fun x hx q => ?_⟩
    intro v H1 f1 e1 r1 n1 g1
    have hd : ∀ a ∈ f1, ∃ o, H1 a = some o := fun a ha => let ⟨o, e, _⟩ := r1.mutb a ha; ⟨o, e⟩
    refine ⟨env, f1 ++ O, fp, ok.wide e1 g1 hd, q.bind e1 (fun z hz => ?_) fun l hl q2 => ?_⟩
    · rcases List.mem_append.mp hz with hz | hz
      · exact List.mem_append_left _ hz
      · exact List.mem_append_right _ (List.mem_append_right _ hz)
    · intro vs H2 f2 e2 r2 n2 g2
      refine q2 (v :: vs) H2 (f1 ++ f2) (e1.trans e2) (.cons (r1.mono (cutS e2 fun z hz => ?_) e2) (r2.mono (cutS (Same.refl _) fun z hz => ?_) (Same.refl _))) ?_ fun z hz => ?_
      · rcases List.mem_append.mp hz with hz | hz
        · rcases List.mem_append.mp hz with hz | hz
          · exact .inl (List.mem_append_left _ hz)
          · exact .inr (g2 z hz)
        · exact .inl (List.mem_append_right _ hz)
      · left
        rcases List.mem_append.mp hz with hz | hz
        · rcases List.mem_append.mp hz with hz | hz
          · exact List.mem_append_right _ (List.mem_append_right _ (List.mem_append_left _ hz))
          · exact List.mem_append_left _ hz
        · exact sub4 z hz
      · refine List.nodup_append.mpr ⟨n1, n2, fun a ha b hb e => ?_⟩
        subst e
        obtain ⟨o, q⟩ := hd a ha
        rw [g2 a hb] at q
        cases q
      · rcases List.mem_append.mp hz with hz | hz
        · exact g1 z hz
        · exact fresh_b e1 (g2 z hz)
  · cases es <;> first | (simp [ckO] at h; done) | skip
    cases o <;> first | (simp [ckO] at h; done) | skip
    simp only [ckO] at h
    refine PO.imp (po_some (he.E g h)) ?_
    rintro σ H Q ⟨env, O, fp, ok, hw⟩
    simp only [evL] at hw
    have hw' : WG G.C (fp ++ O) Wx σ H (evE G.T e env >>= fun d => oneOpt [d]) fun d => ∀ H', Same H H' → Q d H' := by
      cases z : evE G.T e env with
      | ok d => rw [z] at hw; exact hw
      | exc y => rw [z] at hw; exact hw
      | bad => rw [z] at hw; exact hw
    refine one ok hw' fun x v H1 f1 e r1 hf q => ?_
    cases x <;> first | (exact (show False from q).elim) | skip
    obtain ⟨rfl, _⟩ := r1.int_inv
    exact ⟨_, rfl, q H1 e⟩
  · cases xs <;> first | (simp [ckL] at h; done) | skip
    rename_i x xs
    simp only [ckL, Bool.and_eq_true] at h
    cases xs with
    | cons _ _ => simp at hl
    | nil =>
      have en := ckL_nil h.2
      subst en
      refine ⟨fun pins s σ H Q I ⟨env, O, fp, ok, hw⟩ => (pts_one (he.T g h.1)).run pins s σ H Q I ?_⟩
      simp only [evC] at hw
      exact ⟨env, O, fp, ok, hw⟩
  · simp only [ckL, Bool.and_eq_true] at h
    cases xs with
    | nil =>
      have en := ckL_nil h.2
      subst en
      refine PW.imp (pw_and1 (he.T g h.1)) ?_
      rintro σ H Q ⟨env, O, fp, ok, hw⟩
      simp only [evA] at hw
      refine ⟨env, O, fp, ok, hw.bind (Same.refl H) (fun _ z => z) fun b _ q => ?_⟩
      cases b <;> exact q
    | cons y ys =>
      obtain ⟨e1, e2, rfl⟩ := ckL_cons h.2
      refine PW.imp (pw_and (he.T g h.1) (hs.A g h.2)) ?_
      rintro σ H Q ⟨env, O, fp, ok, hw⟩
      rw [evA] at hw
      case x_2 => exact fun z => nomatch z
      refine ⟨env, O, fp, ok, hw.bind (Same.refl H) (fun _ z => z) fun b _ q H1 e1 => ?_⟩
      cases b with
      | true => exact iteT ⟨env, O, fp, ok.grow e1, WG.id (show WG G.C (fp ++ O) Wx σ H (evA G.T _ env) _ from q) e1 (fun _ z => z) fun d _ q H2 e2 => q H2 (e1.trans e2)⟩
      | false => exact iteF (q H1 e1)
  · simp only [ckL, Bool.and_eq_true] at h
    cases xs with
    | nil =>
      have en := ckL_nil h.2
      subst en
      refine PW.imp (pw_or1 (he.T g h.1)) ?_
      rintro σ H Q ⟨env, O, fp, ok, hw⟩
      simp only [evO] at hw
      refine ⟨env, O, fp, ok, hw.bind (Same.refl H) (fun _ z => z) fun b _ q => ?_⟩
      cases b <;> exact q
    | cons y ys =>
      obtain ⟨e1, e2, rfl⟩ := ckL_cons h.2
      refine PW.imp (pw_or (he.T g h.1) (hs.R g h.2)) ?_
      rintro σ H Q ⟨env, O, fp, ok, hw⟩
      rw [evO] at hw
      case x_2 => exact fun z => nomatch z
      refine ⟨env, O, fp, ok, hw.bind (Same.refl H) (fun _ z => z) fun b _ q H1 e1 => ?_⟩
      cases b with
      | true => exact iteT (q H1 e1)
      | false => exact iteF ⟨env, O, fp, ok.grow e1, WG.id (show WG G.C (fp ++ O) Wx σ H (evO G.T _ env) _ from q) e1 (fun _ z => z) fun d _ q H2 e2 => q H2 (e1.trans e2)⟩
  · simp only [ckL, Bool.and_eq_true] at h
    cases xs with
    | nil =>
      have en := ckL_nil h.2
      subst en
      refine PE.imp (pe_one (he.E g h.1)) ?_
      rintro σ H Q ⟨env, O, fp, ok, hw⟩
      simp only [evAV] at hw
      refine ⟨env, O, fp, ok, ?_⟩
      cases z : evE G.T e env with
      | ok d =>
        rw [z] at hw
        cases d <;> first | (exact (show False from hw).elim) | skip
        rename_i b
        intro v H1 fq e1 r1 _ _
        obtain ⟨rfl, _⟩ := r1.bl_inv
        cases b <;> exact hw H1 e1
      | exc y => rw [z] at hw; exact hw
      | bad => rw [z] at hw; exact hw
    | cons y ys =>
      obtain ⟨e1, e2, rfl⟩ := ckL_cons h.2
      refine PE.imp (pe_and (he.E g h.1) (hs.AV g h.2)) ?_
      rintro σ H Q ⟨env, O, fp, ok, hw⟩
      rw [evAV] at hw
      case x_2 => exact fun z => nomatch z
      refine ⟨env, O, fp, ok, ?_⟩
      cases z : evE G.T e env with
      | ok d =>
        rw [z] at hw
        cases d <;> first | (exact (show False from hw).elim) | skip
        rename_i b
        intro v H1 fq e1 r1 _ _
        obtain ⟨rfl, _⟩ := r1.bl_inv
        refine ⟨b, rfl, ?_⟩
        cases b with
        | true => exact iteT ⟨env, O, fp, ok.grow e1, WG.id (show WG G.C (fp ++ O) Wx σ H (evAV G.T _ env) _ from hw) e1 (fun _ z => z) fun d _ q H2 e2 => q H2 (e1.trans e2)⟩
        | false => exact iteF (hw H1 e1)
      | exc y => rw [z] at hw; exact hw
      | bad => rw [z] at hw; exact hw
  · simp only [ckL, Bool.and_eq_true] at h
    cases xs with
    | nil =>
      have en := ckL_nil h.2
      subst en
      refine PE.imp (pe_one (he.E g h.1)) ?_
      rintro σ H Q ⟨env, O, fp, ok, hw⟩
      simp only [evOV] at hw
      refine ⟨env, O, fp, ok, ?_⟩
      cases z : evE G.T e env with
      | ok d =>
        rw [z] at hw
        cases d <;> first | (exact (show False from hw).elim) | skip
        rename_i b
        intro v H1 fq e1 r1 _ _
        obtain ⟨rfl, _⟩ := r1.bl_inv
        cases b <;> exact hw H1 e1
      | exc y => rw [z] at hw; exact hw
      | bad => rw [z] at hw; exact hw
    | cons y ys =>
      obtain ⟨e1, e2, rfl⟩ := ckL_cons h.2
      refine PE.imp (pe_or (he.E g h.1) (hs.RV g h.2)) ?_
      rintro σ H Q ⟨env, O, fp, ok, hw⟩
      rw [evOV] at hw
      case x_2 => exact fun z => nomatch z
      refine ⟨env, O, fp, ok, ?_⟩
      cases z : evE G.T e env with
      | ok d =>
        rw [z] at hw
        cases d <;> first | (exact (show False from hw).elim) | skip
        rename_i b
        intro v H1 fq e1 r1 _ _
        obtain ⟨rfl, _⟩ := r1.bl_inv
        refine ⟨b, rfl, ?_⟩
        cases b with
        | true => exact iteT (hw H1 e1)
        | false => exact iteF ⟨env, O, fp, ok.grow e1, WG.id (show WG G.C (fp ++ O) Wx σ H (evOV G.T _ env) _ from hw) e1 (fun _ z => z) fun d _ q H2 e2 => q H2 (e1.trans e2)⟩
      | exc y => rw [z] at hw; exact hw
      | bad => rw [z] at hw; exact hw
theorem snd_and {es : E} (hs : Snd G c k es) : Snd G c k (.and es) := by
  refine snd_plain (fun {sc Wx X x} g h => ?_) (fun {sc Wx X x} g h => ?_) (fun _ xs => by cases xs <;> rfl) (fun _ o => by cases o <;> rfl)
  all_goals
    cases x <;> first | (simp [ckE] at h; done) | skip
    rename_i op xs pos
    cases op <;> cases xs <;> first | (simp [ckE] at h; done) | skip
    simp only [ckE] at h
  · refine PE.imp (hs.AV g h) ?_
    rintro σ H Q ⟨env, O, fp, ok, hw⟩
    simp only [evE] at hw
    exact ⟨env, O, fp, ok, hw.ret (Same.refl H) (fun _ z => z) fun b _ q H1 e1 => (q.weak e1 fun _ z => z).bl⟩
  · refine PT.imp (PW.pt (hs.A g h)) ?_
    rintro σ H Q ⟨env, O, fp, ok, hw⟩
    simp only [evT] at hw
    exact ⟨env, O, fp, ok, hw⟩
theorem snd_or {es : E} (hs : Snd G c k es) : Snd G c k (.or es) := by
  refine snd_plain (fun {sc Wx X x} g h => ?_) (fun {sc Wx X x} g h => ?_) (fun _ xs => by cases xs <;> rfl) (fun _ o => by cases o <;> rfl)
  all_goals
    cases x <;> first | (simp [ckE] at h; done) | skip
    rename_i op xs pos
    cases op <;> cases xs <;> first | (simp [ckE] at h; done) | skip
    simp only [ckE] at h
  · refine PE.imp (hs.RV g h) ?_
    rintro σ H Q ⟨env, O, fp, ok, hw⟩
    simp only [evE] at hw
    exact ⟨env, O, fp, ok, hw.ret (Same.refl H) (fun _ z => z) fun b _ q H1 e1 => (q.weak e1 fun _ z => z).bl⟩
  · refine PT.imp (PW.pt (hs.R g h)) ?_
    rintro σ H Q ⟨env, O, fp, ok, hw⟩
    simp only [evT] at hw
    exact ⟨env, O, fp, ok, hw⟩
theorem snd_tup {es : E} (hs : Snd G c k es) : Snd G c k (.tup es) := by
  refine snd_plain (fun {sc Wx X x} g h => ?_) (fun {sc Wx X x} g h => pt_bad fun _ => by simp only [evT]) (fun _ xs => by cases xs <;> rfl) (fun _ o => by cases o <;> rfl)
  cases x <;> first | (simp [ckE] at h; done) | skip
  simp only [ckE] at h
  refine PE.imp (pe_tup (hs.L g h)) ?_
  rintro σ H Q ⟨env, O, fp, ok, hw⟩
  simp only [evE] at hw
  refine ⟨env, O, fp, ok, hw.bind (Same.refl H) (fun _ z => z) fun l _ q vs H1 f1 e1 r1 n1 g1 => ?_⟩
  by_cases hl : lineOk l.length = true
  · rw [if_pos hl] at q
    refine ⟨by rw [r1.len]; exact line_le hl, fun p hp => ?_⟩
    have q' : VR G.C (fp ++ O) fp H (.tup (mpL fzM l)) Q := q
    refine (q'.weak e1 fun _ z => z).newT r1 (fun a ha => List.mem_append_right _ ha) (fun a ha => ok.nf g1 a ha) hp fun hm => ?_
    obtain ⟨o, z⟩ := ok.osd p hm
    rw [fresh_b e1 hp] at z
    cases z
  · rw [if_neg hl] at q
    exact (show False from q).elim
theorem snd_lst {es : E} (hs : Snd G c k es) : Snd G c k (.lst es) := by
  refine snd_plain (fun {sc Wx X x} g h => ?_) (fun {sc Wx X x} g h => pt_bad fun _ => by simp only [evT]) (fun _ xs => by cases xs <;> rfl) (fun _ o => by cases o <;> rfl)
  cases x <;> first | (simp [ckE] at h; done) | skip
  simp only [ckE] at h
  refine PE.imp (pe_lst (hs.L g h)) ?_
  rintro σ H Q ⟨env, O, fp, ok, hw⟩
  simp only [evE] at hw
  refine ⟨env, O, fp, ok, hw.bind (Same.refl H) (fun _ z => z) fun l _ q vs H1 f1 e1 r1 n1 g1 => ?_⟩
  by_cases hl : lineOk l.length = true
  · rw [if_pos hl] at q
    refine ⟨by rw [r1.len]; exact line_le hl, fun p hp => ?_⟩
    have q' : VR G.C (fp ++ O) fp H (.lst .own (mpL fzM l)) Q := q
    exact (q'.weak e1 fun _ z => z).newL r1 (fun a ha => List.mem_append_right _ ha) (fun a ha => ok.nf g1 a ha) hp
  · rw [if_neg hl] at q
    exact (show False from q).elim
theorem ixD_ne {a b : D} (x : Xc) : ixD a b ≠ .exc x := by
  intro h; unfold ixD at h; split at h <;> first | (cases h; done) | (split at h <;> first | (cases h; done) | (split at h <;> cases h))
theorem plainIx_ck {sc : Scope} {e : E} {x : Expr} (h : ckE G c sc e x = true) : PlainIx x := by
  cases x <;> first | (intro _ _; rfl) | (cases e <;> simp [ckE] at h)
theorem snd_ix {a i : E} (ha : Snd G c k a) (hi : Snd G c k i) : Snd G c k (.ix a i) := by
  refine snd_plain (fun {sc Wx X x} g h => ?_) (fun {sc Wx X x} g h => pt_bad fun _ => by simp only [evT]) (fun _ xs => by cases xs <;> rfl) (fun _ o => by cases o <;> rfl)
  cases x <;> first | (simp [ckE] at h; done) | skip
  simp only [ckE, Bool.and_eq_true] at h
  refine PE.imp (pe_ix (ix_D (C := G.C) g.hK) (ha.E g h.1) (hi.E g h.2) (plainIx_ck h.2)) ?_
  rintro σ H Q ⟨env, O, fp, ok, hw⟩
  simp only [evE] at hw
  refine two ok hw fun x y v u H2 f1 f2 e r1 r2 hf q => ?_
  obtain ⟨d, hd, q⟩ := q.ok ixD_ne
  exact ⟨_, fp ++ O, fp, x, y, f1, f2, d, r1, r2, sub4, fun b hb => ok.nf hf b (List.mem_append_left _ hb), hd, q.weak e fun _ z => z⟩
theorem slD_ne {a : D} {l h : Option Int} (x : Xc) : slD a l h ≠ .exc x := by
  intro h; unfold slD at h; split at h <;> first | (cases h; done) | (split at h <;> cases h)
theorem snd_sl {a lo hi : E} (ha : Snd G c k a) (hl : Snd G c k lo) (hh : Snd G c k hi) : Snd G c k (.sl a lo hi) := by
  refine snd_plain (fun {sc Wx X x} g h => ?_) (fun {sc Wx X x} g h => pt_bad fun _ => by simp only [evT]) (fun _ xs => by cases xs <;> rfl) (fun _ o => by cases o <;> rfl)
  cases x <;> first | (simp [ckE] at h; done) | skip
  rename_i v sl pos
  cases sl <;> first | (simp [ckE] at h; done) | skip
  rename_i l u st p2
  cases st <;> first | (simp [ckE] at h; done) | skip
  simp only [ckE, Bool.and_eq_true] at h
  obtain ⟨⟨h1, h2⟩, h3⟩ := h
  refine PE.imp (pe_slice (sl_D (C := G.C) g.hK) (ha.E g h1) (hl.O g h2) (hh.O g h3)) ?_
  rintro σ H Q ⟨env, O, fp, ok, hw⟩
  simp only [evE] at hw
  refine ⟨env, O, fp, ok, hw.bind (Same.refl H) (fun _ z => z) fun x hx q => ?_⟩
  intro v H1 f1 e1 r1 n1 g1
  have hd : ∀ a ∈ f1, ∃ o, H1 a = some o := fun a ha => let ⟨o, e, _⟩ := r1.mutb a ha; ⟨o, e⟩
  have sub : ∀ z ∈ fp ++ O, z ∈ fp ++ (f1 ++ O) := fun z hz => (List.mem_append.mp hz).elim (List.mem_append_left _) fun hz => List.mem_append_right _ (List.mem_append_right _ hz)
  have as1 : ∀ {α : Type} (r : Res (List D)) (f : Option Int → Res α), (r >>= fun x => oneOpt x >>= f) = ((r >>= oneOpt) >>= f) := fun r f => by cases r <;> rfl
  have q0 : WG G.C (fp ++ O) Wx σ H ((evL G.T lo env >>= oneOpt) >>= fun l => (evL G.T hi env >>= oneOpt) >>= fun h => slD x l h) (fun d => VR G.C (fp ++ O) fp H d Q) := by
    rw [← as1]
    simp only [← as1]
    exact q
  refine ⟨env, f1 ++ O, fp, ok.wide e1 g1 hd, q0.bind e1 sub fun l _ q1 H2 e2 => ?_⟩
  refine ⟨env, f1 ++ O, fp, ok.wide (e1.trans e2) g1 (fun a ha => let ⟨o, z⟩ := hd a ha; ⟨o, e2 a o z⟩), q1.bind (e1.trans e2) sub fun h _ q2 H3 e3 => ?_⟩
  obtain ⟨d, hd, q2⟩ := q2.ok slD_ne
  have e13 := e2.trans e3
  refine ⟨f1 ++ (fp ++ O), fp ++ O, fp, x, f1, d, r1.mono (cut_mono e13) e13, fun a ha => List.mem_append_right _ ha, ok.nf g1, hd, q2.weak (e1.trans e13) fun _ z => z⟩
theorem bltD_ne {f : Blt} {ds : List D} (x : Xc) : bltD f ds ≠ .exc x := by
  intro h; unfold bltD at h; split at h <;> first | (cases h; done) | (split at h <;> cases h)
theorem bltS_in (f : Blt) : bltS f ∈ bltNames := by
  cases f <;> simp [bltS, bltNames]
theorem boot_blt (f : Blt) : bootBuiltins (bltS f) = some (bltV f) := by
  cases f <;> decide +kernel
theorem pe_callV {X : Cx} {x : Str} {p pos : Pos} {e : Expr} {es : List Expr} {t : TA} {v : Value} {r : List V → Hp → VK → Prop} (hv : (∃ id, v = .builtin id) ∨ ∃ T, v = .type T) (hc : CallR X v r) (hg : Gl X x) (hm : X.mg x = none) (hb : bootBuiltins x = some v) (ha : PA X (e :: es) t)
    (hn : x ≠ "__name__") (hd : (x == ("__debug__" : Str)) = false) (hs : noSt (e :: es) = true) : PE X (.Call (.Name x p) (e :: es) [] pos) (tCB r t) := by
  have h1 := hs
  simp only [noSt, List.all_cons, Bool.and_eq_true] at h1
  rcases hv with ⟨id, rfl⟩ | ⟨T, rfl⟩
  · exact pe_callB hc hg hm hb ha hn hd (star_cons h1.1) (star_any h1.2)
  · exact pe_callTy hc hg hm hb ha hn hd (star_cons h1.1) (star_any h1.2)
theorem snd_blt {f : Blt} {es : E} (hs : Snd G c k es) : Snd G c k (.blt f es) := by
  refine snd_plain (fun {sc Wx X x} g h => ?_) (fun {sc Wx X x} g h => pt_bad fun _ => by simp only [evT]) (fun _ xs => by cases xs <;> rfl) (fun _ o => by cases o <;> rfl)
  cases x <;> first | (simp [ckE] at h; done) | skip
  rename_i fn xs kws pos
  cases fn <;> first | (simp [ckE] at h; done) | skip
  cases xs <;> cases kws <;> first | (simp [ckE] at h; done) | skip
  rename_i n p y ys
  simp only [ckE, Bool.and_eq_true, Bool.not_eq_true', decide_eq_true_eq] at h
  obtain ⟨⟨⟨hh, rfl⟩, h2⟩, h3⟩ := h
  obtain ⟨k1, k2, k3⟩ := glB_ok h2
  refine PE.imp (pe_callV (by cases f <;> first | exact .inl ⟨_, rfl⟩ | exact .inr ⟨_, rfl⟩) (call_blt (C := G.C) g.hK (g.calm hh) f) (g.gl h2) (g.mgN (bltS_in f)) (boot_blt f) (hs.L g h3) k3 k2 (ckL_noSt h3)) ?_
  rintro σ H Q ⟨env, O, fp, ok, hw⟩
  simp only [evE] at hw
  refine ⟨env, O, fp, ok, hw.bind (Same.refl H) (fun _ z => z) fun l _ q vs H1 f1 e1 r1 n1 g1 => ?_⟩
  obtain ⟨d, hd, q⟩ := q.ok bltD_ne
  exact ⟨_, fp ++ O, fp, l, f1, d, r1, fun a ha => List.mem_append_right _ ha, ok.nf g1, hd, q.weak e1 fun _ z => z⟩
theorem isiD_ne {d : D} {t : String} (x : Xc) : isiD d t ≠ .exc x := by
  intro h
  unfold isiD at h
  split at h <;> first | (cases h; done) | (split at h <;> cases h)
theorem boot_ty {t : String} (h : t ∈ tysOk) : bootBuiltins (Str.ofString t) = some (.type t) ∧ Str.ofString t ∈ bltNames ∧ (Str.ofString t == ("__debug__" : Str)) = false ∧ Str.ofString t ≠ ("__name__" : Str) := by
  simp only [tysOk, List.mem_cons, List.not_mem_nil, or_false] at h
  rcases h with rfl | rfl | rfl | rfl | rfl | rfl <;> exact ⟨by decide +kernel, by simp [bltNames], by decide +kernel, by decide +kernel⟩
theorem pe_isi {a : E} {t : String} (ha : Snd G c k a) {sc : Scope} {Wx : WX} {X : Cx} {x : Expr} (g : Good G c k sc Wx X) (h : ckE G c sc (.isi a t) x = true) :
    ∃ y p p2 pos, x = .Call (.Name "isinstance" p) [y, .Name (Str.ofString t) p2] [] pos ∧ PE X x (tCB (rIs G.C t) (tCons (tE G Wx a) (tCons (tC (.ty t)) tNil))) := by
  cases x <;> first | (simp [ckE] at h; done) | skip
  rename_i fn xs kws pos
  cases fn <;> first | (simp [ckE] at h; done) | skip
  rename_i n p
  match xs, kws, h with
  | [y, .Name m p2], [], h =>
    simp only [ckE, Bool.and_eq_true, decide_eq_true_eq] at h
    obtain ⟨⟨⟨⟨⟨rfl, rfl⟩, h1⟩, h2⟩, h3⟩, h4⟩ := h
    have ht : t ∈ tysOk := by simpa using h1
    obtain ⟨b1, b2, b3, b4⟩ := boot_ty ht
    refine ⟨y, p, p2, pos, rfl, ?_⟩
    exact pe_callB (call_isD (C := G.C) g.hK t) (g.gl h2) (g.mgN (by simp [bltNames])) PyProof.Rows.boot_isinstance (pa_cons (ha.E g h4) (pa_cons (pe_bltn (g.gl h3) (g.mgN b2) b1 rfl b4 b3) pa_nil) (star_cons (ck_notSt h4))) (by decide) (by decide) (star_cons (ck_notSt h4)) rfl
theorem snd_isi {a : E} {t : String} (ha : Snd G c k a) : Snd G c k (.isi a t) := by
  refine snd_plain (fun {sc Wx X x} g h => ?_) (fun {sc Wx X x} g h => ?_) (fun _ xs => by cases xs <;> rfl) (fun _ o => by cases o <;> rfl)
  · obtain ⟨y, p, p2, pos, rfl, pe⟩ := pe_isi ha g h
    refine PE.imp pe ?_
    rintro σ H Q ⟨env, O, fp, ok, hw⟩
    simp only [evE] at hw
    refine one ok (f := fun x => do return D.bl (← isiD x t)) hw fun x v H1 f1 e r1 hf q => ?_
    obtain ⟨d, hd, q⟩ := (q.ret (Same.refl _) (fun _ z => z) fun _ _ q => q).ok isiD_ne
    exact ⟨_, fp, x, v, f1, d, rfl, r1, hd, (q.weak e fun _ z => z).bl⟩
  · obtain ⟨y, p, p2, pos, rfl, pe⟩ := pe_isi ha g h
    refine PT.imp (pt_val pe) ?_
    rintro σ H Q ⟨env, O, fp, ok, hw⟩
    simp only [evT] at hw
    refine one ok hw fun x v H1 f1 e r1 hf q => ?_
    obtain ⟨d, hd, q⟩ := q.ok isiD_ne
    exact ⟨_, fp, x, v, f1, d, rfl, r1, hd, d, rfl, q H1 e⟩
end
end Pv
/-! Pv8: calls and comprehensions; every expression. -/
namespace Pv
open PySem L2 PySem.Spec
section
variable {G : Gx} {c : Cn} {k : Nat}
theorem evL_len {T : Tb} {sc : Scope} {env : Env} : ∀ {es : E} {xs : List Expr} {ds : List D}, ckL G c sc es xs = true → evL T es env = .ok ds → ds.length = xs.length
  | .nil, [], ds, _, h => by
    simp only [evL] at h
    cases h; rfl
  | .cons e es, x :: xs, ds, hc, h => by
    simp only [ckL, Bool.and_eq_true] at hc
    simp only [evL] at h
    cases z : evE T e env with
    | ok d =>
      rw [z] at h
      cases z2 : evL T es env with
      | ok l =>
        rw [z2] at h
        cases h
        simp [evL_len hc.2 z2]
      | exc y => rw [z2] at h; cases h
      | bad => rw [z2] at h; cases h
    | exc y => rw [z] at h; cases h
    | bad => rw [z] at h; cases h
/-- what is no tuple is no one of a clean thing's tuples -/
theorem sqT_cut2 {K : Frag} {H : Hp} {o1 o2 : List Addr} {a : Addr} {xs : List V} (h : SqT K (cut H o1) a xs) (ho : ∀ b ∈ o2, b ∈ o1 ∨ ∃ o, H b = some o ∧ Mutb o) : SqT K (cut H o2) a xs := by
  have key : ∀ o, cut H o1 a = some o → ¬ Mutb o → cut H o2 a = some o := fun o q nm => by
    obtain ⟨q1, q2⟩ := cut_some q
    rw [cut_out]
    · exact q1
    · intro z
      rcases ho a z with z | ⟨o', q', m⟩
      · exact q2 z
      · rw [q1] at q'
        cases q'
        exact nm m
  rcases h with (h | ⟨o, h⟩) | h
  · exact .inl (.inl (key _ h fun z => z))
  · exact .inl (.inr ⟨o, key _ h fun z => z⟩)
  · exact .inr h
theorem RlX.cln {C : Kc} {H : Hp} {o1 o2 : List Addr} {cls : Value} {dx : Option Addr} {x : Xc} (h : RlX C (cut H o1) cls dx x) (hc : amF isOwn x.fs = true) (ho : ∀ b ∈ o2, b ∈ o1 ∨ ∃ o, H b = some o ∧ Mutb o) : RlX C (cut H o2) cls dx x := by
  obtain ⟨h1, h2⟩ := h
  refine ⟨h1, h2.imp (fun z => z) fun ⟨a, vs, q0, q1, q2, q3⟩ => ⟨a, vs, q0, q1, ?_, q3.clnF (fun a xs t => sqT_cut2 t ho) hc⟩⟩
  obtain ⟨e1, e2⟩ := cut_some q2
  rw [cut_out]
  · exact e1
  · intro z
    rcases ho a z with z | ⟨o', q', m⟩
    · exact e2 z
    · rw [e1] at q'
      cases q'
      exact m
/-- the call's reading -/
theorem callD_rd {F : Fm} {sp2 : Nat} {vs : List V} {ds : List D} {O fp fa : List Addr} {env : Env} {σ : L2.St} {H H1 : Hp} {Wx : WX} {Q : VK} (ok : OkF G.C O env σ H fp) (e1 : Same H H1) (r1 : RlL G.C (cut H1 (fa ++ (fp ++ O))) H1 fp vs ds fa) (g1 : ∀ a ∈ fa, H a = none)
    (ha : ds.length ≤ F.ar ∧ F.ar ≤ ds.length + F.dfl.length) (hs : F.dfl.all isSc = true) (q : WG G.C (fp ++ O) Wx σ H (callD F ds) fun d => VR G.C (fp ++ O) fp H d Q) :
    spD G.C F (vs ++ (F.dfl.drop (ds.length + F.dfl.length - F.ar)).map scV) H1 Q (WE Wx σ) := by
  unfold callD at q
  rw [if_pos ha] at q
  have hl : (mpL shM ds ++ F.dfl.drop (ds.length + F.dfl.length - F.ar)).length = F.ar := by
    rw [List.length_append, mpL_eq, List.length_map, List.length_drop]
    omega
  have hsd : (F.dfl.drop (ds.length + F.dfl.length - F.ar)).all isSc = true := List.all_eq_true.mpr fun d hd => List.all_eq_true.mp hs d (List.mem_of_mem_drop hd)
  have nf := ok.nf g1
  by_cases hb : amL noBrwM ds = true
  · refine ⟨fp ++ O, _, ?_, fun a ha => let ⟨o, z⟩ := ok.osd a ha; ⟨o, e1 a o z⟩, hl, ?_⟩
    · refine RlL.app (f := []) (g := []) ((RlL.keep (W' := []) (Same.refl _) r1 hb fun a _ o z => z).sh (cut_sub fun a ha => List.mem_append_right _ ha) (fun _ z => (List.not_mem_nil z).elim) fun a ha o z => ?_) (RlL.ofSc hsd)
      rw [cut_out (nf a ha)]
      exact z
    · cases hm : F.m (mpL shM ds ++ F.dfl.drop (ds.length + F.dfl.length - F.ar)) with
      | ok r =>
        rw [hm] at q
        simp only [hb, Bool.true_or, if_true] at q
        intro v H' fq e' r' nd g'
        exact q v H' fq (e1.trans e') (r'.wm fun _ z => (List.not_mem_nil z).elim) nd fun a ha => fresh_b e1 (g' a ha)
      | exc x =>
        rw [hm] at q
        simp only [hb, Bool.true_or, if_true] at q
        intro cls dx H' e' r'
        exact q cls dx H' (e1.trans e') r'
      | bad => rw [hm] at q; exact q
  · have fpm : ∀ {H' : Hp}, Same H1 H' → ∀ b ∈ fp, ∃ o, H' b = some o ∧ Mutb o := fun e' b hb => by
      obtain ⟨o, z, m⟩ := ok.rel.mutb b hb
      exact ⟨o, e' b o (e1 b o z), m⟩
    refine ⟨O, _, ?_, fun a ha => let ⟨o, z⟩ := ok.od a ha; ⟨o, e1 a o z⟩, hl, ?_⟩
    · refine RlL.app (f := []) (g := []) (r1.sh (cut_sub fun a ha => List.mem_append_right _ (List.mem_append_right _ ha)) (fun a ha o z => ?_) fun a ha o z => ?_) (RlL.ofSc hsd)
      · rw [cut_out (ok.dj a ha)]
        exact z
      · rw [cut_out fun y => nf a ha (List.mem_append_right _ y)]
        exact z
    · cases hm : F.m (mpL shM ds ++ F.dfl.drop (ds.length + F.dfl.length - F.ar)) with
      | ok r =>
        rw [hm] at q
        simp only [hb, Bool.false_or] at q
        by_cases hc : clean r = true
        · rw [if_pos hc] at q
          intro v H' fq e' r' nd g'
          refine q v H' fq (e1.trans e') (r'.cln (fun a xs t => sqT_cut2 t fun b hb => ?_) hc) nd fun a ha => fresh_b e1 (g' a ha)
          rcases List.mem_append.mp hb with hb | hb
          · exact .inl (List.mem_append_left _ hb)
          · rcases List.mem_append.mp hb with hb | hb
            · exact .inr (fpm e' b hb)
            · exact .inl (List.mem_append_right _ hb)
        · rw [if_neg hc] at q
          exact q.elim
      | exc x =>
        rw [hm] at q
        simp only [hb, Bool.false_or] at q
        by_cases hc : amF isOwn x.fs = true
        · rw [if_pos hc] at q
          intro cls dx H' e' r'
          refine q cls dx H' (e1.trans e') (r'.cln hc fun b hb => ?_)
          rcases List.mem_append.mp hb with hb | hb
          · exact .inr (fpm e' b hb)
          · exact .inl hb
        · rw [if_neg hc] at q
          exact q.elim
      | bad => rw [hm] at q; exact q
theorem callD_bad {F : Fm} {ds : List D} (h : ¬ (ds.length ≤ F.ar ∧ F.ar ≤ ds.length + F.dfl.length)) : callD F ds = .bad := by
  unfold callD
  rw [if_neg h]
theorem pe_callO {i : Nat} {es : E} (hs : Snd G c k es) {sc : Scope} {Wx : WX} {X : Cx} {f : Str} {x : Expr} {xs : List Expr} {p pos : Pos} (g : Good G c k sc Wx X)
    (h : (!c.hot && decide (i ∈ c.fs) && decide (f = G.fn i) && glB sc f && ckL G c sc es (x :: xs)) = true) : PE X (.Call (.Name f p) (x :: xs) [] pos) (tE G Wx (.call i es)) := by
  simp only [Bool.and_eq_true, Bool.not_eq_true', decide_eq_true_eq] at h
  obtain ⟨⟨⟨⟨hh, h1⟩, rfl⟩, h2⟩, h3⟩ := h
  obtain ⟨k1, k2, k3⟩ := glB_ok h2
  obtain ⟨fa, fd, ps, F, hm, hk, hl, hb, hsc⟩ := (g.fns i h1).ex
  by_cases ha : (x :: xs).length ≤ (G.T.f i).ar ∧ (G.T.f i).ar ≤ (x :: xs).length + (G.T.f i).dfl.length
  · obtain ⟨us, B, V⟩ := hb ((x :: xs).length + (G.T.f i).dfl.length - (G.T.f i).ar) (by omega)
    have F' : FnOk X.prog X.w X.K X.mg X.base (L2N.CX X.prog X.w) k fa fd ps (spD G.C (G.T.f i)) := by
      rw [g.hP, g.hw, g.hK, g.hmg, g.hb]; exact F
    refine PE.imp (pe_callD F' (g.room hh) (g.gl h2) (by rw [g.hmg]; exact hm) (by rw [g.hK]; exact hk) (by rw [g.hK]; exact B) V (fun σ => L2N.passAt g.tk σ) (hs.L g h3) k2 (ckL_noSt h3)) ?_
    rintro σ H Q ⟨env, O, fp, ok, hw⟩
    simp only [evE] at hw
    refine ⟨env, O, fp, ok, hw.bind (Same.refl H) (fun _ z => z) fun l hl q vs H1 f1 e1 r1 n1 g1 => ?_⟩
    have hn := evL_len h3 hl
    rw [← hn]
    exact callD_rd (sp2 := 0) ok e1 r1 g1 (by rw [hn]; exact ha) hsc q
  · refine ⟨fun pins s σ H Q I ⟨env, O, fp, ok, hw⟩ => ?_⟩
    simp only [evE] at hw
    cases z : evL G.T es env with
    | ok l =>
      rw [z] at hw
      have hn := evL_len h3 z
      rw [show (Res.ok l >>= fun l => callD (G.T.f i) l) = callD (G.T.f i) l from rfl, callD_bad (by rw [hn]; exact ha)] at hw
      exact hw.elim
    | exc y =>
      -- an argument raises: the call is never made; the arguments' reading tells it
      rw [z] at hw
      have hA := (hs.L g h3)
      have h4 := ckL_noSt h3
      simp only [noSt, List.all_cons, Bool.and_eq_true] at h4
      refine wpAny_Call_Name_kw (ld_glob I (g.gl h2) (by rw [g.hmg]; exact hm) ?_ k2)
      refine PySem.W.callWith_K (h₀ := X.base) I.ok.mod.kin (by rw [g.hK]; exact hk) ?_ (star_cons h4.1) (star_any h4.2)
      refine thn (hA.run pos pins s σ H (fun _ _ => False) I ⟨env, O, fp, ok, ?_⟩) fun us s1 ⟨vs, H1, I1, r, q⟩ => q.elim
      rw [z]
      exact hw
    | bad => rw [z] at hw; exact hw.elim
theorem snd_call {i : Nat} {es : E} (hs : Snd G c k es) : Snd G c k (.call i es) := by
  refine snd_plain (fun {sc Wx X x} g h => ?_) (fun {sc Wx X x} g h => ?_) (fun _ xs => by cases xs <;> rfl) (fun _ o => by cases o <;> rfl)
  all_goals
    cases x <;> first | (simp [ckE] at h; done) | skip
    rename_i fn xs kws pos
    cases fn <;> first | (simp [ckE] at h; done) | skip
    cases xs <;> cases kws <;> first | (simp [ckE] at h; done) | skip
    simp only [ckE] at h
  · exact pe_callO hs g h
  · refine PT.imp (pt_val (pe_callO hs g h)) ?_
    rintro σ H Q ⟨env, O, fp, ok, hw⟩
    refine ⟨env, O, fp, ok, ?_⟩
    simp only [evT] at hw
    simp only [evE]
    refine WG.truth ?_
    cases z : evL G.T es env with
    | ok l => rw [z] at hw; exact hw
    | exc y => rw [z] at hw; exact hw
    | bad => rw [z] at hw; exact hw
/-- the heap h with one object more -/
def extH (h : Heap) (n : Nat) (a : Addr) (oe : Obj) : Heap := { h with objs := Array.ofFn (n := n) fun i => if i.val = a then oe else (h.get? i.val).getD { cls := .none, dict := none, data := .freed } }
theorem heap_ix {h : Heap} {b : Addr} {o : Obj} (e : h.objs[b]? = some o) (nf : o.data ≠ .freed) : h.get? b = some o := by
  unfold Heap.get?
  rw [e]
  obtain ⟨c, d, dt, sl⟩ := o
  cases dt <;> first | rfl | exact absurd rfl nf
theorem heap_nf {h : Heap} {b : Addr} {o : Obj} (e : h.get? b = some o) : h.objs[b]? = some o ∧ o.data ≠ .freed := by
  unfold Heap.get? at e
  split at e
  · cases e
  · rename_i hx
    refine ⟨e, fun z => ?_⟩
    obtain ⟨c, d, dt, sl⟩ := o
    simp only at z
    subst z
    exact hx _ _ _ e
theorem extH_at {h : Heap} {n : Nat} {a : Addr} {oe : Obj} (ha : a < n) (nf : oe.data ≠ .freed) : (extH h n a oe).get? a = some oe := by
  refine heap_ix ?_ nf
  show (Array.ofFn _)[a]? = _
  rw [Array.getElem?_ofFn, dif_pos ha]
  simp
theorem extH_keep {h : Heap} {n : Nat} {a b : Addr} {oe o : Obj} (hn : h.objs.size ≤ n) (hb : b = a → o = oe) (e : h.get? b = some o) : (extH h n a oe).get? b = some o := by
  have hl : b < n := Nat.lt_of_lt_of_le (Heap.lt_size e) hn
  refine heap_ix ?_ (heap_nf e).2
  show (Array.ofFn _)[b]? = _
  rw [Array.getElem?_ofFn, dif_pos hl]
  by_cases z : b = a
  · simp only [z, if_true]
    rw [hb z]
  · simp only [z, if_false]
    rw [e]
    rfl
theorem extH_back {h : Heap} {n : Nat} {a b : Addr} {oe o : Obj} (e : (extH h n a oe).get? b = some o) : (b = a ∧ o = oe) ∨ h.get? b = some o := by
  obtain ⟨e1, e2⟩ := heap_nf e
  replace e1 : (Array.ofFn _)[b]? = some o := e1
  rw [Array.getElem?_ofFn] at e1
  split at e1
  · by_cases z : b = a
    · simp only [z, if_true, Option.some.injEq] at e1
      exact .inl ⟨z, e1.symm⟩
    · simp only [z, if_false, Option.some.injEq] at e1
      cases q : h.get? b with
      | some u =>
        rw [q] at e1
        exact .inr (by rw [← e1]; rfl)
      | none =>
        rw [q] at e1
        rw [← e1] at e2
        exact absurd rfl e2
  · cases e1
theorem mod_ext {K : PySem.W.Frag} {mg : Str → Option Value} {h h' : Heap} (m : Mod K mg h) (k : ∀ b o, h.get? b = some o → h'.get? b = some o) : Mod K mg h' where
  kin := m.kin.keeps k
  glob := m.glob.keeps k
  blt := let ⟨mb, q, r⟩ := m.blt; ⟨mb, q.keeps k, r⟩
  nolimit := m.nolimit.keeps k
theorem env0_ext {P : Program} {w : World} {K : PySem.W.Frag} {mg : Str → Option Value} {base : Heap} {A : Around} {outer : List PySem.Env} {s : Shared} {H : Hp} {a : Addr} {oe : Obj} (e0 : Env0 P w K mg base A outer s H) (ha : s.heap.get? a = some oe) (hf : H a = none) (ho : a ∉ frs outer) :
    (∀ b o, base.get? b = some o → (extH base s.heap.objs.size a oe).get? b = some o) ∧ (extH base s.heap.objs.size a oe).get? a = some oe ∧ Env0 P w K mg (extH base s.heap.objs.size a oe) A outer s H := by
  have k : ∀ b o, base.get? b = some o → (extH base s.heap.objs.size a oe).get? b = some o := fun b o e => extH_keep e0.bsz (fun z => by
    subst z
    have q := (e0.bs _ _ e).1
    rw [ha] at q
    cases q
    rfl) e
  refine ⟨k, extH_at (Heap.lt_size ha) (heap_nf ha).2, ⟨e0.frames, mod_ext e0.mod k, fun b o e => ?_, ?_, ?_, e0.frf, e0.hok, e0.bare⟩⟩
  · rcases extH_back e with ⟨rfl, rfl⟩ | z
    · exact ⟨ha, hf⟩
    · exact e0.bs b o z
  · show (Array.ofFn _).size ≤ _
    rw [Array.size_ofFn]
    exact Nat.le_refl _
  · refine funFrames_none e0.funs fun L hL => ?_
    cases q : (extH base s.heap.objs.size a oe).get? L with
    | none => rfl
    | some o =>
      rcases extH_back q with ⟨rfl, _⟩ | z
      · exact absurd hL ho
      · rw [(e0.funs.mem hL).1] at z
        cases z
/-- a call within an except suite -/
theorem pe_callHo {i : Nat} {es : E} (hs : Snd G c k es) {sc : Scope} {Wx : WX} {X : Cx} {f : Str} {x : Expr} {xs : List Expr} {p pos : Pos} (g : Good G c k sc Wx X)
    (h : (c.hot && decide (i ∈ c.hs) && decide (f = G.fn i) && glB sc f && ckL G c sc es (x :: xs)) = true) : PE X (.Call (.Name f p) (x :: xs) [] pos) (tE G Wx (.callH i es)) := by
  simp only [Bool.and_eq_true, decide_eq_true_eq] at h
  obtain ⟨⟨⟨⟨hh, h1⟩, rfl⟩, h2⟩, h3⟩ := h
  obtain ⟨k1, k2, k3⟩ := glB_ok h2
  obtain ⟨m, a, oe, hg⟩ := g.hotg hh
  obtain ⟨fa, fd, ps, F, hm, hk, hl, hb, hsc⟩ := (g.fnh i h1).ex
  have hA := hs.L g h3
  have h4 := ckL_noSt h3
  simp only [noSt, List.all_cons, Bool.and_eq_true] at h4
  refine ⟨fun pins s σ H Q I ⟨env, O, fp, ok, hw⟩ => ?_⟩
  simp only [evE] at hw
  refine wpAny_Call_Name_kw (ld_glob I (g.gl h2) (by rw [g.hmg]; exact hm) ?_ k2)
  refine PySem.W.callWith_K (h₀ := X.base) I.ok.mod.kin (by rw [g.hK]; exact hk) ?_ (star_cons h4.1) (star_any h4.2)
  by_cases ha : (x :: xs).length ≤ (G.T.f i).ar ∧ (G.T.f i).ar ≤ (x :: xs).length + (G.T.f i).dfl.length
  · refine thn (hA.run pos pins s σ H (fun vs H1 => spD G.C (hotF (G.T.f i)) (vs ++ ((G.T.f i).dfl.drop ((x :: xs).length + (G.T.f i).dfl.length - (G.T.f i).ar)).map scV) H1 Q (WE Wx σ)) I ⟨env, O, fp, ok, hw.bind (Same.refl H) (fun _ z => z) fun l hl q vs H1 f1 e1 r1 n1 g1 => ?_⟩) fun us s1 ⟨vs, H1, I1, r, q⟩ => ?_
    · have hn := evL_len h3 hl
      rw [← hn]
      exact callD_rd (F := hotF (G.T.f i)) (sp2 := 0) ok e1 r1 g1 (by rw [hn]; exact ha) hsc q
    · refine ⟨I1.kIn, ?_⟩
      obtain ⟨us2, B, V⟩ := hb ((x :: xs).length + (G.T.f i).dfl.length - (G.T.f i).ar) (by omega)
      obtain ⟨A1, A2, A3⟩ := hg.at_ I1
      obtain ⟨E1, E2, E3⟩ := env0_ext I1.env0 A1 A2 A3
      have F' : L2H.FnH X.prog X.w X.K X.mg (extH X.base s1.heap.objs.size a oe) (L2N.CX X.prog X.w) k fa fd ps (spD ⟨G.C.K, G.C.cl, some (m, a)⟩ (hotF (G.T.f i))) := by
        rw [g.hP, g.hw, g.hK, g.hmg]
        exact F m a oe _ hg.ob (by rw [← g.hb]; exact E1) E2
      have hC : (⟨G.C.K, G.C.cl, some (m, a)⟩ : Kc) = G.C := by
        have := hg.ex
        cases hh : G.C with
        | mk K cl ex =>
          rw [hh] at this
          simp only at this
          rw [this]
      rw [hC] at F'
      have r2 : Vals (vs ++ ((G.T.f i).dfl.drop ((x :: xs).length + (G.T.f i).dfl.length - (G.T.f i).ar)).map scV) (us ++ us2) := r.append V
      have hl2 : (us ++ us2).length = ps.length := r2.length.symm.trans (F'.len _ _ _ _ q)
      obtain ⟨pp, hot, hp⟩ := hg.hc
      have P1 := I1.pin pp (List.mem_append_left _ hp)
      have hpin : L2H.PinOk X.stack H1 s1 pp := ⟨P1.1, P1.2.1, fun z => (List.mem_cons.mp (I1.stkSub _ z)).elim P1.2.2.1 P1.2.2.2.1, P1.2.2.2.2⟩
      have bd := B s1 us (by rw [← g.hK]; exact I1.kIn) hl2
      refine wpAny_call (codeAny_mono (F'.run X.A X.stack s1 H1 ⟨us, []⟩ (us ++ us2) _ Q (WE Wx σ) pp hg.room hot hpin E3 bd r2 q) fun r s' hq => ?_)
      match r, hq with
      | .error e, hq => exact L2N.passAt g.tk σ pins H1 s1 e s' I1 hq
      | .ok (.ret u), hq => exact I1.after hq
      | .ok .next, hq => exact False.elim hq
      | .ok .brk, hq => exact False.elim hq
      | .ok .cont, hq => exact False.elim hq
  · refine thn (hA.run pos pins s σ H (fun _ _ => False) I ⟨env, O, fp, ok, ?_⟩) fun us s1 ⟨vs, H1, I1, r, q⟩ => q.elim
    cases z : evL G.T es env with
    | ok l =>
      rw [z] at hw
      have hn := evL_len h3 z
      rw [show (Res.ok l >>= fun l => callD (hotF (G.T.f i)) l) = callD (hotF (G.T.f i)) l from rfl, callD_bad (F := hotF (G.T.f i)) (by rw [hn]; exact ha)] at hw
      exact hw.elim
    | exc y =>
      rw [z] at hw
      exact hw
    | bad => rw [z] at hw; exact hw.elim
theorem snd_callH {i : Nat} {es : E} (hs : Snd G c k es) : Snd G c k (.callH i es) := by
  refine snd_plain (fun {sc Wx X x} g h => ?_) (fun {sc Wx X x} g h => ?_) (fun _ xs => by cases xs <;> rfl) (fun _ o => by cases o <;> rfl)
  all_goals
    cases x <;> first | (simp [ckE] at h; done) | skip
    rename_i fn xs kws pos
    cases fn <;> first | (simp [ckE] at h; done) | skip
    cases xs <;> cases kws <;> first | (simp [ckE] at h; done) | skip
    simp only [ckE] at h
  · exact pe_callHo hs g h
  · refine PT.imp (pt_val (pe_callHo hs g h)) ?_
    rintro σ H Q ⟨env, O, fp, ok, hw⟩
    refine ⟨env, O, fp, ok, ?_⟩
    simp only [evT] at hw
    simp only [evE]
    refine WG.truth ?_
    cases z : evL G.T es env with
    | ok l => rw [z] at hw; exact hw
    | exc y => rw [z] at hw; exact hw
    | bad => rw [z] at hw; exact hw
end
end Pv
/-! Pv9: comprehensions; every expression. -/
namespace Pv
open PySem L2 PySem.Spec
abbrev noX : WX := fun _ _ _ _ => False
section
variable {G : Gx} {c : Cn} {k : Nat}
theorem Good.blk {sc : Scope} {Wx : WX} {X : Cx} (g : Good G c k sc Wx X) (hh : c.hot = false) (s : Shared) (H : Hp) (scope : Scope) (D : Addr) (cl : List (Str × Addr)) (fp : List Addr) : Good G c k (relS scope sc) noX (X.blk s H scope (compEnvC scope cl D X.env) fp) where
  hP := g.hP
  hw := g.hw
  hK := g.hK
  hmg := g.hmg
  hb := g.hb
  hN := g.hN
  nd := g.nd
  hsc := by
    rw [← g.hsc]
    rfl
  calm := g.calm
  room := g.room
  tk := fun u s' ⟨_, _, _, _, _, _, _, _, _, _, _, _, _, _, _, _, z⟩ => z
  po := PassesOwn.never
  blt := g.blt
  fns := g.fns
  units := g.units
  fnh := g.fnh
  hotg := fun h => by rw [hh] at h; cases h
  isx := fun h => by rw [hh] at h; cases h
theorem lcD_app {f : D → Res (Option D)} : ∀ {a b r : List D}, lcD f (a ++ b) = .ok r → ∃ r1 r2, lcD f a = .ok r1 ∧ lcD f b = .ok r2 ∧ r = r1 ++ r2
  | [], b, r, h => ⟨[], r, rfl, h, rfl⟩
  | d :: a, b, r, h => by
    simp only [List.cons_append, lcD] at h
    cases z : f d with
    | ok o =>
      rw [z] at h
      cases z2 : lcD f (a ++ b) with
      | ok l =>
        rw [z2] at h
        obtain ⟨r1, r2, h1, h2, h3⟩ := lcD_app z2
        cases o with
        | some x =>
          cases h
          exact ⟨x :: r1, r2, by simp only [lcD, z, h1]; rfl, h2, by rw [h3]; rfl⟩
        | none =>
          cases h
          exact ⟨r1, r2, by simp only [lcD, z, h1]; rfl, h2, h3⟩
      | exc y => rw [z2] at h; cases h
      | bad => rw [z2] at h; cases h
    | exc y => rw [z] at h; cases h
    | bad => rw [z] at h; cases h
theorem lcD_one {f : D → Res (Option D)} {d : D} {r : List D} (h : lcD f [d] = .ok r) : ∃ o, f d = .ok o ∧ r = (match o with | some x => [x] | none => []) := by
  simp only [lcD] at h
  cases z : f d with
  | ok o =>
    rw [z] at h
    cases o <;> cases h <;> exact ⟨_, rfl, rfl⟩
  | exc y => rw [z] at h; cases h
  | bad => rw [z] at h; cases h
theorem lcD_step {f : D → Res (Option D)} {l r : List D} (h : lcD f l = .ok r) {i : Nat} {d : D} (hd : l[i]? = some d) : ∃ ri o, lcD f (l.take i) = .ok ri ∧ f d = .ok o ∧ lcD f (l.take (i + 1)) = .ok (ri ++ match o with | some x => [x] | none => []) := by
  obtain ⟨hi, e⟩ := List.getElem?_eq_some_iff.mp hd
  have e1 : l.take (i + 1) = l.take i ++ [d] := by rw [List.take_succ, hd]; rfl
  have h' := h
  rw [← List.take_append_drop (i + 1) l] at h'
  obtain ⟨r1, r2, h1, _, _⟩ := lcD_app h'
  have h1' := h1
  rw [e1] at h1'
  obtain ⟨ri, ro, h3, h4, h5⟩ := lcD_app h1'
  obtain ⟨o, h6, h7⟩ := lcD_one h4
  exact ⟨ri, o, h3, h6, by rw [h1, h5, h7]⟩
/-- a slot takes what has nothing of its own -/
theorem EnvR.set0 {C : Kc} {B H : Hp} {v : V} {d : D} (r : Rl C B H [] v d []) : ∀ {σ : L2.St} {env : Env} {fp : List Addr} {j : Nat}, EnvR C B H σ env fp → freeE env j = true → EnvR C B H (σ.set j (some v)) (env.set j (some d)) fp
  | _, _, _, _, .nil, _ => .nil
  | _, _, _, 0, .skip h, _ => .put (fq := []) r h
  | _, _, _, j + 1, .skip h, e => .skip (EnvR.set0 r h e)
  | _, _, _, 0, .put (fq := fq) r1 h, e => by
    have z := r1.nown e
    subst z
    exact .put (fq := []) r h
  | _, _, _, j + 1, .put r1 h, e => .put r1 (EnvR.set0 r h e)
theorem fold_ck {sc : Scope} {e : E} {x : Expr} {env : PySem.Env} (h : ckE G c sc e x = true) : ∀ y, foldedSetIterable x env y = pure y := by
  intro y
  cases x <;> first | rfl | (cases e <;> simp [ckE] at h)
abbrev lcF (T : Tb) (t e : E) (env : Env) (j : Nat) : D → Res (Option D) := fun d => do if (← evC T t (env.set j (some d))) then return some (fz (← evE T e (env.set j (some d)))) else return none
/-- one turn of a comprehension: the word between the turns -/
structure LcW (C : Kc) (os W : List Addr) (f : D → Res (Option D)) (items : List D) (H1 : Hp) (Dl : Addr) (i : Nat) (H' : Hp) : Prop where
  same : Same H1 H'
  ex : ∃ acc ri, lcD f (items.take i) = .ok ri ∧ H' Dl = some (.lst acc) ∧ RlL C (cut H' (Dl :: os)) H' W acc ri [] ∧ acc.length ≤ i
theorem LcW.start {C : Kc} {os W : List Addr} {f : D → Res (Option D)} {items : List D} {H1 : Hp} {Dl : Addr} (hD : H1 Dl = none) : LcW C os W f items H1 Dl 0 (upd H1 Dl (.lst [])) :=
  ⟨same_new hD, [], [], rfl, upd_same, .nil, Nat.le_refl _⟩
/-- the turn itself -/
theorem lc_turn {e t : E} {env : Env} {O fp : List Addr} {σ : L2.St} {H1 H' : Hp} {Dl : Addr} {items r : List D} {j i : Nat} {v : V} {d : D} (ok : OkF G.C O env σ H1 fp) (hD : H1 Dl = none) (fr : freeE env j = true)
    (hr : lcD (lcF G.T t e env j) items = .ok r) (hd : items[i]? = some d) (rd : Rl G.C (cut H1 (fp ++ O)) H1 [] v d []) (hi : i < 16777216)
    (w : LcW G.C (fp ++ O) fp (lcF G.T t e env j) items H1 Dl i H') :
    wipe ((wipe σ [j]).set j (some v)) [j] = wipe σ [j] ∧ tB1 G noX (evC G.T t) ((wipe σ [j]).set j (some v)) H' fun b H3 =>
      if b = true then tE G noX e ((wipe σ [j]).set j (some v)) H3 fun y H4 => ∃ acc, H4 Dl = some (.lst acc) ∧ acc.length < sizeLine ∧ LcW G.C (fp ++ O) fp (lcF G.T t e env j) items H1 Dl (i + 1) (upd H4 Dl (.lst (acc ++ [y])))
      else LcW G.C (fp ++ O) fp (lcF G.T t e env j) items H1 Dl (i + 1) H3 := by
  obtain ⟨ri, o, h1, h2, h3⟩ := lcD_step hr hd
  obtain ⟨sm, acc, ri', h1', hac, ra, hl⟩ := w
  rw [h1] at h1'
  cases h1'
  have es : (wipe σ [j]).set j (some v) = σ.set j (some v) := by
    show ((σ.set j none).set j (some v)) = _
    rw [List.set_set]
  have okW : ∀ {H3 : Hp}, Same H' H3 → OkF G.C (Dl :: O) (env.set j (some d)) (σ.set j (some v)) H3 fp := fun {H3} e3 => by
    have s3 := sm.trans e3
    have od : ∀ a ∈ fp ++ O, H1 a ≠ none := fun a ha z => by
      obtain ⟨o, q⟩ := ok.osd a ha
      rw [z] at q; cases q
    refine ⟨(EnvR.set0 rd ok.rel fr).mono (cutS s3 fun a ha => ?_) s3, ok.nd, fun a ha z => ?_, fun a ha => ?_⟩
    · rcases List.mem_append.mp ha with ha | ha
      · exact .inl (List.mem_append_left _ ha)
      · rcases List.mem_cons.mp ha with ha | ha
        · subst ha; exact .inr hD
        · exact .inl (List.mem_append_right _ ha)
    · rcases List.mem_cons.mp z with z | z
      · subst z; exact od a (List.mem_append_left _ ha) hD
      · exact ok.dj a ha z
    · rcases List.mem_cons.mp ha with ha | ha
      · subst ha; exact ⟨_, e3 _ _ hac⟩
      · obtain ⟨o, q⟩ := ok.od a ha
        exact ⟨o, s3 a o q⟩
  refine ⟨?_, ?_⟩
  · show ((((σ.set j none).set j (some v))).set j none) = σ.set j none
    rw [List.set_set, List.set_set]
  rw [es]
  refine ⟨env.set j (some d), Dl :: O, fp, okW (Same.refl _), ?_⟩
  dsimp only [lcF] at h2
  cases zc : evC G.T t (env.set j (some d)) with
  | exc y => rw [zc] at h2; cases h2
  | bad => rw [zc] at h2; cases h2
  | ok b =>
    rw [zc] at h2
    intro H3 e3
    cases b with
    | false =>
      cases h2
      refine iteF ⟨sm.trans e3, acc, ri, ?_, e3 _ _ hac, ra.mono (cut_mono e3) e3, by omega⟩
      rw [h3]
      show Res.ok (ri ++ []) = _
      rw [List.append_nil]
    | true =>
      have h2' : (do return some (fz (← evE G.T e (env.set j (some d))))) = Res.ok o := h2
      refine iteT ⟨env.set j (some d), Dl :: O, fp, okW e3, ?_⟩
      cases ze : evE G.T e (env.set j (some d)) with
      | exc y => rw [ze] at h2'; cases h2'
      | bad => rw [ze] at h2'; cases h2'
      | ok de =>
        rw [ze] at h2'
        cases h2'
        intro y H4 f4 e4 r4 n4 g4
        have e34 := e3.trans e4
        have sub : ∀ a ∈ Dl :: (fp ++ O), a ∈ f4 ++ (fp ++ (Dl :: O)) := fun a ha => List.mem_append_right _ (by
          rcases List.mem_cons.mp ha with ha | ha
          · exact List.mem_append_right _ (List.mem_cons.mpr (.inl ha))
          · rcases List.mem_append.mp ha with ha | ha
            · exact List.mem_append_left _ ha
            · exact List.mem_append_right _ (List.mem_cons_of_mem _ ha))
        have n4' : ∀ a ∈ f4, a ∉ Dl :: (fp ++ O) := fun a ha z => by
          have q := g4 a ha
          rcases List.mem_cons.mp z with z | z
          · subst z; rw [e3 _ _ hac] at q; cases q
          · obtain ⟨o, w⟩ := ok.osd a z
            rw [(sm.trans e3) a o w] at q; cases q
        have ry : Rl G.C (cut H4 (Dl :: (fp ++ O))) H4 fp y (fz de) [] := r4.froze (fq := []) (Same.refl _) sub n4' fun _ z => (List.not_mem_nil z).elim
        refine ⟨acc, e34 _ _ hac, Nat.lt_of_le_of_lt hl (by rw [sizeLine_eq]; exact hi), ⟨?_, acc ++ [y], ri ++ [fz de], ?_, upd_same, ?_, by rw [List.length_append]; simp only [List.length_cons, List.length_nil]; omega⟩⟩
        · intro a u hu
          rw [upd_ne (ne_of_none hu hD)]
          exact (sm.trans e34) a u hu
        · exact h3
        · have key := RlL.app (ra.mono (cut_mono e34) e34) (.cons (fq := []) ry .nil)
          refine key.hm (by rw [cut_upd (List.mem_cons_self)]; exact Same.refl _) (fun a ha u hu => ?_) fun _ z => (List.not_mem_nil z).elim
          rw [upd_ne]
          · exact hu
          · intro z
            subst z
            obtain ⟨o, w⟩ := ok.fd a ha
            rw [hD] at w; cases w
/-- the end -/
theorem lc_end {f : D → Res (Option D)} {items r : List D} {os W : List Addr} {H H1 H' : Hp} {Dl : Addr} {n : Nat} {Q : VK} (e1 : Same H H1) (hD : H1 Dl = none) (hr : lcD f items = .ok r) (hn : items.length ≤ n)
    (w : LcW G.C os W f items H1 Dl n H') (q : VR G.C os W H (.lst .own r) Q) : Q (.ref Dl) H' := by
  obtain ⟨sm, acc, ri, h1, hac, ra, _⟩ := w
  rw [List.take_of_length_le hn, hr] at h1
  cases h1
  refine q (.ref Dl) H' [Dl] (e1.trans sm) (.lstO (fp := []) hac ra) (by simp) fun a ha => ?_
  have e : a = Dl := by simpa using ha
  subst e
  exact fresh_b e1 hD
theorem RlL.getV {C : Kc} {B H : Hp} {W : List Addr} : ∀ {vs : List V} {ds : List D} {i : Nat} {v : V}, RlL C B H W vs ds [] → vs[i]? = some v → ∃ d, ds[i]? = some d ∧ Rl C B H W v d []
  | [], _, i, v, _, h => by simp at h
  | x :: vs, [], i, v, l, h => nomatch l
  | x :: vs, d :: ds, i, v, l, h => by
    generalize hf : ([] : List Addr) = f at l
    cases l with
    | cons r l =>
      obtain ⟨e1, e2⟩ := List.append_eq_nil_iff.mp hf.symm
      subst e1 e2
      cases i with
      | zero =>
        simp at h
        subst h
        exact ⟨d, rfl, r⟩
      | succ i => exact RlL.getV (i := i) l (by simpa using h)
theorem okO_ok {α β : Type} {r : Res α} {f : α → Res β} {C : Kc} {os : List Addr} {Wx : WX} {σ : L2.St} {H : Hp} {P : β → Prop} (h : WG C os Wx σ H (okO r >>= f) P) : ∃ a, r = .ok a ∧ WG C os Wx σ H (f a) P := by
  cases r with
  | ok a => exact ⟨a, rfl, h⟩
  | exc x => exact (show False from h).elim
  | bad => exact (show False from h).elim
theorem rngD_len (n : Int) : (rngD n).length = n.toNat := by
  unfold rngD
  rw [List.length_map, List.length_range]
theorem rngD_get {n : Int} {i : Nat} (h : i < n.toNat) : (rngD n)[i]? = some (.int (i : Int)) := by
  unfold rngD
  rw [List.getElem?_map, List.getElem?_range h]
  rfl
theorem lc_rd {j : Nat} {src t e : E} {Wx : WX} {K : Frag} (hK : K = G.C.K) (σ : L2.St) (H : Hp) (Q : VK) (h : tE G Wx (.lc j src t e) σ H Q) : tLc (iList K (tE G Wx src)) (gName j) (tB1 G noX (evC G.T t)) (tE G noX e) [j] σ H Q := by
  obtain ⟨env, O, fp, ok, hw⟩ := h
  simp only [evE] at hw
  refine one ok hw fun x v H1 f1 e1 r1 g1 q => ?_
  cases x <;> first | (exact (show False from q).elim) | skip
  rename_i m l
  obtain ⟨a, vs, gg, rfl, hl, _, ll, hgg⟩ := r1.lst_inv
  obtain ⟨r, hr, q⟩ := okO_ok q
  by_cases hc : (amL noBrwM l && lineOk l.length && freeE env j) = true
  · rw [if_pos hc] at q
    simp only [Bool.and_eq_true] at hc
    obtain ⟨⟨c1, c2⟩, c3⟩ := hc
    have nf := ok.nf g1
    have fr := (ll.keep (W' := []) (Same.refl _) c1 fun _ _ _ z => z).froze (os' := fp ++ O) (fq := []) (Same.refl _) (fun b hb => List.mem_append_right _ hb) (fun b hb => nf b (hgg b hb)) fun _ z => (List.not_mem_nil z).elim
    have ok1 := ok.grow e1
    have hlen : vs.length < 16777216 := by rw [ll.len]; exact Nat.lt_of_lt_of_le (line_lt c2) (by rw [sizeLine_eq]; exact Nat.le_refl _)
    refine ⟨a, rfl, ⟨vs, by rw [hK]; exact hl⟩, fun Dl hD => lc_list (xs := vs) (LcW G.C (fp ++ O) fp (lcF G.T t e env j) (mpL fzM l) H1 Dl) (LcW.start hD) (fun i H' _ w => by rw [hK]; exact Same.sqL w.same hl) (fun i x H' hx w => ?_) fun H' w => ?_⟩
    · obtain ⟨d, hd, rd⟩ := fr.getV hx
      exact lc_turn ok1 hD c3 hr hd rd (Nat.lt_trans (List.getElem?_eq_some_iff.mp hx).1 hlen) w
    · exact lc_end e1 hD hr (by rw [mpL_eq, List.length_map, ll.len]; exact Nat.le_refl _) w q
  · rw [if_neg hc] at q
    exact (show False from q).elim
theorem lcr_rd {j : Nat} {src t e : E} {Wx : WX} (σ : L2.St) (H : Hp) (Q : VK) (h : tE G Wx (.lcr j src t e) σ H Q) : tLc (iRng1 (tCons (tE G Wx src) tNil)) (gName j) (tB1 G noX (evC G.T t)) (tE G noX e) [j] σ H Q := by
  obtain ⟨env, O, fp, ok, hw⟩ := h
  simp only [evE] at hw
  refine one ok hw fun x v H1 f1 e1 r1 g1 q => ?_
  cases x <;> first | (exact (show False from q).elim) | skip
  rename_i n
  obtain ⟨rfl, _⟩ := r1.int_inv
  obtain ⟨r, hr, q⟩ := okO_ok q
  by_cases hc : (decide (n.natAbs < 1000000) && freeE env j) = true
  · rw [if_pos hc] at q
    simp only [Bool.and_eq_true, decide_eq_true_eq] at hc
    obtain ⟨c1, c3⟩ := hc
    have ok1 := ok.grow e1
    refine ⟨n, rfl, by omega, by omega, fun Dl hD => lc_range (lo := 0) (n := n.toNat) (LcW G.C (fp ++ O) fp (lcF G.T t e env j) (rngD n) H1 Dl) (LcW.start hD) (fun i H' hi w => ?_) fun H' w => ?_⟩
    · have e0 : (0 : Int) + (i : Int) = (i : Int) := Int.zero_add _
      rw [e0]
      exact lc_turn ok1 hD c3 hr (rngD_get hi) (.int _) (by omega) w
    · exact lc_end e1 hD hr (by rw [rngD_len]; exact Nat.le_refl _) w q
  · rw [if_neg hc] at q
    exact (show False from q).elim
theorem snd_lc {j : Nat} {src t e : E} (hsrc : Snd G c k src) (ht : Snd G c k t) (he : Snd G c k e) : Snd G c k (.lc j src t e) := by
  refine snd_plain (fun {sc Wx X x} g h => ?_) (fun {sc Wx X x} g h => pt_bad fun _ => by simp only [evT]) (fun _ xs => by cases xs <;> rfl) (fun _ o => by cases o <;> rfl)
  cases x <;> first | (simp [ckE] at h; done) | skip
  rename_i elt gens scope pos
  match gens, h with
  | [⟨.Name x p, iter, ifs, 0⟩], h =>
    simp only [ckE, Bool.and_eq_true, Bool.not_eq_true', decide_eq_true_eq] at h
    obtain ⟨⟨⟨⟨⟨⟨hh, h1⟩, h2⟩, h3⟩, h4⟩, h5⟩, h6⟩ := h
    have bk := blkOk_by h2
    have hj : c.N[j]? = some x := bk.ix (x, j) (by simp)
    refine PE.imp (pe_lc (own := [(x, j)]) (g := gName j) (g.calm hh) (by rw [g.hN]; exact g.nd) (pi_list (hsrc.E g h1)) (by rw [g.hN, g.hsc]; exact bk)
      (fun s H D cl fp => pg_name (i := j) (by rw [(g.blk hh s H scope D cl fp).hN]; exact g.nd) (by rw [(g.blk hh s H scope D cl fp).hN]; exact hj) (.inl (by rw [(g.blk hh s H scope D cl fp).hsc]; exact h3)) (.inr (by rw [(g.blk hh s H scope D cl fp).hsc]; exact h3)))
      (fun s H D cl fp => ht.I (g.blk hh s H scope D cl fp) h4 h5) (fun s H D cl fp => he.E (g.blk hh s H scope D cl fp) h6) (fold_ck h1)) ?_
    exact lc_rd g.hK
theorem snd_lcr {j : Nat} {src t e : E} (hsrc : Snd G c k src) (ht : Snd G c k t) (he : Snd G c k e) : Snd G c k (.lcr j src t e) := by
  refine snd_plain (fun {sc Wx X x} g h => ?_) (fun {sc Wx X x} g h => pt_bad fun _ => by simp only [evT]) (fun _ xs => by cases xs <;> rfl) (fun _ o => by cases o <;> rfl)
  cases x <;> first | (simp [ckE] at h; done) | skip
  rename_i elt gens scope pos
  match gens, h with
  | [⟨.Name x p, .Call (.Name rn rp) [a] [] cpos, ifs, 0⟩], h =>
    simp only [ckE, Bool.and_eq_true, Bool.not_eq_true', decide_eq_true_eq] at h
    obtain ⟨⟨⟨⟨⟨⟨⟨⟨hh, rfl⟩, hg⟩, h1⟩, h2⟩, h3⟩, h4⟩, h5⟩, h6⟩ := h
    have bk := blkOk_by h2
    have hj : c.N[j]? = some x := bk.ix (x, j) (by simp)
    refine PE.imp (pe_lc (own := [(x, j)]) (g := gName j) (g.calm hh) (by rw [g.hN]; exact g.nd) (pi_range1 (g.gl hg) (g.mgN (by simp [bltNames])) (pa_cons (hsrc.E g h1) pa_nil (star_cons (ck_notSt h1))) (star_cons (ck_notSt h1))) (by rw [g.hN, g.hsc]; exact bk)
      (fun s H D cl fp => pg_name (i := j) (by rw [(g.blk hh s H scope D cl fp).hN]; exact g.nd) (by rw [(g.blk hh s H scope D cl fp).hN]; exact hj) (.inl (by rw [(g.blk hh s H scope D cl fp).hsc]; exact h3)) (.inr (by rw [(g.blk hh s H scope D cl fp).hsc]; exact h3)))
      (fun s H D cl fp => ht.I (g.blk hh s H scope D cl fp) h4 h5) (fun s H D cl fp => he.E (g.blk hh s H scope D cl fp) h6)) ?_
    exact lcr_rd
theorem snd_isx {i n : Nat} : Snd G c k (.isx i n) := by
  refine snd_plain (fun {sc Wx X x} g h => ?_) (fun {sc Wx X x} g h => ?_) (fun _ xs => by cases xs <;> rfl) (fun _ o => by cases o <;> rfl)
  all_goals
    have h' := h
    cases x <;> first | (simp [ckE] at h; done) | skip
    rename_i fn xs kws pos
    cases fn <;> first | (simp [ckE] at h; done) | skip
    match xs, kws, h, h' with
    | [.Name x1 p1, .Name m p2], [], h, h' => ?_
    simp only [ckE, Bool.and_eq_true] at h
    have pe := g.isx h.1.1.1.1.1.1.1.1 (.isx i n) _ rfl h'
  · exact pe
  · refine PT.imp (pt_val pe) ?_
    rintro σ H Q ⟨env, O, fp, ok, hw⟩
    refine ⟨env, O, fp, ok, ?_⟩
    simp only [evT] at hw
    simp only [evE]
    cases z : getE env i with
    | ok d =>
      rw [z] at hw
      show WG G.C (fp ++ O) Wx σ H (do return D.bl (← isxD G.T n d)) _
      have hw' : WG G.C (fp ++ O) Wx σ H (isxD G.T n d) fun d => ∀ H', Same H H' → Q d H' := hw
      cases z2 : isxD G.T n d with
      | ok b =>
        rw [z2] at hw'
        intro v H1 fq e1 r1 _ _
        obtain ⟨rfl, _⟩ := r1.bl_inv
        exact ⟨_, rfl, hw' H1 e1⟩
      | exc y => rw [z2] at hw'; exact hw'
      | bad => rw [z2] at hw'; exact hw'
    | exc y => rw [z] at hw; exact hw
    | bad => rw [z] at hw; exact hw
theorem snd_isv {i : Nat} : Snd G c k (.isv i) := by
  refine snd_plain (fun {sc Wx X x} g h => ?_) (fun {sc Wx X x} g h => ?_) (fun _ xs => by cases xs <;> rfl) (fun _ o => by cases o <;> rfl)
  all_goals
    have h' := h
    cases x <;> first | (simp [ckE] at h; done) | skip
    rename_i fn xs kws pos
    cases fn <;> first | (simp [ckE] at h; done) | skip
    match xs, kws, h, h' with
    | [.Name x1 p1, .Name m p2], [], h, h' => ?_
    simp only [ckE, Bool.and_eq_true] at h
    have pe := g.isx h.1.1.1.1.1.1.1 (.isv i) _ rfl h'
  · exact pe
  · refine PT.imp (pt_val pe) ?_
    rintro σ H Q ⟨env, O, fp, ok, hw⟩
    refine ⟨env, O, fp, ok, ?_⟩
    simp only [evT] at hw
    simp only [evE]
    cases z : getE env i with
    | ok d =>
      rw [z] at hw
      show WG G.C (fp ++ O) Wx σ H (do return D.bl (← isvD d)) _
      have hw' : WG G.C (fp ++ O) Wx σ H (isvD d) fun d => ∀ H', Same H H' → Q d H' := hw
      cases z2 : isvD d with
      | ok b =>
        rw [z2] at hw'
        intro v H1 fq e1 r1 _ _
        obtain ⟨rfl, _⟩ := r1.bl_inv
        exact ⟨_, rfl, hw' H1 e1⟩
      | exc y => rw [z2] at hw'; exact hw'
      | bad => rw [z2] at hw'; exact hw'
    | exc y => rw [z] at hw; exact hw
    | bad => rw [z] at hw; exact hw
theorem snd_isxs {i : Nat} {ns : List Nat} : Snd G c k (.isxs i ns) := by
  refine snd_plain (fun {sc Wx X x} g h => ?_) (fun {sc Wx X x} g h => ?_) (fun _ xs => by cases xs <;> rfl) (fun _ o => by cases o <;> rfl)
  all_goals
    have h' := h
    cases x <;> first | (simp [ckE] at h; done) | skip
    rename_i fn xs kws pos
    cases fn <;> first | (simp [ckE] at h; done) | skip
    match xs, kws, h, h' with
    | [.Name x1 p1, .Tuple ys tc p2], [], h, h' => ?_
    simp only [ckE, Bool.and_eq_true] at h
    have pe := g.isx h.1.1.1.1.1.1.1 (.isxs i ns) _ rfl h'
  · exact pe
  · refine PT.imp (pt_val pe) ?_
    rintro σ H Q ⟨env, O, fp, ok, hw⟩
    refine ⟨env, O, fp, ok, ?_⟩
    simp only [evT] at hw
    simp only [evE]
    cases z : getE env i with
    | ok d =>
      rw [z] at hw
      show WG G.C (fp ++ O) Wx σ H (do return D.bl (← isxsD G.T ns d)) _
      have hw' : WG G.C (fp ++ O) Wx σ H (isxsD G.T ns d) fun d => ∀ H', Same H H' → Q d H' := hw
      cases z2 : isxsD G.T ns d with
      | ok b =>
        rw [z2] at hw'
        intro v H1 fq e1 r1 _ _
        obtain ⟨rfl, _⟩ := r1.bl_inv
        exact ⟨_, rfl, hw' H1 e1⟩
      | exc y => rw [z2] at hw'; exact hw'
      | bad => rw [z2] at hw'; exact hw'
    | exc y => rw [z] at hw; exact hw
    | bad => rw [z] at hw; exact hw
theorem snd (e : E) : Snd G c k e := by
  induction e with
  | var i => exact snd_var i
  | int n => exact snd_int n
  | str s => exact snd_str s
  | bl b => exact snd_bl b
  | non => exact snd_non
  | bin o a b ha hb => exact snd_bin ha hb
  | neg a ha => exact snd_neg ha
  | cmp o a b ha hb => exact snd_cmp ha hb
  | nt a ha => exact snd_nt ha
  | and a ha => exact snd_and ha
  | or a ha => exact snd_or ha
  | ife t a b ht ha hb => exact snd_ife ht ha hb
  | tup a ha => exact snd_tup ha
  | lst a ha => exact snd_lst ha
  | nil => exact snd_nil
  | cons a b ha hb => exact snd_cons ha hb
  | ix a b ha hb => exact snd_ix ha hb
  | sl a b d ha hb hd => exact snd_sl ha hb hd
  | call i a ha => exact snd_call ha
  | blt f a ha => exact snd_blt ha
  | isi a t ha => exact snd_isi ha
  | lc j a b d ha hb hd => exact snd_lc ha hb hd
  | lcr j a b d ha hb hd => exact snd_lcr ha hb hd
  | isx i n => exact snd_isx
  | isv i => exact snd_isv
  | isxs i ns => exact snd_isxs
  | callH i a ha => exact snd_callH ha
end
end Pv
/-! Pv10: statements. -/
namespace Pv
open PySem L2 PySem.Spec

/-- what a statement leaves -/
def OS (G : Gx) (Wx : WX) (O : List Addr) (H0 : Hp) (Z : Ends) : Out → Prop
  | .nx env => ∀ σ' H' fp', OkF G.C O env σ' H' fp' → Same H0 H' → (∀ a ∈ fp', H0 a = none) → Z.nx σ' H'
  | .ret d => VR G.C O [] H0 d Z.rt
  | .brk env => ∀ σ' H' fp', OkF G.C O env σ' H' fp' → Same H0 H' → (∀ a ∈ fp', H0 a = none) → Z.bk σ' H'
  | .cnt env => ∀ σ' H' fp', OkF G.C O env σ' H' fp' → Same H0 H' → (∀ a ∈ fp', H0 a = none) → Z.ct σ' H'
  | .exc x env => ∀ cls dx σ' H' fp', OkF G.C O env σ' H' fp' → Same H0 H' → (∀ a ∈ fp', H0 a = none) → RlX G.C (cut H' (fp' ++ O)) cls dx x → Wx cls dx σ' H'
  | .bad => False
def tS (G : Gx) (Wx : WX) (f : Env → Out) : TS := fun Z σ H => ∃ env O H0 fp, OkF G.C O env σ H fp ∧ Same H0 H ∧ (∀ a ∈ fp, H0 a = none) ∧ OS G Wx O H0 Z (f env)
theorem PS.imp {X : Cx} {e : Stmt} {t t' : TS} (h : PS X e t) (i : ∀ D σ H, t' D σ H → t D σ H) : PS X e t' := ⟨fun pins s σ H D I q => h.run pins s σ H D I (i D σ H q)⟩
theorem PSs.imp {X : Cx} {e : List Stmt} {t t' : TS} (h : PSs X e t) (i : ∀ D σ H, t' D σ H → t D σ H) : PSs X e t' := ⟨fun pins s σ H D I q => h.run pins s σ H D I (i D σ H q)⟩
section
variable {G : Gx} {c : Cn} {k : Nat} {O H0' fp : List Addr} {H0 H : Hp} {σ : L2.St} {env : Env} {Wx : WX} {Z : Ends}
/-- an expression ahead -/
theorem OS.out {α : Type} {r : Res α} {f : α → Out} (h : OS G Wx O H0 Z (r.out env f)) (ok : OkF G.C O env σ H fp) (s0 : Same H0 H) (n0 : ∀ a ∈ fp, H0 a = none) : WG G.C (fp ++ O) Wx σ H r fun a => OS G Wx O H0 Z (f a) := by
  cases r with
  | ok a => exact h
  | exc x => exact fun cls dx H' e r => h cls dx σ H' fp (ok.grow e) (s0.trans e) n0 r
  | bad => exact h
theorem EnvR.setP {C : Kc} {B H : Hp} {v : V} {d : D} {fq : List Addr} (r : Rl C B H [] v d fq) (nq : fq.Nodup) : ∀ {σ : L2.St} {env : Env} {fp : List Addr} {i : Nat}, EnvR C B H σ env fp → i < env.length → (∀ a ∈ fq, a ∉ fp) → fp.Nodup → ∃ fp', EnvR C B H (σ.set i (some v)) (env.set i (some d)) fp' ∧ (∀ a ∈ fp', a ∈ fq ∨ a ∈ fp) ∧ fp'.Nodup
  | _, _, _, i, .nil, h, _, _ => by simp at h
  | _, _, _, 0, .skip (fp := fp) e, h, dj, nd => ⟨fq ++ fp, .put r e, fun a ha => List.mem_append.mp ha, List.nodup_append.mpr ⟨nq, nd, fun a ha b hb e => dj a ha (e ▸ hb)⟩⟩
  | _, _, _, 0, .put (fq := f0) (fp := fp) r0 e, h, dj, nd => by
    have nd' := (List.nodup_append.mp nd).2.1
    exact ⟨fq ++ fp, .put r e, fun a ha => (List.mem_append.mp ha).imp id (List.mem_append_right _), List.nodup_append.mpr ⟨nq, nd', fun a ha b hb e => dj a ha (List.mem_append_right _ (e ▸ hb))⟩⟩
  | _, _, _, i + 1, .skip e, h, dj, nd => by
    obtain ⟨fp', h1, h2, h3⟩ := EnvR.setP r nq (i := i) e (by simpa using h) dj nd
    exact ⟨fp', .skip h1, h2, h3⟩
  | _, _, _, i + 1, .put (fq := f0) (fp := fp) r0 e, h, dj, nd => by
    obtain ⟨n1, n2, n3⟩ := List.nodup_append.mp nd
    obtain ⟨fp', h1, h2, h3⟩ := EnvR.setP r nq (i := i) e (by simpa using h) (fun a ha z => dj a ha (List.mem_append_right _ z)) n2
    refine ⟨f0 ++ fp', .put r0 h1, fun a ha => ?_, List.nodup_append.mpr ⟨n1, h3, fun a ha b hb e => ?_⟩⟩
    · rcases List.mem_append.mp ha with ha | ha
      · exact .inr (List.mem_append_left _ ha)
      · exact (h2 a ha).imp id (List.mem_append_right _)
    · subst e
      rcases h2 a hb with z | z
      · exact dj a z (List.mem_append_left _ ha)
      · exact n3 a ha a z rfl
/-- a value is stored at a slot -/
theorem OkF.put {C : Kc} {O fp fq : List Addr} {env : Env} {σ : L2.St} {H H' : Hp} {v : V} {d : D} {i : Nat} {W : List Addr} (ok : OkF C O env σ H fp) (e : Same H H') (r : Rl C (cut H' (fq ++ (fp ++ O))) H' W v d fq) (nq : fq.Nodup) (hf : ∀ a ∈ fq, H a = none)
    (nb : noBrw d = true) (hi : i < env.length) : ∃ fp', OkF C O (env.set i (some d)) (σ.set i (some v)) H' fp' ∧ ∀ a ∈ fp', a ∈ fq ∨ a ∈ fp := by
  have r' : Rl C (cut H' (fq ++ (fp ++ O))) H' [] v d fq := r.keep (Same.refl _) nb fun _ _ _ z => z
  have nf := ok.nf hf
  obtain ⟨fp', h1, h2, h3⟩ := EnvR.setP r' nq (ok.rel.mono (cut_fresh e hf) e) hi (fun a ha z => nf a ha (List.mem_append_left _ z)) ok.nd
  refine ⟨fp', ⟨h1.mono (cut_sub fun a ha => ?_) (Same.refl _), h3, fun a ha z => ?_, fun a ha => ?_⟩, h2⟩
  · rcases List.mem_append.mp ha with ha | ha
    · exact (h2 a ha).elim (List.mem_append_left _) fun z => List.mem_append_right _ (List.mem_append_left _ z)
    · exact List.mem_append_right _ (List.mem_append_right _ ha)
  · rcases h2 a ha with y | y
    · exact nf a y (List.mem_append_right _ z)
    · exact ok.dj a y z
  · obtain ⟨o, q⟩ := ok.od a ha
    exact ⟨o, e a o q⟩
theorem putE_nx {env env' : Env} {i : Nat} {d : D} {P : Out → Prop} (h : P (putE env i d)) (hb : ¬ P .bad) : noBrw d = true ∧ i < env.length ∧ P (.nx (env.set i (some d))) := by
  unfold putE at h
  split at h
  · rename_i hc
    simp only [Bool.and_eq_true, decide_eq_true_eq] at hc
    exact ⟨hc.1, hc.2, h⟩
  · exact absurd h hb
theorem OS.put {H' : Hp} {fq W : List Addr} {v : V} {d : D} {i : Nat} (h : OS G Wx O H0 Z (putE env i d)) (ok : OkF G.C O env σ H fp) (s0 : Same H0 H) (n0 : ∀ a ∈ fp, H0 a = none) (e : Same H H') (r : Rl G.C (cut H' (fq ++ (fp ++ O))) H' W v d fq) (nq : fq.Nodup) (hf : ∀ a ∈ fq, H a = none)   : Z.nx (σ.set i (some v)) H' := by
  obtain ⟨h1, h2, h3⟩ := putE_nx (env' := env) (P := OS G Wx O H0 Z) h (fun z => z)
  obtain ⟨fp', ok', hs⟩ := ok.put e r nq hf h1 h2
  exact h3 _ _ fp' ok' (s0.trans e) fun a ha => (hs a ha).elim (fun z => fresh_b s0 (hf a z)) (n0 a)
end
/-! ### the text -/
def locB (sc : Scope) (x : Str) : Bool := match sc.names.lookup x with
  | some .local => true
  | some .cell => true
  | _ => false
def isLC : Expr → Bool
  | .ListComp _ _ _ _ => true
  | _ => false
def isTup : Expr → Bool
  | .Tuple _ _ _ => true
  | _ => false
def ckN (c : Cn) (sc : Scope) : List Nat → List Expr → Bool
  | [], [] => true
  | i :: is, .Name x _ :: xs => decide (c.N[i]? = some x) && locB sc x && ckN c sc is xs
  | _, _ => false
def ckTg (c : Cn) (sc : Scope) : List Nat → Expr → Bool
  | [i], .Name x _ => decide (c.N[i]? = some x) && locB sc x
  | i :: j :: is, .Tuple xs _ _ => ckN c sc (i :: j :: is) xs
  | _, _ => false
/-- the comprehension that is stored at once -/
def lcB (sc : Scope) (x : Str) (p : Pos) (l : Nat) : Expr → Bool
  | .ListComp _ _ scope pos => (match sc.names.lookup x with
    | some .local => (p.line == pos.line) && !(scope.names.any fun (n, k) => n == x && (k == .local || k == .cell))
    | some .cell => true
    | _ => false)
  | _ => true
mutual
def ck1 (G : Gt) (c : Cn) (sc : Scope) : S → Stmt → Bool
  | .asg i e, .Assign [.Name x p] v pos => decide (c.N[i]? = some x) && locB sc x && lcB sc x p pos.line v && ckE G c sc e v
  | .asgT is e, .Assign [.Tuple xs _ _] v _ => !c.hot && ckN c sc is xs && !isTup v && !isLC v && ckE G c sc e v
  | .exp e, .Expr v _ => !isLC v && ckE G c sc e v
  | .app i e, .Expr (.Call (.Attribute (.Name x _) m ap) [v] [] cp) _ => decide (c.N[i]? = some x) && visB sc x && nmB x && decide (m = ("append" : Str)) && (ap.endLine == cp.line) && ckE G c sc e v
  | .aug i o e, .AugAssign (.Name x _) o' v _ => decide (c.N[i]? = some x) && locB sc x && decide (o = o') && (match o with | .Add => true | .Sub => true | _ => false) && ckE G c sc e v
  | .ret e, .Return (some v) _ => ckE G c sc e v
  | .retN, .Return none _ => true
  | .retV i, .Return (some (.Name x _)) _ => decide (c.N[i]? = some x) && visB sc x && nmB x
  | .ife t a b, .If z xs ys _ => ckE G c sc t z && ckS G c sc a xs && ckS G c sc b ys
  | .forL is src b, .For tg iter xs [] _ => !c.hot && ckTg c sc is tg && ckE G c sc src iter && ckS G c sc b xs
  | .forR j n b, .For (.Name x _) (.Call (.Name r _) [a] [] _) xs [] _ => !c.hot && decide (c.N[j]? = some x) && locB sc x && decide (r = ("range" : Str)) && glB sc r && ckE G c sc n a && ckS G c sc b xs
  | .whl _ t b, .While z xs [] _ => ckE G c sc t z && ckS G c sc b xs
  | .brk, .Break _ => true
  | .cnt, .Continue _ => true
  | .nop, .Pass _ => true
  | .rse n, .Raise (some (.Call (.Name x _) [.Constant (.str _) _ _] [] _)) none _ => !c.hot && decide (n ∈ c.rs) && decide (x = G.cn n) && glB sc x
  | .tryX b n i h, .Try xs [.ExceptHandler (some (.Name x _)) (some nm) ys _] [] [] _ => !c.hot && decide (n ∈ G.T.cs) && decide (x = G.cn n) && glB sc x && decide (c.N[i]? = some nm) && decide (sc.names.lookup nm = some .local) && !ys.isEmpty && ckS G c sc b xs && ckS G { c with hot := true, fs := [] } sc h ys
  | _, _ => false
def ckS (G : Gt) (c : Cn) (sc : Scope) : S → List Stmt → Bool
  | .nop, [] => true
  | .seq (.fz _) b, xs => ckS G c sc b xs
  | .seq a b, x :: xs => ck1 G c sc a x && ckS G c sc b xs
  | _, _ => false
end
end Pv
/-! Pv11: a statement is worth evS. -/
namespace Pv
open PySem L2 PySem.Spec
abbrev veT : List Value := [.type "ValueError", .type "Exception", .type "BaseException", .type "object"]
/-- what the errors' classes must say -/
structure ClsF (G : Gx) (rs : List Nat) : Prop where
  mg : ∀ n ∈ G.T.cs, G.mg (G.cn n) = some (.ref (G.C.cl n))
  sub : ∀ n ∈ rs, n ∈ G.T.cs
  exI : ∀ n ∈ rs, PySem.W.excIn G.C.K (G.C.cl n) veT "ValueError.__new__" = true
  kp : ∀ n ∈ rs, PySem.W.keepIn G.C.K (.ref (G.C.cl n)) = true
  bs : ∀ n ∈ rs, PySem.W.subIn G.C.K (.ref (G.C.cl n)) (.type "BaseException") = some true
  ty : ∀ n ∈ rs, PySem.W.typeIn G.C.K (.ref (G.C.cl n)) = some (.type "type")
  exm : ∀ m ∈ G.T.xs, ∀ n ∈ G.T.cs, PySem.W.exmOne G.C.K (.ref (G.C.cl m)) (.ref (G.C.cl n)) = some (G.T.sub m n)
  kit : ∀ m ∈ G.T.xs, ∀ n ∈ G.T.cs, PySem.W.kitOne G.C.K (.ref (G.C.cl m)) (.ref (G.C.cl n)) = some (G.T.sub m n)
  exc : ∀ m ∈ G.T.xs, ExcC G.C.K (G.C.cl m)
  ve : ∀ m ∈ G.T.xs, PySem.W.kitOne G.C.K (.ref (G.C.cl m)) (.type "ValueError") = some true
structure GoodS (G : Gx) (c : Cn) (k : Nat) (sc : Scope) (Wx : WX) (X : Cx) : Prop where
  g : Good G c k sc Wx X
  fn : ∀ x, X.fn x = true
  st : X.stack = X.env :: X.outer
  fr : X.env.frame = some X.env.locals
  cls : ClsF G c.rs
  exn : c.hot = false → G.C.ex = none
structure SndS (s : S) : Prop where
  one : ∀ {G c k sc Wx X st}, GoodS G c k sc Wx X → ck1 G c sc s st = true → PS X st (tS G Wx (evS G.T s))
  all : ∀ {G c k sc Wx X sts}, GoodS G c k sc Wx X → ckS G c sc s sts = true → PSs X sts (tS G Wx (evS G.T s))
theorem locB_ok {sc : Scope} {x : Str} (h : locB sc x = true) : L2.Loc sc x := by
  unfold locB at h
  unfold L2.Loc
  split at h
  · exact .inl (by assumption)
  · exact .inr (by assumption)
  · cases h
section
variable {G : Gx} {c : Cn} {k : Nat} {sc : Scope} {Wx : WX} {X : Cx}
theorem GoodS.loc (g : GoodS G c k sc Wx X) {x : Str} (h : locB sc x = true) : L2.Loc X.env.scope x := by
  rw [g.g.hsc]; exact locB_ok h
theorem GoodS.ni (g : GoodS G c k sc Wx X) {i : Nat} {x : Str} (h : c.N[i]? = some x) : X.N[i]? = some x := by
  rw [g.g.hN]; exact h
theorem GoodS.nd (g : GoodS G c k sc Wx X) : X.N.Nodup := by
  rw [g.g.hN]; exact g.g.nd
/-- plain statements stand alone -/
theorem sndS_one {s : S} (h1 : ∀ {G c k sc Wx X st}, GoodS G c k sc Wx X → ck1 G c sc s st = true → PS X st (tS G Wx (evS G.T s))) (h2 : ∀ G c sc sts, ckS G c sc s sts = false) : SndS s :=
  ⟨h1, fun {G c k sc Wx X sts} _ h => by rw [h2] at h; cases h⟩
theorem swF {e : E} {v : Expr} {t : Option Expr} {l : Nat} {env : PySem.Env} (h : ckE G c sc e v = true) (hl : isLC v = false) : swapsWith v t l env = pure false := by
  cases v <;> first | rfl | (cases hl; done) | (cases e <;> simp [ckE] at h)
theorem swT {e : E} {v : Expr} {t : Expr} {env : PySem.Env} (hl : isTup v = false) : swappedStores [t] v env = pure none := by
  cases v <;> first | (cases hl; done) | (cases t <;> rfl)
theorem sndS_asg (i : Nat) (e : E) : SndS (.asg i e) := by
  refine sndS_one (fun {G c k sc Wx X st} g h => ?_) (fun G c sc sts => by cases sts <;> rfl)
  have rd : ∀ (Z : Ends) (σ : L2.St) (H : Hp), tS G Wx (evS G.T (.asg i e)) Z σ H → tE G Wx e σ H fun x H1 => Z.nx (σ.set i (some x)) H1 := by
    rintro Z σ H ⟨env, O, H0, fp, ok, s0, n0, hw⟩
    simp only [evS] at hw
    exact ⟨env, O, fp, ok, (OS.out hw ok s0 n0).id (Same.refl H) (fun _ z => z) fun d _ q v H1 fq e1 r1 nq hf => q.put ok s0 n0 e1 r1 nq hf⟩
  cases st <;> first | (simp [ck1] at h; done) | skip
  rename_i tgs v pos
  match tgs, h with
  | [.Name x p], h =>
    simp only [ck1, Bool.and_eq_true, decide_eq_true_eq] at h
    obtain ⟨⟨⟨h1, h2⟩, h3⟩, h4⟩ := h
    cases hl : isLC v with
    | false => exact PS.imp (ps_set (i := i) g.nd (g.ni h1) (g.loc h2) ((snd e).E g.g h4) (swF h4 hl) (.inl (g.fn x))) rd
    | true =>
      cases v <;> first | (cases hl; done) | skip
      rename_i elt gens scope lpos
      simp only [lcB] at h3
      have hk : X.env.scope.kind = .function ∨ True := .inr trivial
      cases hx : sc.names.lookup x with
      | none => rw [hx] at h3; cases h3
      | some kd =>
        rw [hx] at h3
        cases kd <;> first | (cases h3; done) | skip
        · -- a local: stored at once
          simp only [Bool.and_eq_true, Bool.not_eq_true'] at h3
          obtain ⟨h5, h6⟩ := h3
          have hxl : X.env.scope.names.lookup x = some .local := by rw [g.g.hsc]; exact hx
          match e, gens, h4 with
          | .lc j src t e, [⟨.Name y yp, iter, ifs, 0⟩], h4 =>
            simp only [ckE, Bool.and_eq_true, Bool.not_eq_true', decide_eq_true_eq] at h4
            obtain ⟨⟨⟨⟨⟨⟨hh, k1⟩, k2⟩, k3⟩, k4⟩, k5⟩, k6⟩ := h4
            have bk := blkOk_by k2
            have hj : c.N[j]? = some y := bk.ix (y, j) (by simp)
            refine ⟨fun pins s σ H Z I hq => ?_⟩
            exact (ps_setLc (i := i) (own := [(y, j)]) (g := gName j) (g.g.calm hh) g.nd (g.ni h1) hxl (sw_true I.ok.kind hxl h5 h6) (pi_list ((snd src).E g.g k1)) (by rw [g.g.hN, g.g.hsc]; exact bk)
              (fun s H D cl fp => pg_name (i := j) (by rw [(g.g.blk hh s H scope D cl fp).hN]; exact g.g.nd) (by rw [(g.g.blk hh s H scope D cl fp).hN]; exact hj) (.inl (by rw [(g.g.blk hh s H scope D cl fp).hsc]; exact k3)) (.inr (by rw [(g.g.blk hh s H scope D cl fp).hsc]; exact k3)))
              (fun s H D cl fp => (snd t).I (g.g.blk hh s H scope D cl fp) k4 k5) (fun s H D cl fp => (snd e).E (g.g.blk hh s H scope D cl fp) k6) (fold_ck k1)).run pins s σ H Z I (lc_rd g.g.hK σ H _ (rd Z σ H hq))
          | .lcr j src t e, [⟨.Name y yp, .Call (.Name rn rp) [a] [] cpos, ifs, 0⟩], h4 =>
            simp only [ckE, Bool.and_eq_true, Bool.not_eq_true', decide_eq_true_eq] at h4
            obtain ⟨⟨⟨⟨⟨⟨⟨⟨hh, rfl⟩, hg⟩, k1⟩, k2⟩, k3⟩, k4⟩, k5⟩, k6⟩ := h4
            have bk := blkOk_by k2
            have hj : c.N[j]? = some y := bk.ix (y, j) (by simp)
            refine ⟨fun pins s σ H Z I hq => ?_⟩
            exact (ps_setLc (i := i) (own := [(y, j)]) (g := gName j) (g.g.calm hh) g.nd (g.ni h1) hxl (sw_true I.ok.kind hxl h5 h6) (pi_range1 (g.g.gl hg) (g.g.mgN (by simp [bltNames])) (pa_cons ((snd src).E g.g k1) pa_nil (star_cons (ck_notSt k1))) (star_cons (ck_notSt k1))) (by rw [g.g.hN, g.g.hsc]; exact bk)
              (fun s H D cl fp => pg_name (i := j) (by rw [(g.g.blk hh s H scope D cl fp).hN]; exact g.g.nd) (by rw [(g.g.blk hh s H scope D cl fp).hN]; exact hj) (.inl (by rw [(g.g.blk hh s H scope D cl fp).hsc]; exact k3)) (.inr (by rw [(g.g.blk hh s H scope D cl fp).hsc]; exact k3)))
              (fun s H D cl fp => (snd t).I (g.g.blk hh s H scope D cl fp) k4 k5) (fun s H D cl fp => (snd e).E (g.g.blk hh s H scope D cl fp) k6)).run pins s σ H Z I (lcr_rd σ H _ (rd Z σ H hq))
        · -- a cell: as any value
          refine PS.imp (ps_set (i := i) g.nd (g.ni h1) (g.loc h2) ((snd e).E g.g h4) ?_ (.inl (g.fn x))) rd
          have hxc : X.env.kindOf x = some .cell := by
            show X.env.scope.names.lookup x = _
            rw [g.g.hsc]; exact hx
          unfold swapsWith
          simp only [hxc]
          simp [show (NameKind.cell == NameKind.local) = false from by decide]
end
end Pv
/-! Pv12: statements, further. -/
namespace Pv
open PySem L2 PySem.Spec
section
variable {G : Gx} {c : Cn} {k : Nat} {sc : Scope} {Wx : WX} {X : Cx}
/-! targets -/
def gNs : List Nat → TGs
  | [] => gNil
  | i :: is => gCons (gName i) (gNs is)
theorem pgs_names (g : GoodS G c k sc Wx X) : ∀ {is : List Nat} {xs : List Expr}, ckN c sc is xs = true → PGs X xs (gNs is)
  | [], [], _ => pgs_nil
  | i :: is, .Name x p :: xs, h => by
    simp only [ckN, Bool.and_eq_true, decide_eq_true_eq] at h
    exact pgs_cons (pg_name (i := i) g.nd (g.ni h.1.1) (g.loc h.1.2) (.inl (g.fn x))) (pgs_names g h.2)
  | [], _ :: _, h => by simp [ckN] at h
  | _ :: _, [], h => by simp [ckN] at h
theorem names_len {env : PySem.Env} : ∀ {is : List Nat} {xs : List Expr}, ckN c sc is xs = true → (assignEach xs env).length = is.length ∧ (assignEach xs env).findIdx? (·.1) = none
  | [], [], _ => ⟨rfl, rfl⟩
  | i :: is, .Name x p :: xs, h => by
    simp only [ckN, Bool.and_eq_true] at h
    obtain ⟨h1, h2⟩ := names_len (env := env) h.2
    refine ⟨by show (assignEach xs env).length + 1 = is.length + 1; rw [h1], ?_⟩
    show ((false, assign (.Name x p) env) :: assignEach xs env).findIdx? (·.1) = none
    rw [List.findIdx?_cons]
    simp [h2]
  | [], _ :: _, h => by simp [ckN] at h
  | _ :: _, [], h => by simp [ckN] at h
/-- items, shared, stored one after another -/
theorem putEs_rd {O : List Addr} {H0 H : Hp} : ∀ {is : List Nat} {ds : List Pv.D} {vs : List V} {env : Env} {σ : L2.St} {fp : List Addr} {Q : L2.St → Hp → Prop}, RlL G.C (cut H (fp ++ O)) H [] vs ds [] → OkF G.C O env σ H fp → (∀ a ∈ fp, H0 a = none) →
    (∃ P : Out → Prop, P (putEs env is ds) ∧ (¬ P .bad) ∧ ∀ env', P (.nx env') → ∀ σ' fp', OkF G.C O env' σ' H fp' → (∀ a ∈ fp', a ∈ fp) → Q σ' H) → gNs is vs σ H Q
  | [], [], vs, env, σ, fp, Q, r, ok, n0, ⟨P, h, hb, hk⟩ => by
    cases r
    exact ⟨rfl, hk env h σ fp ok fun _ z => z⟩
  | i :: is, d :: ds, vs, env, σ, fp, Q, r, ok, n0, ⟨P, h, hb, hk⟩ => by
    generalize hf : ([] : List Addr) = f at r
    cases r with
    | cons r l =>
      rename_i v f1 vs f2
      obtain ⟨e1, e2⟩ := List.append_eq_nil_iff.mp hf.symm
      subst e1 e2
      refine ⟨v, vs, rfl, ?_⟩
      show gNs is vs (σ.set i (some v)) H Q
      unfold putEs at h
      have h' : noBrw d = true ∧ i < env.length ∧ P ((Out.nx (env.set i (some d))).thn fun e => putEs e is ds) := by
        unfold putE at h
        split at h
        · rename_i hc
          simp only [Bool.and_eq_true, decide_eq_true_eq] at hc
          exact ⟨hc.1, hc.2, h⟩
        · exact absurd h hb
      obtain ⟨h1, h2, h3⟩ := h'
      obtain ⟨fp', ok', hs⟩ := ok.put (fq := []) (Same.refl _) r List.nodup_nil (fun _ z => nomatch z) h1 h2
      have hs' : ∀ a ∈ fp', a ∈ fp := fun a ha => (hs a ha).resolve_left List.not_mem_nil
      refine putEs_rd (env := env.set i (some d)) (l.mono (cut_sub fun a ha => ?_) (Same.refl _)) ok' (fun a ha => n0 a (hs' a ha)) ⟨P, h3, hb, fun env' he σ' fp2 ok2 hs2 => hk env' he σ' fp2 ok2 fun a ha => hs' a (hs2 a ha)⟩
      rcases List.mem_append.mp ha with ha | ha
      · exact List.mem_append_left _ (hs' a ha)
      · exact List.mem_append_right _ ha
  | [], d :: ds, vs, env, σ, fp, Q, r, ok, n0, ⟨P, h, hb, hk⟩ => absurd h hb
  | i :: is, [], vs, env, σ, fp, Q, r, ok, n0, ⟨P, h, hb, hk⟩ => absurd h hb
theorem sndS_asgT (is : List Nat) (e : E) : SndS (.asgT is e) := by
  refine sndS_one (fun {G c k sc Wx X st} g h => ?_) (fun G c sc sts => by cases sts <;> rfl)
  cases st <;> first | (simp [ck1] at h; done) | skip
  rename_i tgs v pos
  match tgs, h with
  | [.Tuple xs tk tp], h =>
    simp only [ck1, Bool.and_eq_true, Bool.not_eq_true'] at h
    obtain ⟨⟨⟨⟨hh, h1⟩, h2⟩, h3⟩, h4⟩ := h
    obtain ⟨l1, l2⟩ := names_len (env := X.env) h1
    refine PS.imp (ps_asg ((snd e).E g.g h4) (pg_tup (g.g.calm hh) (pgs_names g h1) l1 l2) (by unfold swapsWithSole; exact swF h4 h3) (swT (e := e) h2) rfl) ?_
    rintro Z σ H ⟨env, O, H0, fp, ok, s0, n0, hw⟩
    simp only [evS] at hw
    refine ⟨env, O, fp, ok, (OS.out hw ok s0 n0).id (Same.refl H) (fun _ z => z) fun d hde q v H1 fq e1 r1 nq hf => ?_⟩
    clear hde
    cases d <;> first | (exact (show False from q).elim) | skip
    rename_i l
    by_cases hc : (is.length == 1 || !amL noBrwM l) = true
    · simp only [hc, if_true] at q
      exact (show False from q).elim
    · simp only [hc] at q
      simp only [Bool.or_eq_true, Bool.not_eq_true', not_or, Bool.not_eq_false] at hc
      obtain ⟨a, vs, rfl, hT, _, ll⟩ := r1.tup_inv
      have nf := ok.nf hf
      have fr := (ll.keep (W' := []) (Same.refl _) hc.2 fun _ _ _ z => z).froze (os' := fp ++ O) (fq := []) (Same.refl _) (fun b hb => List.mem_append_right _ hb) nf fun _ z => (List.not_mem_nil z).elim
      have q' : OS G Wx O H0 Z (putEs env is (mpL fzM l)) := q
      have hlen : ∀ {is : List Nat} {ds : List Pv.D} {env : Env}, (∀ P : Out → Prop, P (putEs env is ds) → ¬ P .bad → is.length = ds.length) := by
        intro is
        induction is with
        | nil => intro ds env P h hb; cases ds with | nil => rfl | cons _ _ => exact absurd h hb
        | cons i is ih =>
          intro ds env P h hb
          cases ds with
          | nil => exact absurd h hb
          | cons d ds =>
            unfold putEs at h
            unfold putE at h
            split at h
            · simp [ih P h hb]
            · exact absurd h hb
      have hl := hlen (OS G Wx O H0 Z) q' fun z => z
      rw [mpL_eq, List.length_map] at hl
      refine ⟨a, vs, rfl, by rw [g.g.hK]; exact hT, by rw [ll.len, hl], ?_⟩
      refine putEs_rd (H0 := H0) (O := O) (fp := fp) fr (ok.grow e1) n0 ⟨OS G Wx O H0 Z, q', fun z => z, fun env' he σ' fp' ok' hs => he σ' H1 fp' ok' (s0.trans e1) fun a ha => n0 a (hs a ha)⟩
theorem sndS_exp (e : E) : SndS (.exp e) := by
  refine sndS_one (fun {G c k sc Wx X st} g h => ?_) (fun G c sc sts => by cases sts <;> rfl)
  cases st <;> first | (simp [ck1] at h; done) | skip
  simp only [ck1, Bool.and_eq_true, Bool.not_eq_true'] at h
  refine PS.imp (ps_expr ((snd e).E g.g h.2) (swF h.2 h.1)) ?_
  rintro Z σ H ⟨env, O, H0, fp, ok, s0, n0, hw⟩
  simp only [evS] at hw
  exact ⟨env, O, fp, ok, (OS.out hw ok s0 n0).id (Same.refl H) (fun _ z => z) fun d _ q v H1 fq e1 r1 nq hf => q σ H1 fp (ok.grow e1) (s0.trans e1) n0⟩
/-- the own list at a grows by a shared item -/
theorem Rl.app1 {C : Kc} {B H : Hp} {a : Addr} {o : HO} : ∀ {v : V} {d : Pv.D} {f : List Addr}, Rl C B H [] v d f → a ∉ f → Rl C B (upd H a o) [] v d f := fun r h => r.hm (Same.refl _) (fun _ z => (List.not_mem_nil z).elim) fun b hb u hu => by
  rw [upd_ne (by intro z; subst z; exact h hb)]
  exact hu
theorem EnvR.app1 {C : Kc} {B H : Hp} {a : Addr} {o : HO} : ∀ {σ : L2.St} {env : Env} {f : List Addr}, EnvR C B H σ env f → a ∉ f → EnvR C B (upd H a o) σ env f
  | _, _, _, .nil, _ => .nil
  | _, _, _, .skip e, h => .skip (EnvR.app1 e h)
  | _, _, _, .put r e, h => .put (r.app1 fun z => h (List.mem_append_left _ z)) (EnvR.app1 e fun z => h (List.mem_append_right _ z))
theorem EnvR.app {C : Kc} {B H : Hp} {a : Addr} {vs : List V} {l : List Pv.D} {u : V} {d : Pv.D} : ∀ {σ : L2.St} {env : Env} {fp : List Addr} {i : Nat}, EnvR C B H σ env fp → fp.Nodup → env[i]? = some (some (.lst .own l)) → H a = some (.lst vs) → σ[i]? = some (some (.ref a)) → Rl C B H [] u d [] →
    EnvR C B (upd H a (.lst (vs ++ [u]))) σ (env.set i (some (.lst .own (l ++ [d])))) fp
  | _, _, _, i, .nil, _, h, _, _, _ => by simp at h
  | _, _, _, 0, .skip _, _, h, _, _, _ => by simp at h
  | _, _, _, i + 1, .skip e, nd, h, ha, hs, ru => .skip (EnvR.app e nd (by simpa using h) ha (by simpa using hs) ru)
  | _, _, _, i + 1, .put (fq := f0) (fp := fp) (σ := σ0) (env := env0) r e, nd, h, ha, hs, ru => by
    obtain ⟨n1, n2, n3⟩ := List.nodup_append.mp nd
    have h' : env0[i]? = some (some (.lst .own l)) := by simpa using h
    obtain ⟨w, fq, hw, rw', hq⟩ := e.get h'
    have hs' : σ0[i]? = some (some (.ref a)) := by simpa using hs
    rw [hs'] at hw
    cases hw
    have hm : a ∈ fp := by
      cases rw' with
      | lstO _ _ => exact hq _ List.mem_cons_self
    exact .put (r.app1 fun z => n3 a z a hm rfl) (EnvR.app e n2 h' ha hs' ru)
  | _, _, _, 0, .put (fq := f0) (fp := fp) r e, nd, h, ha, hs, ru => by
    obtain ⟨n1, n2, n3⟩ := List.nodup_append.mp nd
    simp at h
    subst h
    simp at hs
    subst hs
    cases r with
    | lstO hb l0 =>
      rename_i ws g
      rw [ha] at hb
      cases hb
      have nag : a ∉ g := (List.nodup_cons.mp n1).1
      refine .put (.lstO upd_same ?_) (e.app1 fun z => n3 a List.mem_cons_self a z rfl)
      have key := RlL.app l0 (.cons (fq := []) ru .nil)
      rw [List.append_nil, List.append_nil] at key
      exact key.hm (Same.refl _) (fun _ z => (List.not_mem_nil z).elim) fun b hb u hu => by
        rw [upd_ne (by intro z; subst z; exact nag hb)]
        exact hu
/-- x.append(e) on an own list -/
theorem sndS_app (i : Nat) (e : E) : SndS (.app i e) := by
  refine sndS_one (fun {G c k sc Wx X st} g h => ?_) (fun G c sc sts => by cases sts <;> rfl)
  cases st <;> first | (simp [ck1] at h; done) | skip
  rename_i ex pos
  cases ex <;> first | (simp [ck1] at h; done) | skip
  rename_i fn as kws cp
  cases fn <;> first | (simp [ck1] at h; done) | skip
  rename_i o m ap
  cases o <;> first | (simp [ck1] at h; done) | skip
  rename_i x xp
  match as, kws, h with
  | [v], [], h =>
    simp only [ck1, Bool.and_eq_true, decide_eq_true_eq] at h
    obtain ⟨⟨⟨⟨⟨h1, h2⟩, h3⟩, rfl⟩, h5⟩, h6⟩ := h
    obtain ⟨d1, d2⟩ := nmB_ok h3
    have ns := ck_notSt h6
    have few : ∀ {env : PySem.Env}, ((backTo cp (starEach [v] env)).all (fun x => !x.1) && (backToKw cp (keywordEach [] env)).all (fun x => x.1.isSome)
      && decide (([v] : List Expr).length + ([] : List Keyword).length + (if ([] : List Keyword).isEmpty then 0 else 1) < 30)) = true := fun {env} => by
        rw [star_cons ns]; rfl
    refine PS.imp (ps_expr (pe_bm PySem.F.plainAttrs_list PySem.F.slot_list_append PySem.F.type_list_append mt_append (pe_var (i := i) (g.ni h1) (by rw [g.g.hsc]; exact visB_ok h2) d1 d2) (pa_cons ((snd e).E g.g h6) pa_nil (star_cons ns)) rfl few h5 (star_cons ns) rfl) rfl) ?_
    rintro Z σ H ⟨env, O, H0, fp, ok, s0, n0, hw⟩
    simp only [evS] at hw
    split at hw
    · rename_i l hl
      obtain ⟨w, f0, hv, r0, hf0⟩ := ok.rel.get hl
      cases r0 with
      | lstO ha0 l0 =>
        rename_i a vs f1
        refine ⟨_, hv, .inl ⟨rfl, _, SqL.of ha0⟩, env, O, fp, ok, (OS.out hw ok s0 n0).id (Same.refl H) (fun _ z => z) fun d _ q u H1 fq e1 r1 nq hf => ?_⟩
        by_cases hc : (noBrw d && lineOk l.length) = true
        · rw [if_pos hc] at q
          simp only [Bool.and_eq_true] at hc
          have ha1 := e1 _ _ ha0
          refine ⟨a, vs, u, rfl, rfl, ha1, by rw [l0.len]; exact line_lt hc.2, ?_⟩
          -- the list at a is longer by one frozen item
          have nf := ok.nf hf
          have ru := (r1.keep (W' := []) (Same.refl _) hc.1 fun _ _ _ z => z).froze (os' := fp ++ O) (fq := []) (Same.refl _) (fun b hb => List.mem_append_right _ hb) nf fun _ z => (List.not_mem_nil z).elim
          have ham : a ∈ fp := hf0 a List.mem_cons_self
          have ok1 := ok.grow e1
          refine q σ (upd H1 a (.lst (vs ++ [u]))) fp ?_ ?_ n0
          · refine ⟨?_, ok.nd, ok.dj, fun b hb => ?_⟩
            · rw [cut_upd (List.mem_append_left _ ham)]
              exact EnvR.app ok1.rel ok.nd hl ha1 hv ru
            · obtain ⟨o, z⟩ := ok1.od b hb
              by_cases hb' : b = a
              · subst hb'; exact absurd hb (ok.dj _ ham)
              · exact ⟨o, by rw [upd_ne hb']; exact z⟩
          · intro b o hb
            rw [upd_ne]
            · exact (s0.trans e1) b o hb
            · intro z
              subst z
              rw [n0 _ ham] at hb; cases hb
        · rw [if_neg hc] at q
          exact (show False from q).elim
    · exact (show False from hw).elim
end
end Pv
/-! Pv13: statements, further. -/
namespace Pv
open PySem L2 PySem.Spec
theorem EnvR.get2 {C : Kc} {B H : Hp} : ∀ {σ : L2.St} {env : Env} {fp : List Addr} {i : Nat} {d : Pv.D}, EnvR C B H σ env fp → env[i]? = some (some d) → ∃ v fq, σ[i]? = some (some v) ∧ Rl C B H [] v d fq ∧ (∀ a ∈ fq, a ∈ fp) ∧ (fp.Nodup → fq.Nodup)
  | _, _, _, i, d, .nil, h => by simp at h
  | _, _, _, 0, d, .skip _, h => by simp at h
  | _, _, _, i + 1, d, .skip r, h => by
    obtain ⟨v, fq, h1, h2, h3, h4⟩ := EnvR.get2 (i := i) (d := d) r (by simpa using h)
    exact ⟨v, fq, by simpa using h1, h2, h3, h4⟩
  | _, _, _, 0, d, .put r _, h => by
    simp at h
    subst h
    exact ⟨_, _, rfl, r, fun a ha => List.mem_append_left _ ha, fun n => (List.nodup_append.mp n).1⟩
  | _, _, _, i + 1, d, .put _ r, h => by
    obtain ⟨v, fq, h1, h2, h3, h4⟩ := EnvR.get2 (i := i) (d := d) r (by simpa using h)
    exact ⟨v, fq, by simpa using h1, h2, fun a ha => List.mem_append_right _ (h3 a ha), fun n => h4 (List.nodup_append.mp n).2.1⟩
theorem Rl.get {C : Kc} {os W : List Addr} {H : Hp} {Wx : WX} {σ : L2.St} : True := trivial
theorem sndS_ret (e : E) : SndS (.ret e) := by
  refine sndS_one (fun {G c k sc Wx X st} g h => ?_) (fun G c sc sts => by cases sts <;> rfl)
  cases st <;> first | (simp [ck1] at h; done) | skip
  rename_i o pos
  cases o <;> first | (simp [ck1] at h; done) | skip
  simp only [ck1] at h
  refine PS.imp (ps_ret ((snd e).E g.g h)) ?_
  rintro Z σ H ⟨env, O, H0, fp, ok, s0, n0, hw⟩
  simp only [evS] at hw
  refine ⟨env, O, fp, ok, (OS.out hw ok s0 n0).id (Same.refl H) (fun _ z => z) fun d _ q v H1 fq e1 r1 nq hf => ?_⟩
  have q' : VR G.C O [] H0 (rt d) Z.rt := q
  have nf := ok.nf hf
  refine q' v H1 fq (s0.trans e1) (r1.rt (cut_sub fun a ha => ?_) (Same.refl _) fun a ha o z => ?_) nq fun a ha => fresh_b s0 (hf a ha)
  · rcases List.mem_append.mp ha with ha | ha
    · exact List.mem_append_left _ ha
    · exact List.mem_append_right _ (List.mem_append_right _ ha)
  · rw [cut_out]
    · exact z
    · intro y
      rcases List.mem_append.mp y with y | y
      · exact nf a y (List.mem_append_left _ ha)
      · exact ok.dj a ha y
theorem sndS_retN : SndS .retN := by
  refine sndS_one (fun {G c k sc Wx X st} g h => ?_) (fun G c sc sts => by cases sts <;> rfl)
  cases st <;> first | (simp [ck1] at h; done) | skip
  rename_i o pos
  cases o <;> first | (simp [ck1] at h; done) | skip
  refine PS.imp ps_retN ?_
  rintro Z σ H ⟨env, O, H0, fp, ok, s0, n0, hw⟩
  simp only [evS] at hw
  exact hw .non H [] s0 .non List.nodup_nil fun _ z => nomatch z
theorem sndS_retV (i : Nat) : SndS (.retV i) := by
  refine sndS_one (fun {G c k sc Wx X st} g h => ?_) (fun G c sc sts => by cases sts <;> rfl)
  cases st <;> first | (simp [ck1] at h; done) | skip
  rename_i o pos
  cases o <;> first | (simp [ck1] at h; done) | skip
  rename_i ex
  cases ex <;> first | (simp [ck1] at h; done) | skip
  simp only [ck1, Bool.and_eq_true, decide_eq_true_eq] at h
  obtain ⟨d1, d2⟩ := nmB_ok h.2
  refine PS.imp (ps_ret (pe_var (i := i) (g.ni h.1.1) (by rw [g.g.hsc]; exact visB_ok h.1.2) d1 d2)) ?_
  rintro Z σ H ⟨env, O, H0, fp, ok, s0, n0, hw⟩
  simp only [evS] at hw
  obtain ⟨d, hd, q⟩ := (OS.out hw ok s0 n0).ok getE_ne
  obtain ⟨v, fq, hv, r, hq, hn⟩ := ok.rel.get2 (getE_ok hd)
  have q' : VR G.C O [] H0 d Z.rt := q
  refine ⟨v, hv, q' v H fq s0 (r.mono (cut_sub fun a ha => ?_) (Same.refl _)) (hn ok.nd) fun a ha => n0 a (hq a ha)⟩
  rcases List.mem_append.mp ha with ha | ha
  · exact List.mem_append_left _ (hq a ha)
  · exact List.mem_append_right _ ha
theorem sndS_brk : SndS .brk := by
  refine sndS_one (fun {G c k sc Wx X st} g h => ?_) (fun G c sc sts => by cases sts <;> rfl)
  cases st <;> first | (simp [ck1] at h; done) | skip
  refine PS.imp ps_break ?_
  rintro Z σ H ⟨env, O, H0, fp, ok, s0, n0, hw⟩
  simp only [evS] at hw
  exact hw σ H fp ok s0 n0
theorem sndS_cnt : SndS .cnt := by
  refine sndS_one (fun {G c k sc Wx X st} g h => ?_) (fun G c sc sts => by cases sts <;> rfl)
  cases st <;> first | (simp [ck1] at h; done) | skip
  refine PS.imp ps_continue ?_
  rintro Z σ H ⟨env, O, H0, fp, ok, s0, n0, hw⟩
  simp only [evS] at hw
  exact hw σ H fp ok s0 n0
theorem sndS_fz (i : Nat) : SndS (.fz i) := by
  refine sndS_one (fun {G c k sc Wx X st} g h => ?_) (fun G c sc sts => by cases sts <;> rfl)
  cases st <;> simp [ck1] at h
theorem sndS_nop : SndS .nop where
  one := fun {G c k sc Wx X st} g h => by
    cases st <;> first | (simp [ck1] at h; done) | skip
    refine PS.imp ps_pass ?_
    rintro Z σ H ⟨env, O, H0, fp, ok, s0, n0, hw⟩
    simp only [evS] at hw
    exact hw σ H fp ok s0 n0
  all := fun {G c k sc Wx X sts} g h => by
    cases sts <;> first | (simp [ckS] at h; done) | skip
    refine PSs.imp pss_nil ?_
    rintro Z σ H ⟨env, O, H0, fp, ok, s0, n0, hw⟩
    simp only [evS] at hw
    exact hw σ H fp ok s0 n0
theorem EnvR.uns {C : Kc} {B H : Hp} : ∀ {σ : L2.St} {env : Env} {fp : List Addr} {i : Nat} {d : Pv.D}, EnvR C B H σ env fp → env[i]? = some (some d) → fp.Nodup →
    ∃ v f0 fp', σ[i]? = some (some v) ∧ Rl C B H [] v d f0 ∧ EnvR C B H σ (env.set i none) fp' ∧ (∀ a ∈ fp', a ∈ fp) ∧ (∀ a ∈ f0, a ∈ fp ∧ a ∉ fp') ∧ fp'.Nodup
  | _, _, _, i, d, .nil, h, _ => by simp at h
  | _, _, _, 0, d, .skip _, h, _ => by simp at h
  | _, _, _, i + 1, d, .skip r, h, n => by
    obtain ⟨v, f0, fp', h1, h2, h3, h4, h5, h6⟩ := EnvR.uns (i := i) (d := d) r (by simpa using h) n
    exact ⟨v, f0, fp', by simpa using h1, h2, .skip h3, h4, h5, h6⟩
  | _, _, _, 0, d, .put (fq := g) (fp := fp) r e, h, n => by
    simp at h
    subst h
    obtain ⟨n1, n2, n3⟩ := List.nodup_append.mp n
    exact ⟨_, g, fp, rfl, r, .skip e, fun a ha => List.mem_append_right _ ha, fun a ha => ⟨List.mem_append_left _ ha, fun z => n3 a ha a z rfl⟩, n2⟩
  | _, _, _, i + 1, d, .put (fq := g) (fp := fp) r0 r, h, n => by
    obtain ⟨n1, n2, n3⟩ := List.nodup_append.mp n
    obtain ⟨v, f0, fp', h1, h2, h3, h4, h5, h6⟩ := EnvR.uns (i := i) (d := d) r (by simpa using h) n2
    refine ⟨v, f0, g ++ fp', by simpa using h1, h2, .put r0 h3, fun a ha => ?_, fun a ha => ⟨List.mem_append_right _ (h5 a ha).1, fun z => ?_⟩, List.nodup_append.mpr ⟨n1, h6, fun a ha b hb e => n3 a ha b (h4 b hb) e⟩⟩
    · exact (List.mem_append.mp ha).elim (List.mem_append_left _) fun z => List.mem_append_right _ (h4 a z)
    · exact (List.mem_append.mp z).elim (fun y => n3 a y a (h5 a ha).1 rfl) (h5 a ha).2
theorem OkF.uns {C : Kc} {O fp : List Addr} {env : Env} {σ : L2.St} {H : Hp} {i : Nat} {d : Pv.D} (ok : OkF C O env σ H fp) (h : env[i]? = some (some d)) :
    ∃ v f0 fp', σ[i]? = some (some v) ∧ Rl C (cut H (fp ++ O)) H [] v d f0 ∧ OkF C O (env.set i none) σ H fp' ∧ (∀ a ∈ fp', a ∈ fp) ∧ ∀ a ∈ f0, a ∈ fp ∧ a ∉ fp' := by
  obtain ⟨v, f0, fp', h1, h2, h3, h4, h5, h6⟩ := ok.rel.uns h ok.nd
  refine ⟨v, f0, fp', h1, h2, ⟨h3.mono (cut_sub fun a ha => ?_) (Same.refl _), h6, fun a ha => ok.dj a (h4 a ha), ok.od⟩, h4, h5⟩
  exact (List.mem_append.mp ha).elim (fun z => List.mem_append_left _ (h4 a z)) (List.mem_append_right _)
/-- an own thing is frozen: a word of ours, nothing of the program's -/
theorem OkF.fz {C : Kc} {O fp : List Addr} {env : Env} {σ : L2.St} {H : Hp} {i : Nat} {d : Pv.D} (ok : OkF C O env σ H fp) (h : env[i]? = some (some d)) : ∃ fp', OkF C O (env.set i (some (Pv.fz d))) σ H fp' ∧ ∀ a ∈ fp', a ∈ fp := by
  obtain ⟨v, f0, fp', h1, h2, ok', h4, h5⟩ := ok.uns h
  have fr : Rl C (cut H ([] ++ (fp' ++ O))) H [] v (Pv.fz d) [] := h2.froze (fq := []) (os' := fp' ++ O) (Same.refl _) (fun a ha => (List.mem_append.mp ha).elim (fun z => List.mem_append_left _ (h4 a z)) (List.mem_append_right _)) (fun a ha z => (List.mem_append.mp z).elim (h5 a ha).2 (ok.dj a (h5 a ha).1)) fun _ z => (List.not_mem_nil z).elim
  have hi : i < env.length := (List.getElem?_eq_some_iff.mp h).1
  obtain ⟨fp2, ok2, hs⟩ := ok'.put (i := i) (Same.refl _) fr List.nodup_nil (fun _ z => nomatch z) fr.nb (by rw [List.length_set]; exact hi)
  refine ⟨fp2, ?_, fun a ha => h4 a ((hs a ha).resolve_left List.not_mem_nil)⟩
  have e1 : (env.set i none).set i (some (Pv.fz d)) = env.set i (some (Pv.fz d)) := List.set_set _
  have e2 : σ.set i (some v) = σ := by
    obtain ⟨hj, e⟩ := List.getElem?_eq_some_iff.mp h1
    rw [← e, List.set_getElem_self]
  rw [e1, e2] at ok2
  exact ok2
theorem sndS_seq {a b : S} (ha : SndS a) (hb : SndS b) : SndS (.seq a b) where
  one := fun {G c k sc Wx X st} g h => by cases st <;> simp [ck1] at h
  all := fun {G c k sc Wx X sts} g h => by
    by_cases hf : ∃ i, a = .fz i
    · obtain ⟨i, rfl⟩ := hf
      simp only [ckS] at h
      refine PSs.imp (hb.all g h) ?_
      rintro Z σ H ⟨env, O, H0, fp, ok, s0, n0, hw⟩
      simp only [evS] at hw
      split at hw
      · rename_i d hd
        obtain ⟨fp', ok', hs⟩ := ok.fz hd
        exact ⟨_, O, H0, fp', ok', s0, fun x hx => n0 x (hs x hx), hw⟩
      · exact (show False from hw).elim
    · cases sts with
      | nil => cases a <;> first | (exact absurd ⟨_, rfl⟩ hf) | (simp [ckS] at h)
      | cons x xs =>
        have h' : ck1 G c sc a x = true ∧ ckS G c sc b xs = true := by
          cases a <;> first | (exact absurd ⟨_, rfl⟩ hf) | (simpa only [ckS, Bool.and_eq_true] using h)
        refine PSs.imp (pss_cons (ha.one g h'.1) (hb.all g h'.2)) ?_
        rintro Z σ H ⟨env, O, H0, fp, ok, s0, n0, hw⟩
        simp only [evS] at hw
        refine ⟨env, O, H0, fp, ok, s0, n0, ?_⟩
        cases e : evS G.T a env with
        | nx e1 => rw [e] at hw; exact fun σ' H' fp' ok' s' n' => ⟨e1, O, H0, fp', ok', s', n', hw⟩
        | ret d => rw [e] at hw; exact hw
        | brk e1 => rw [e] at hw; exact hw
        | cnt e1 => rw [e] at hw; exact hw
        | exc y e1 => rw [e] at hw; exact hw
        | bad => rw [e] at hw; exact hw
theorem sndS_ife {t : E} {a b : S} (ha : SndS a) (hb : SndS b) : SndS (.ife t a b) := by
  refine sndS_one (fun {G c k sc Wx X st} g h => ?_) (fun G c sc sts => by cases sts <;> rfl)
  cases st <;> first | (simp [ck1] at h; done) | skip
  simp only [ck1, Bool.and_eq_true] at h
  refine PS.imp (ps_if ((snd t).T g.g h.1.1) (ha.all g h.1.2) (hb.all g h.2)) ?_
  rintro Z σ H ⟨env, O, H0, fp, ok, s0, n0, hw⟩
  simp only [evS] at hw
  refine ⟨env, O, fp, ok, (OS.out hw ok s0 n0).id (Same.refl H) (fun _ z => z) fun d _ q H1 e1 => ?_⟩
  cases d with
  | true => exact iteT ⟨env, O, H0, fp, ok.grow e1, s0.trans e1, n0, q⟩
  | false => exact iteF ⟨env, O, H0, fp, ok.grow e1, s0.trans e1, n0, q⟩
theorem sndS_aug (i : Nat) (o : Operator) (e : E) : SndS (.aug i o e) := by
  refine sndS_one (fun {G c k sc Wx X st} g h => ?_) (fun G c sc sts => by cases sts <;> rfl)
  cases st <;> first | (simp [ck1] at h; done) | skip
  rename_i tg o' v pos
  cases tg <;> first | (simp [ck1] at h; done) | skip
  simp only [ck1, Bool.and_eq_true, decide_eq_true_eq] at h
  obtain ⟨⟨⟨⟨h1, h2⟩, rfl⟩, h4⟩, h5⟩ := h
  have rd : ∀ {ti : TIp}, (∀ (a b : Int) (Z : Ends) (σ : L2.St) (H : Hp) (env : Env) (O : List Addr) (H0 : Hp), OS G Wx O H0 Z (match (generalizing := false) o, D.int a, D.int b with
      | .Add, .int a, .int b => putE env i (.int (a + b))
      | .Sub, .int a, .int b => putE env i (.int (a - b))
      | _, _, _ => .bad) → ∃ r : Int, OS G Wx O H0 Z (putE env i (.int r)) ∧ ∀ K : VK, K (.int r) H → ti (.int a) (.int b) H K) → ∀ (Z : Ends) (σ : L2.St) (H : Hp), tS G Wx (evS G.T (.aug i o e)) Z σ H → tAug i (tE G Wx e) ti Z σ H := by
    rintro ti hti Z σ H ⟨env, O, H0, fp, ok, s0, n0, hw⟩
    simp only [evS] at hw
    obtain ⟨x, hx, q⟩ := (OS.out hw ok s0 n0).ok getE_ne
    obtain ⟨v, fq, hv, r, hq⟩ := ok.rel.get (getE_ok hx)
    refine ⟨v, hv, env, O, fp, ok, (OS.out q ok s0 n0).id (Same.refl H) (fun _ z => z) fun y _ q2 u H1 f1 e1 r1 nq hf => ?_⟩
    have hxy : ∃ a b, x = .int a ∧ y = .int b := by
      cases o <;> cases x <;> cases y <;> first | exact ⟨_, _, rfl, rfl⟩ | exact (show False from q2).elim
    obtain ⟨a, b, rfl, rfl⟩ := hxy
    obtain ⟨rfl, _⟩ := r.int_inv
    obtain ⟨rfl, _⟩ := r1.int_inv
    obtain ⟨r, q3, hk⟩ := hti a b Z σ H1 env O H0 q2
    exact hk _ (q3.put (fq := []) (W := []) ok s0 n0 e1 (.int r) List.nodup_nil fun _ z => nomatch z)
  cases o <;> first | (cases h4; done) | skip
  · exact PS.imp (ps_aug (i := i) g.nd (g.ni h1) (g.loc h2) ((snd e).E g.g h5) ip_add (.inl (g.fn _))) (rd fun a b Z σ H env O H0 q => ⟨a + b, q, fun K hk => ⟨a, b, rfl, rfl, hk⟩⟩)
  · exact PS.imp (ps_aug (i := i) g.nd (g.ni h1) (g.loc h2) ((snd e).E g.g h5) ip_sub (.inl (g.fn _))) (rd fun a b Z σ H env O H0 q => ⟨a - b, q, fun K hk => ⟨a, b, rfl, rfl, hk⟩⟩)
theorem sndS_whl {n : Nat} {t : E} {b : S} (hb : SndS b) : SndS (.whl n t b) := by
  refine sndS_one (fun {G c k sc Wx X st} g h => ?_) (fun G c sc sts => by cases sts <;> rfl)
  cases st <;> first | (simp [ck1] at h; done) | skip
  rename_i z xs els pos
  cases els <;> first | (simp [ck1] at h; done) | skip
  simp only [ck1, Bool.and_eq_true] at h
  refine PS.imp (ps_while g.g.po ((snd t).T g.g h.1) (hb.all g h.2)) ?_
  rintro Z σ H ⟨env, O, H0, fp, ok, s0, n0, hw⟩
  simp only [evS] at hw
  refine ⟨fun m σ' H' => ∃ env' fp', OkF G.C O env' σ' H' fp' ∧ Same H0 H' ∧ (∀ a ∈ fp', H0 a = none) ∧ OS G Wx O H0 Z (whlD (evT G.T t) (evS G.T b) m env'), ⟨n, env, fp, ok, s0, n0, hw⟩, ?_⟩
  rintro m σ1 H1 ⟨env1, fp1, ok1, s1, n1, h1⟩
  cases m with
  | zero => exact (show False from h1).elim
  | succ m =>
    simp only [whlD] at h1
    refine ⟨env1, O, fp1, ok1, ?_⟩
    cases e : evT G.T t env1 with
    | exc y =>
      rw [e] at h1
      exact fun cls dx H' e' r => h1 cls dx σ1 H' fp1 (ok1.grow e') (s1.trans e') n1 r
    | bad => rw [e] at h1; exact h1
    | ok d =>
      rw [e] at h1
      intro H2 e2
      have ok2 := ok1.grow e2
      have s2 := s1.trans e2
      cases d with
      | false => exact iteF (h1 σ1 H2 fp1 ok2 s2 n1)
      | true =>
        refine iteT ⟨fun σ' H' => ∃ env' fp', OkF G.C O env' σ' H' fp' ∧ Same H0 H' ∧ (∀ a ∈ fp', H0 a = none) ∧ OS G Wx O H0 Z (whlD (evT G.T t) (evS G.T b) m env'), fun σ' H' h => ⟨m, Nat.lt_succ_self m, h⟩, env1, O, H0, fp1, ok2, s2, n1, ?_⟩
        cases e3 : evS G.T b env1 with
        | nx e4 => rw [e3] at h1; exact fun σ' H' fp' ok' s' n' => ⟨e4, fp', ok', s', n', h1⟩
        | cnt e4 => rw [e3] at h1; exact fun σ' H' fp' ok' s' n' => ⟨e4, fp', ok', s', n', h1⟩
        | brk e4 => rw [e3] at h1; exact h1
        | ret d => rw [e3] at h1; exact h1
        | exc y e4 => rw [e3] at h1; exact h1
        | bad => rw [e3] at h1; exact h1
end Pv
/-! Pv14: raise, try. -/
namespace Pv
open PySem L2 PySem.Spec
theorem sndS_rse (n : Nat) : SndS (.rse n) := by
  refine sndS_one (fun {G c k sc Wx X st} g h => ?_) (fun G c sc sts => by cases sts <;> rfl)
  cases st <;> first | (simp [ck1] at h; done) | skip
  rename_i e cs pos
  match e, cs, h with
  | some (.Call (.Name x p) [.Constant (.str m) j p2] [] p3), none, h =>
    simp only [ck1, Bool.and_eq_true, Bool.not_eq_true', decide_eq_true_eq] at h
    obtain ⟨⟨⟨hh, h1⟩, rfl⟩, h3⟩ := h
    have hc := g.cls.sub n h1
    refine PS.imp (L2N.ps_raise (g.g.calm hh) g.g.tk (L2N.pmk_own (C := G.C.cl n) (bmB := veT) PySem.F.excBase_ValueError (by rw [g.g.hK]; exact g.cls.exI n h1) (by rw [g.g.hmg]; exact g.cls.mg n hc) (by rw [g.g.hK]; exact g.cls.kp n h1)
      (raises_own (by rw [g.g.hK]; exact g.cls.bs n h1) (by rw [g.g.hK]; exact g.cls.ty n h1)) (g.g.gl h3) (glB_ok h3).2.1)) ?_
    rintro Z σ H ⟨env, O, H0, fp, ok, s0, n0, hw⟩
    simp only [evS] at hw
    exact hw _ none σ H fp ok s0 n0 ⟨rfl, .inl ⟨rfl, rfl⟩⟩
/-- the world of an except suite -/
def Gx.hotX (G : Gx) (m : Nat) (a : Addr) : Gx := { G with C := { G.C with ex := some (m, a) } }
def noHX : WX := fun _ _ _ _ => False
theorem EnvR.cx {C C' : Kc} {B H : Hp} (hK : C.K = C'.K) (hc : C.cl = C'.cl) : ∀ {σ : L2.St} {env : Env} {fp : List Addr}, EnvR C B H σ env fp → (env.all noExnO = true ∨ C.ex = none) → EnvR C' B H σ env fp
  | _, _, _, .nil, _ => .nil
  | _, _, _, .skip r, w => .skip (EnvR.cx hK hc r (w.imp_left fun z => by simp only [List.all_cons, Bool.and_eq_true] at z; exact z.2))
  | _, _, _, .put r0 r, w => .put (r0.cx hK hc (w.imp_left fun z => by simp only [List.all_cons, Bool.and_eq_true] at z; exact z.1)) (EnvR.cx hK hc r (w.imp_left fun z => by simp only [List.all_cons, Bool.and_eq_true] at z; exact z.2))
theorem OkF.cx {C C' : Kc} {O fp : List Addr} {env : Env} {σ : L2.St} {H : Hp} (hK : C.K = C'.K) (hc : C.cl = C'.cl) (ok : OkF C O env σ H fp) (w : env.all noExnO = true ∨ C.ex = none) : OkF C' O env σ H fp := ⟨ok.rel.cx hK hc w, ok.nd, ok.dj, ok.od⟩
/-- a slot is emptied -/
theorem EnvR.gone {C : Kc} {B H : Hp} : ∀ {σ : L2.St} {env : Env} {fp : List Addr} {i : Nat}, EnvR C B H σ env fp → fp.Nodup → ∃ fp', EnvR C B H (σ.set i none) (env.set i none) fp' ∧ (∀ a ∈ fp', a ∈ fp) ∧ fp'.Nodup
  | _, _, _, i, .nil, n => ⟨[], .nil, fun _ z => z, n⟩
  | _, _, _, 0, .skip r, n => ⟨_, .skip r, fun _ z => z, n⟩
  | _, _, _, i + 1, .skip r, n => by
    obtain ⟨fp', h1, h2, h3⟩ := EnvR.gone (i := i) r n
    exact ⟨fp', .skip h1, h2, h3⟩
  | _, _, _, 0, .put (fq := g) (fp := fp) r e, n => ⟨fp, .skip e, fun a ha => List.mem_append_right _ ha, (List.nodup_append.mp n).2.1⟩
  | _, _, _, i + 1, .put (fq := g) (fp := fp) r0 r, n => by
    obtain ⟨n1, n2, n3⟩ := List.nodup_append.mp n
    obtain ⟨fp', h1, h2, h3⟩ := EnvR.gone (i := i) r n2
    refine ⟨g ++ fp', .put r0 h1, fun a ha => ?_, List.nodup_append.mpr ⟨n1, h3, fun a ha b hb e => n3 a ha b (h2 b hb) e⟩⟩
    exact (List.mem_append.mp ha).elim (List.mem_append_left _) fun z => List.mem_append_right _ (h2 a z)
theorem OkF.gone {C : Kc} {O fp : List Addr} {env : Env} {σ : L2.St} {H : Hp} {i : Nat} (ok : OkF C O env σ H fp) : ∃ fp', OkF C O (env.set i none) (σ.set i none) H fp' ∧ ∀ a ∈ fp', a ∈ fp := by
  obtain ⟨fp', h1, h2, h3⟩ := ok.rel.gone (i := i) ok.nd
  refine ⟨fp', ⟨h1.mono (cut_sub fun a ha => ?_) (Same.refl _), h3, fun a ha => ok.dj a (h2 a ha), ok.od⟩, h2⟩
  exact (List.mem_append.mp ha).elim (fun z => List.mem_append_left _ (h2 a z)) (List.mem_append_right _)
theorem boot_VE : bootBuiltins "ValueError" = some (.type "ValueError") := by decide +kernel
/-- isinstance of the exception at hand: one class, a tuple of classes -/
def rIsEH (K : PySem.W.Frag) (D a : Addr) : List V → Hp → VK → Prop := fun xs H Q => ∃ (cs : V) (b : Bool), xs = [.ref a, cs] ∧
  ((∃ cv, (∀ u, RelV cs u → u = cv) ∧ PySem.W.kitOne K (.ref D) cv = some b) ∨ (∃ tp vs us, cs = .ref tp ∧ H tp = some (.tup vs) ∧ Paired ClsV vs us ∧ PySem.W.kitAny K (.ref D) us = some b)) ∧ Q (.bl b) H
theorem call_isEH {X : Cx} {a D : Addr} {oe : Obj} (C : ExcC X.K D) (hz : L2N.Zn (.ref D) none oe) (hf : ∃ vs, oe.data = .fields vs) (at_ : ∀ {pins σ H s}, Inv X pins σ H s → s.heap.get? a = some oe) : CallR X (.builtin "isinstance") (rIsEH X.K D a) := by
  intro pins s σ H xs us Q I r h
  obtain ⟨cs, b, rfl, hcs, q⟩ := h
  obtain ⟨u1, u2, rfl, r1, r2⟩ := vals2 r
  cases r1
  have J : PySem.W.InstAt s.heap a oe D none := by
    have g := at_ I
    obtain ⟨vs, hv⟩ := hf
    obtain ⟨k1, k2, k3⟩ := hz
    cases oe with
    | mk cc dd dt sl =>
      simp only at k1 k2 hv
      subst k1 k2 hv
      exact ⟨g, rfl, rfl, trivial⟩
  have Z := PySem.W.handS_kitx_exc (x := a) (ox := oe) C.hg C.hk C.hs C.hd C.ha C.hn C.ht C.hm
  rcases hcs with ⟨cv, hcv, e⟩ | ⟨tp, vs, ws, rfl, hT, pc, e⟩
  · have ec := hcv _ r2
    subst ec
    exact PySem.W.kia_one Z I.kIn J e (fun z => nomatch z) fun tk => ⟨.bl b, H, I.tok tk, rfl, q⟩
  · cases (show u2 = Value.ref tp from r2)
    obtain ⟨_, its, rv, o, h1, h2, n, h3⟩ := (show ObjOk X.prog X.w H s.heap tp (.tup vs) from I.hok tp _ hT)
    have e3 := ClsV.all pc rv
    subst e3
    obtain ⟨oc, od, dt, sl⟩ := o
    simp only at h2 h3
    subst h2 h3
    exact PySem.W.kia_tup Z I.kIn J h1 e (fun z => nomatch z) fun tk => ⟨.bl b, H, I.tok tk, rfl, q⟩
theorem kitAny_any {K : PySem.W.Frag} {t : Value} {cl : Nat → Addr} {f : Nat → Bool} : ∀ (ns : List Nat), (∀ n ∈ ns, PySem.W.kitOne K t (.ref (cl n)) = some (f n)) → PySem.W.kitAny K t (ns.map fun n => .ref (cl n)) = some (ns.any f)
  | [], _ => kitAny_nil
  | n :: ns, h => by
    refine kitAny_cons (b := f n) (h n List.mem_cons_self) (fun z => ?_) (fun z => by rw [List.any_cons, z]; rfl)
    rw [List.any_cons, z, Bool.false_or]
    exact kitAny_any ns fun m hm => h m (List.mem_cons_of_mem _ hm)
theorem pairs_cl {cl : Nat → Addr} : ∀ ns : List Nat, Paired ClsV (ns.map fun n => V.ref (cl n)) (ns.map fun n => Value.ref (cl n))
  | [] => .nil
  | n :: ns => .cons (.own _) (pairs_cl ns)
section
variable {G : Gx} {c : Cn} {sc : Scope} {Wx : WX} {X : Cx} {k m : Nat} {a : Addr} {oe : Obj} {rs : List Nat}
theorem pa_cs (hsc : X.env.scope = sc) (hmg : X.mg = G.mg) (cl : ClsF G rs) : ∀ (ns : List Nat) (ys : List Expr), ckCs G.toGt sc ns ys = true → (∀ n ∈ ns, n ∈ G.T.cs) ∧ PA X ys (fun _ H Q => Q (ns.map fun n => V.ref (G.C.cl n)) H)
  | [], [], _ => ⟨fun _ z => (List.not_mem_nil z).elim, pa_nil⟩
  | n :: ns, .Name y py :: ys, h => by
    simp only [ckCs, Bool.and_eq_true, decide_eq_true_eq] at h
    obtain ⟨⟨⟨h1, rfl⟩, h3⟩, h4⟩ := h
    obtain ⟨i1, i2⟩ := pa_cs hsc hmg cl ns ys h4
    refine ⟨fun z hz => (List.mem_cons.mp hz).elim (fun q => by rw [q]; exact h1) (i1 z), ?_⟩
    refine PA.imp (pa_cons (pe_glob (v := .ref (G.C.cl n)) (by show X.env.scope.names.lookup _ = _; rw [hsc]; exact (glB_ok h3).1) (by rw [hmg]; exact cl.mg n h1) rfl (glB_ok h3).2.1) i2) fun σ H Q q => ?_
    exact q
/-- isinstance of the exception at hand -/
theorem hot_isx (hg : HotG G k X m a oe) (cl : ClsF G rs) (hK : X.K = G.C.K) (hmg : X.mg = G.mg) (hN : X.N = c.N) (hsc : X.env.scope = sc) (blt : ∀ x ∈ bltNames, G.mg x = none) {e : E} {x : Expr} (he : isxE e = true) (h : ckE G.toGt c sc e x = true) : PE X x (tE G Wx e) := by
  obtain ⟨hm, hz, hf⟩ := hg.ob
  have gl : ∀ {y : Str}, glB sc y = true → Gl X y := fun {y} z => by
    show X.env.scope.names.lookup y = _
    rw [hsc]
    exact (glB_ok z).1
  have mgN : ∀ {y : Str}, y ∈ bltNames → X.mg y = none := fun {y} z => by rw [hmg]; exact blt y z
  have ci := call_isEH (X := X) (a := a) (D := G.C.cl m) (oe := oe) (by rw [hK]; exact cl.exc m hm) hz hf (fun I => (hg.at_ I).1)
  have key : ∀ {i : Nat} {f : D → Res Bool} {g : Nat → Bool} {env : Env} {σ : L2.St} {H : Hp} {O fp : List Addr} {Q : VK}, (∀ d y, f d ≠ .exc y) → (∀ d b, f d = .ok b → ∃ n l, d = .ins .exn n l ∧ b = g n) → OkF G.C O env σ H fp →
      WG G.C (fp ++ O) Wx σ H (do return D.bl (← f (← getE env i))) (fun d => VR G.C (fp ++ O) fp H d Q) → σ[i]? = some (some (.ref a)) ∧ ∀ H', Same H H' → Q (.bl (g m)) H' := fun {i f g env σ H O fp Q} nx hv ok hw => by
    cases q : getE env i with
    | exc y => exact absurd q (getE_ne y)
    | bad => rw [q] at hw; exact hw.elim
    | ok d =>
      rw [q] at hw
      have hw' : WG G.C (fp ++ O) Wx σ H (do return D.bl (← f d)) (fun d => VR G.C (fp ++ O) fp H d Q) := hw
      cases q2 : f d with
      | exc y => exact absurd q2 (nx d y)
      | bad => rw [q2] at hw'; exact hw'.elim
      | ok b =>
        rw [q2] at hw'
        obtain ⟨n, l, rfl, rfl⟩ := hv d b q2
        obtain ⟨v, fq, h1, r, _⟩ := ok.rel.get (getE_ok q)
        cases r with
        | insX e =>
          have e' := hg.ex.symm.trans e
          cases e'
          exact ⟨h1, fun H' e => hw' (.bl _) H' [] e (.bl _) List.nodup_nil fun _ z => nomatch z⟩
  cases e <;> first | (cases he; done) | skip
  · rename_i i n
    cases x <;> first | (simp [ckE] at h; done) | skip
    rename_i fn xs kws pos
    match fn, xs, kws, h with
    | .Name nm p0, [.Name x p1, .Name y p2], [], h =>
      simp only [ckE, Bool.and_eq_true, decide_eq_true_eq] at h
      obtain ⟨⟨⟨⟨⟨⟨⟨⟨_, h1⟩, rfl⟩, h3⟩, rfl⟩, h5⟩, h6⟩, h7⟩, h8⟩ := h
      obtain ⟨d1, d2⟩ := nmB_ok h8
      refine PE.imp (pe_callB ci (gl h5) (mgN (by simp [bltNames])) PyProof.Rows.boot_isinstance
        (pa_cons (pe_var (i := i) (by rw [hN]; exact h3) (by rw [hsc]; exact visB_ok h7) d1 d2)
          (pa_cons (pe_glob (v := .ref (G.C.cl n)) (gl h6) (by rw [hmg]; exact cl.mg n h1) rfl (glB_ok h6).2.1) pa_nil))) ?_
      rintro σ H Q ⟨env, O, fp, ok, hw⟩
      simp only [evE] at hw
      obtain ⟨e1, e2⟩ := key (f := isxD G.T n) (g := fun m => G.T.sub m n) (fun d y => by unfold isxD; split <;> intro z <;> cases z) (fun d b z => by unfold isxD at z; split at z <;> cases z; exact ⟨_, _, rfl, rfl⟩) ok hw
      exact ⟨_, e1, .ref (G.C.cl n), _, rfl, .inl ⟨Value.ref (G.C.cl n), fun u r => by cases r; rfl, by rw [hK]; exact cl.kit m hm n h1⟩, e2 H (Same.refl _)⟩
  · rename_i i
    cases x <;> first | (simp [ckE] at h; done) | skip
    rename_i fn xs kws pos
    match fn, xs, kws, h with
    | .Name nm p0, [.Name x p1, .Name y p2], [], h =>
      simp only [ckE, Bool.and_eq_true, decide_eq_true_eq] at h
      obtain ⟨⟨⟨⟨⟨⟨⟨_, rfl⟩, h3⟩, rfl⟩, h5⟩, h6⟩, h7⟩, h8⟩ := h
      obtain ⟨d1, d2⟩ := nmB_ok h8
      refine PE.imp (pe_callB ci (gl h5) (mgN (by simp [bltNames])) PyProof.Rows.boot_isinstance
        (pa_cons (pe_var (i := i) (by rw [hN]; exact h3) (by rw [hsc]; exact visB_ok h7) d1 d2)
          (pa_cons (pe_bltn (v := .ty "ValueError") (gl h6) (mgN (by simp [bltNames])) boot_VE rfl (by decide) (by decide)) pa_nil))) ?_
      rintro σ H Q ⟨env, O, fp, ok, hw⟩
      simp only [evE] at hw
      obtain ⟨e1, e2⟩ := key (f := isvD) (g := fun _ => true) (fun d y => by unfold isvD; split <;> intro z <;> cases z) (fun d b z => by unfold isvD at z; split at z <;> cases z; exact ⟨_, _, rfl, rfl⟩) ok hw
      exact ⟨_, e1, .ty "ValueError", _, rfl, .inl ⟨Value.type "ValueError", fun u r => by cases r; rfl, by rw [hK]; exact cl.ve m hm⟩, e2 H (Same.refl _)⟩
  · rename_i i ns
    cases x <;> first | (simp [ckE] at h; done) | skip
    rename_i fn xs kws pos
    match fn, xs, kws, h with
    | .Name nm p0, [.Name x p1, .Tuple ys tc p2], [], h =>
      simp only [ckE, Bool.and_eq_true, decide_eq_true_eq] at h
      obtain ⟨⟨⟨⟨⟨⟨⟨_, hl⟩, rfl⟩, h3⟩, h4⟩, h5⟩, h7⟩, h8⟩ := h
      obtain ⟨d1, d2⟩ := nmB_ok h8
      obtain ⟨hn, hy⟩ := pa_cs (X := X) hsc hmg cl ns ys h4
      refine PE.imp (pe_callB ci (gl h5) (mgN (by simp [bltNames])) PyProof.Rows.boot_isinstance
        (pa_cons (pe_var (i := i) (by rw [hN]; exact h3) (by rw [hsc]; exact visB_ok h7) d1 d2)
          (pa_cons (pe_tup hy) pa_nil))) ?_
      rintro σ H Q ⟨env, O, fp, ok, hw⟩
      simp only [evE] at hw
      obtain ⟨e1, e2⟩ := key (f := isxsD G.T ns) (g := fun m => ns.any (G.T.sub m)) (fun d y => by unfold isxsD; split <;> intro z <;> cases z) (fun d b z => by unfold isxsD at z; split at z <;> cases z; exact ⟨_, _, rfl, rfl⟩) ok hw
      exact ⟨_, e1, by rw [List.length_map]; exact line_le hl, fun p hp => ⟨.ref p, _, rfl, .inr ⟨p, _, _, rfl, upd_same, pairs_cl ns, kitAny_any (f := G.T.sub m) ns fun n hn' => by rw [hK]; exact cl.kit m hm n (hn n hn')⟩, e2 _ (same_new hp)⟩⟩
end
theorem suite_good {G : Gx} {c : Cn} {sc : Scope} {Wx : WX} {X : Cx} {k : Nat} {m : Nat} {a : Addr} {oe : Obj} {pn : List (Addr × Obj)} (g : GoodS G c k sc Wx X) (hh : c.hot = false) (hm : m ∈ G.T.xs) (hz : L2N.Zn (.ref (G.C.cl m)) none oe) (hf : ∃ vs, oe.data = .fields vs) :
    GoodS (G.hotX m a) { c with hot := true, fs := [] } k sc noHX (X.suite a ((a, oe) :: pn)) :=
  let hg : HotG (G.hotX m a) k (X.suite a ((a, oe) :: pn)) m a oe :=
    { ex := rfl
      ob := ⟨hm, hz, hf⟩
      at_ := fun I => by
        have P1 := I.pin (a, oe) (List.mem_append_left _ List.mem_cons_self)
        exact ⟨P1.1, P1.2.1, fun z => (List.mem_cons.mp (I.stkSub _ z)).elim P1.2.2.1 P1.2.2.2.1⟩
      hc := by
        obtain ⟨vs, hv⟩ := hf
        exact ⟨(a, oe), ⟨rfl, vs, hv, hz.2.2 vs hv⟩, List.mem_cons_self⟩
      room := ⟨(g.g.room hh).dp, (g.g.room hh).un⟩ }
  let cls : ClsF (G.hotX m a) c.rs := { mg := g.cls.mg, sub := g.cls.sub, exI := g.cls.exI, kp := g.cls.kp, bs := g.cls.bs, ty := g.cls.ty, exm := g.cls.exm, kit := g.cls.kit, exc := g.cls.exc, ve := g.cls.ve }
  {
  g := { hP := g.g.hP, hw := g.g.hw, hK := g.g.hK, hmg := g.g.hmg, hb := g.g.hb, hN := g.g.hN, nd := g.g.nd, hsc := g.g.hsc
         calm := fun z => by cases z
         room := fun z => by cases z
         units := g.g.units
         tk := fun u s' ⟨_, _, _, _, _, _, _, _, _, _, _, _, _, _, _, _, z⟩ => z
         po := PassesOwn.never
         blt := g.g.blt
         fns := fun i z => (List.not_mem_nil z).elim
         fnh := fun i hi => ⟨(g.g.fnh i hi).ex⟩
         hotg := fun _ => ⟨m, a, oe, hg⟩
         isx := fun _ e x he hx => hot_isx (c := { c with hot := true, fs := [] }) hg cls g.g.hK g.g.hmg g.g.hN g.g.hsc g.g.blt he hx }
  fn := g.fn
  st := g.st
  fr := g.fr
  cls := cls
  exn := fun z => by cases z }
theorem sndS_tryX {b h : S} (n i : Nat) (hb : SndS b) (hh : SndS h) : SndS (.tryX b n i h) := by
  refine sndS_one (fun {G c k sc Wx X st} g hc => ?_) (fun G c sc sts => by cases sts <;> rfl)
  cases st <;> first | (simp [ck1] at hc; done) | skip
  rename_i xs hs els fin pos
  match hs, els, fin, hc with
  | [.ExceptHandler (some (.Name x np)) (some nm) ys p2], [], [], hc =>
    simp only [ck1, Bool.and_eq_true, Bool.not_eq_true', decide_eq_true_eq] at hc
    obtain ⟨⟨⟨⟨⟨⟨⟨⟨hh0, h1⟩, rfl⟩, h3⟩, h4⟩, h5⟩, h6⟩, h7⟩, h8⟩ := hc
    have hex := g.exn hh0
    match ys, h6, h8 with
    | y :: ys, _, h8 =>
      have ts : ∀ (a : Addr) (oe : Obj) (cls : Value) (d : Option Addr) (pn : List (Addr × Obj)), L2N.Zn cls d oe → (∃ vs, oe.data = .fields vs) → PSs (X.suite a ((a, oe) :: pn)) (y :: ys)
          (fun Z σ H => ∃ m, cls = .ref (G.C.cl m) ∧ d = none ∧ m ∈ G.T.xs ∧ tS (G.hotX m a) noHX (evS G.T h) Z σ H) := fun a oe cls d pn hz hf =>
        ⟨fun pins s σ H Z I hq => by
          obtain ⟨m, rfl, rfl, hm, hq⟩ := hq
          exact (hh.all (suite_good g hh0 hm hz hf) h8).run pins s σ H Z I hq⟩
      refine PS.imp (L2N.ps_try_as (c := .ref (G.C.cl n)) (i := i) (Wout := Wx) g.st g.fr g.nd (g.ni h4) (by show X.env.scope.names.lookup nm = _; rw [g.g.hsc]; exact h5) ⟨g.g.gl h3, (glB_ok h3).2.1, .inl (by rw [g.g.hmg]; exact g.cls.mg n h1)⟩ g.g.tk
        (tb := fun W => tS G W (evS G.T b)) (fun W pn xe tk po => hb.all (X := X.tr pn xe) (sc := sc) (c := c) (k := k)
          { g := { hP := g.g.hP, hw := g.g.hw, hK := g.g.hK, hmg := g.g.hmg, hb := g.g.hb, hN := g.g.hN, nd := g.g.nd, hsc := g.g.hsc, calm := g.g.calm, room := g.g.room, units := g.g.units, tk := tk, po := po, blt := g.g.blt, fns := g.g.fns, fnh := g.g.fnh, hotg := fun z => (by rw [hh0] at z; cases z), isx := fun z => by rw [hh0] at z; cases z }
            fn := g.fn, st := g.st, fr := g.fr, cls := g.cls, exn := g.exn } h7) ts) ?_
      rintro Z σ H ⟨env, O, H0, fp, ok, s0, n0, hw⟩
      simp only [evS] at hw
      refine ⟨env, O, H0, fp, ok, s0, n0, ?_⟩
      cases e : evS G.T b env with
      | nx e1 => rw [e] at hw; exact hw
      | ret d => rw [e] at hw; exact hw
      | brk e1 => rw [e] at hw; exact hw
      | cnt e1 => rw [e] at hw; exact hw
      | bad => rw [e] at hw; exact hw
      | exc x e1 =>
        rw [e] at hw
        intro cls dx σ1 H1 fp1 ok1 s1 n1 rx
        simp only at hw
        split at hw
        · rename_i hcc
          simp only [Bool.and_eq_true, decide_eq_true_eq, List.contains_iff_mem] at hcc
          obtain ⟨⟨⟨hm, hfs⟩, hfr⟩, hi⟩ := hcc
          have hfs' : x.fs = [] := by simpa using hfs
          obtain ⟨rfl, hdx⟩ := rx
          have hdx' : dx = none := hdx.elim (fun z => z.2) fun ⟨_, _, z, _⟩ => absurd hfs' z
          subst hdx'
          refine ⟨G.T.sub x.c n, by rw [g.g.hK]; exact g.cls.exm x.c hm n h1, fun hy a ha => ⟨x.c, rfl, rfl, hm, ?_⟩, fun hn => ?_⟩
          · rw [hy, if_pos rfl] at hw
            have ok2 : OkF (G.hotX x.c a).C O e1 σ1 H1 fp1 := OkF.cx (C := G.C) (C' := (G.hotX x.c a).C) rfl rfl ok1 (.inr hex)
            obtain ⟨fp3, ok3, hs3⟩ := ok2.put (fq := []) (v := .ref a) (d := .ins .exn x.c []) (i := i) (W := []) (Same.refl _) (.insX rfl) List.nodup_nil (fun _ z => nomatch z) rfl hi
            refine ⟨_, O, H0, fp3, ok3, s1, fun b hb => n1 b ((hs3 b hb).resolve_left List.not_mem_nil), ?_⟩
            cases e2 : evS G.T h (e1.set i (some (.ins .exn x.c []))) with
            | nx e3 =>
              rw [e2] at hw
              intro σ4 H4 fp4 ok4 s4 n4
              simp only [clrO] at hw
              split at hw
              · rename_i hk
                simp only [Bool.and_eq_true] at hk
                obtain ⟨fp5, ok5, hs5⟩ := ok4.gone (i := i)
                exact hw _ H4 fp5 (OkF.cx (C := (G.hotX x.c a).C) (C' := G.C) rfl rfl ok5 (.inl hk.2)) s4 fun b hb => n4 b (hs5 b hb)
              · exact (show False from hw).elim
            | ret d =>
              rw [e2] at hw
              intro v H4 fq e4 r4 nq hf
              simp only [clrO] at hw
              split at hw
              · rename_i hk
                exact hw v H4 fq e4 (Rl.cx (C := (G.hotX x.c a).C) (C' := G.C) rfl rfl r4 (.inl hk)) nq hf
              · exact (show False from hw).elim
            | brk e3 => rw [e2] at hw; exact (show False from hw).elim
            | cnt e3 => rw [e2] at hw; exact (show False from hw).elim
            | exc y e3 => rw [e2] at hw; exact (show False from hw).elim
            | bad => rw [e2] at hw; exact (show False from hw).elim
          · rw [hn, if_neg Bool.false_ne_true] at hw
            exact hw _ none σ1 H1 fp1 ok1 s1 n1 ⟨rfl, .inl ⟨hfs', rfl⟩⟩
        · exact (show False from hw).elim
end Pv
/-! Pv17: loops over a list, over a range. -/
namespace Pv
open PySem L2 PySem.Spec
theorem Rl.lst0 {C : Kc} {B H : Hp} {m : Md} {l : List Pv.D} {v : V} {f : List Addr} (r : Rl C B H [] v (.lst m l) f) (hf : f = []) : ∃ a vs, v = .ref a ∧ SqL C.K B a vs ∧ RlL C B H [] vs l [] := by
  cases r with
  | lstK h l => exact ⟨_, _, rfl, h, l⟩
  | lstS h l => exact ⟨_, _, rfl, .inl (.inl h), l⟩
  | lstB w _ _ => exact (List.not_mem_nil w).elim
  | lstO _ _ => cases hf
theorem putEs_len : ∀ {is : List Nat} {ds : List Pv.D} {env env' : Env}, putEs env is ds = .nx env' → is.length = ds.length
  | [], [], _, _, _ => rfl
  | [], _ :: _, _, _, h => by cases h
  | _ :: _, [], _, _, h => by cases h
  | i :: is, d :: ds, env, env', h => by
    unfold putEs at h
    unfold putE at h
    split at h
    · exact congrArg Nat.succ (putEs_len h)
    · cases h
/-- a loop's target -/
def gTg (K : Frag) : List Nat → TG
  | [i] => gName i
  | is => gTup K is.length (gNs is)
section
variable {G : Gx} {c : Cn} {k : Nat} {sc : Scope} {Wx : WX} {X : Cx}
theorem pg_ck (g : GoodS G c k sc Wx X) (hh : c.hot = false) {is : List Nat} {tg : Expr} (h : ckTg c sc is tg = true) : PG X tg (gTg X.K is) := by
  match is, tg, h with
  | [i], .Name x p, h =>
    simp only [ckTg, Bool.and_eq_true, decide_eq_true_eq] at h
    exact pg_name (i := i) g.nd (g.ni h.1) (g.loc h.2) (.inl (g.fn _))
  | i :: j :: is, .Tuple xs tk tp, h =>
    have h1 : ckN c sc (i :: j :: is) xs = true := h
    obtain ⟨l1, l2⟩ := names_len (env := X.env) h1
    exact pg_tup (g.g.calm hh) (pgs_names g h1) l1 l2
theorem tg_rd {is : List Nat} {d : Pv.D} {env env1 : Env} {O fp : List Addr} {σ : L2.St} {H : Hp} {x : V} {Q : L2.St → Hp → Prop} (he : tgE env is d = .nx env1) (r : Rl G.C (cut H (fp ++ O)) H [] x d []) (ok : OkF G.C O env σ H fp)
    (kk : ∀ σ' fp', OkF G.C O env1 σ' H fp' → (∀ a ∈ fp', a ∈ fp) → Q σ' H) : gTg G.C.K is x σ H Q := by
  match is, he with
  | [i], he =>
    have he' : putE env i d = .nx env1 := by cases d <;> exact he
    obtain ⟨h1, h2, h3⟩ := putE_nx (env' := env) (P := fun o => o = .nx env1) he' (fun z => by cases z)
    cases h3
    obtain ⟨fp', ok', hs⟩ := ok.put (fq := []) (Same.refl _) r List.nodup_nil (fun _ z => nomatch z) h1 h2
    exact kk _ fp' ok' fun a ha => (hs a ha).resolve_left List.not_mem_nil
  | i :: j :: is, he =>
    cases d <;> first | (cases he; done) | skip
    rename_i l he0
    have he' : putEs env (i :: j :: is) l = .nx env1 := he
    obtain ⟨a, vs, rfl, hT, _, ll⟩ := r.tup_inv
    refine ⟨a, vs, rfl, hT, ?_, ?_⟩
    · rw [ll.len]
      exact (putEs_len he').symm
    · refine putEs_rd (H0 := fun _ => none) ll ok (fun _ _ => rfl) ⟨fun o => o = .nx env1, he', ?_, ?_⟩
      · intro z
        cases z
      · intro env' e σ' fp' ok' hs
        cases e
        exact kk σ' fp' ok' hs
/-- a loop's invariant -/
def LpW (G : Gx) (Wx : WX) (O : List Addr) (Hk : Hp) (Z : Ends) (f : Env → Out) (t : Env → Pv.D → Out) (ds : List Pv.D) (i : Nat) (σ : L2.St) (H : Hp) : Prop :=
  ∃ env fp, OkF G.C O env σ H fp ∧ Same Hk H ∧ (∀ a ∈ fp, Hk a = none) ∧ OS G Wx O Hk Z (loopD f t (ds.drop i) env)
theorem lp_turn {b : S} {is : List Nat} {ds : List Pv.D} {i : Nat} {x : V} {d : Pv.D} {O : List Addr} {Hk H : Hp} {Z : Ends} {σ : L2.St} (hd : ds[i]? = some d) (w : LpW G Wx O Hk Z (evS G.T b) (fun e x => tgE e is x) ds i σ H)
    (r : ∀ fp : List Addr, (∀ a ∈ fp, Hk a = none) → Same Hk H → Rl G.C (cut H (fp ++ O)) H [] x d []) :
    gTg G.C.K is x σ H fun σ2 H2 => tS G Wx (evS G.T b) { Z with nx := LpW G Wx O Hk Z (evS G.T b) (fun e x => tgE e is x) ds (i + 1), ct := LpW G Wx O Hk Z (evS G.T b) (fun e x => tgE e is x) ds (i + 1), bk := Z.nx } σ2 H2 := by
  obtain ⟨env, fp, ok, s, n, h⟩ := w
  obtain ⟨hi, hdi⟩ := List.getElem?_eq_some_iff.mp hd
  rw [List.drop_eq_getElem_cons hi, hdi] at h
  simp only [loopD] at h
  cases e : tgE env is d with
  | nx e1 =>
    rw [e] at h
    refine tg_rd e (r fp n s) ok fun σ' fp' ok' hs => ⟨e1, O, Hk, fp', ok', s, fun a ha => n a (hs a ha), ?_⟩
    simp only at h
    cases e2 : evS G.T b e1 with
    | nx e3 => rw [e2] at h; exact fun σ' H' fp' ok' s' n' => ⟨e3, fp', ok', s', n', h⟩
    | cnt e3 => rw [e2] at h; exact fun σ' H' fp' ok' s' n' => ⟨e3, fp', ok', s', n', h⟩
    | brk e3 => rw [e2] at h; exact h
    | ret d => rw [e2] at h; exact h
    | exc y e3 => rw [e2] at h; exact h
    | bad => rw [e2] at h; exact h
  | _ => rw [e] at h; exact (show False from h).elim
theorem OS.weak {O : List Addr} {H0 Hk : Hp} {Z : Ends} {o : Out} (h : OS G Wx O H0 Z o) (s : Same H0 Hk) : OS G Wx O Hk Z o := by
  have nn : ∀ {fp : List Addr}, (∀ a ∈ fp, Hk a = none) → ∀ a ∈ fp, H0 a = none := fun n a ha => fresh_b s (n a ha)
  cases o with
  | nx env => exact fun σ' H' fp' ok s' n' => h σ' H' fp' ok (s.trans s') (nn n')
  | ret d => exact VR.weak h s fun _ z => z
  | brk env => exact fun σ' H' fp' ok s' n' => h σ' H' fp' ok (s.trans s') (nn n')
  | cnt env => exact fun σ' H' fp' ok s' n' => h σ' H' fp' ok (s.trans s') (nn n')
  | exc x env => exact fun cls dx σ' H' fp' ok s' n' => h cls dx σ' H' fp' ok (s.trans s') (nn n')
  | bad => exact h
theorem lp_start {O fp : List Addr} {H0 H : Hp} {Z : Ends} {σ : L2.St} {env : Env} {f : Env → Out} {t : Env → Pv.D → Out} {ds : List Pv.D} (ok : OkF G.C O env σ H fp) (s0 : Same H0 H) (n0 : ∀ a ∈ fp, H0 a = none) (h : OS G Wx O H0 Z (loopD f t ds env)) :
    LpW G Wx O (cut H fp) Z f t ds 0 σ H ∧ Same H0 (cut H fp) := by
  have s1 : Same H0 (cut H fp) := fun a o e => by
    rw [cut_out]
    · exact s0 a o e
    · intro z
      rw [n0 a z] at e
      cases e
  exact ⟨⟨env, fp, ok, same_cut _ _, fun a ha => cut_in ha, h.weak s1⟩, s1⟩
end
theorem sndS_forL {is : List Nat} {src : E} {b : S} (hb : SndS b) : SndS (.forL is src b) := by
  refine sndS_one (fun {G c k sc Wx X st} g h => ?_) (fun G c sc sts => by cases sts <;> rfl)
  cases st <;> first | (simp [ck1] at h; done) | skip
  rename_i tg iter xs els pos
  cases els <;> first | (simp [ck1] at h; done) | skip
  simp only [ck1, Bool.and_eq_true, Bool.not_eq_true'] at h
  obtain ⟨⟨⟨hh, h1⟩, h2⟩, h3⟩ := h
  refine PS.imp (ps_for g.g.po (g.g.calm hh) (pi_list ((snd src).E g.g h2)) (pg_ck g hh h1) (hb.all g h3) (fold_ck h2)) ?_
  rintro Z σ H ⟨env, O, H0, fp, ok, s0, n0, hw⟩
  simp only [evS] at hw
  refine ⟨env, O, fp, ok, (OS.out hw ok s0 n0).id (Same.refl H) (fun _ z => z) fun d hde q v H1 fq e1 r1 nq hf => ?_⟩
  clear hde
  cases d <;> first | (exact (show False from q).elim) | skip
  rename_i m l
  by_cases hc : (amL noBrwM l && noBrw (.lst m l)) = true
  · simp only [hc, if_true] at q
    simp only [Bool.and_eq_true] at hc
    have nf := ok.nf hf
    have fr : Rl G.C (cut H1 (fp ++ O)) H1 [] v (Pv.fz (.lst m l)) [] := (r1.keep (W' := []) (Same.refl _) hc.2 fun _ _ _ z => z).froze (os' := fp ++ O) (fq := []) (Same.refl _) (fun b hb => List.mem_append_right _ hb) nf fun _ z => (List.not_mem_nil z).elim
    obtain ⟨a, vs, rfl, hS, ll⟩ := Rl.lst0 (m := fzM m) (l := mpL fzM l) fr rfl
    have ok1 := ok.grow e1
    have s1 := s0.trans e1
    have q' : OS G Wx O H0 Z (loopD (evS G.T b) (fun e x => tgE e is x) (mpL fzM l) env) := q
    obtain ⟨w0, _⟩ := lp_start ok1 s1 n0 q'
    have sB : ∀ {H' : Hp} {fp' : List Addr}, (∀ a ∈ fp', cut H1 fp a = none) → Same (cut H1 fp) H' → Same (cut H1 (fp ++ O)) (cut H' (fp' ++ O)) := fun {H' fp'} n s b o e => by
      obtain ⟨e2, e3⟩ := cut_some e
      have e4 : cut H1 fp b = some o := by
        rw [cut_out fun z => e3 (List.mem_append_left _ z)]
        exact e2
      rw [cut_out]
      · exact s b o e4
      · intro z
        rcases List.mem_append.mp z with z | z
        · rw [n b z] at e4
          cases e4
        · exact e3 (List.mem_append_right _ z)
    have hlen : vs.length = (mpL fzM l).length := ll.len
    have hS' : ∀ {H' : Hp}, Same (cut H1 fp) H' → SqL X.K H' a vs := fun {H'} s => by
      rw [g.g.hK]
      exact Same.sqL (sB (fp' := []) (fun _ z => (List.not_mem_nil z).elim) s |>.trans (same_cut _ _)) hS
    refine ⟨a, rfl, ⟨vs, hS' (same_cut _ _)⟩, ?_⟩
    rw [show gTg X.K is = gTg G.C.K is by rw [g.g.hK]]
    refine for_list (xs := vs) (LpW G Wx O (cut H1 fp) Z (evS G.T b) (fun e x => tgE e is x) (mpL fzM l)) w0 (fun i σ' H' _ ⟨_, _, _, s, _⟩ => hS' s) (fun i x σ' H' hx w => ?_) fun σ' H' w => ?_
    · obtain ⟨d, hd, rd⟩ := ll.getV hx
      exact lp_turn hd w fun fp' n s => rd.keep (sB n s) rd.nb fun _ z => (List.not_mem_nil z).elim
    · obtain ⟨env', fp', ok', s', n', h'⟩ := w
      rw [hlen, List.drop_length] at h'
      exact h' σ' H' fp' ok' s' n'
  · simp only [hc] at q
    exact (show False from q).elim
theorem sndS_forR {j : Nat} {n : E} {b : S} (hb : SndS b) : SndS (.forR j n b) := by
  refine sndS_one (fun {G c k sc Wx X st} g h => ?_) (fun G c sc sts => by cases sts <;> rfl)
  cases st <;> first | (simp [ck1] at h; done) | skip
  rename_i tg iter xs els pos
  match tg, iter, els, h with
  | .Name x p, .Call (.Name r rp) [a] [] cp, [], h =>
    simp only [ck1, Bool.and_eq_true, Bool.not_eq_true', decide_eq_true_eq] at h
    obtain ⟨⟨⟨⟨⟨⟨hh, h1⟩, h2⟩, rfl⟩, h4⟩, h5⟩, h6⟩ := h
    refine PS.imp (ps_for g.g.po (g.g.calm hh) (pi_range1 (g.g.gl h4) (g.g.mgN (by simp [bltNames])) (pa_cons ((snd n).E g.g h5) pa_nil (star_cons (ck_notSt h5))) (star_cons (ck_notSt h5))) (pg_name (i := j) g.nd (g.ni h1) (g.loc h2) (.inl (g.fn _))) (hb.all g h6)) ?_
    rintro Z σ H ⟨env, O, H0, fp, ok, s0, n0, hw⟩
    simp only [evS] at hw
    refine ⟨env, O, fp, ok, (OS.out hw ok s0 n0).id (Same.refl H) (fun _ z => z) fun d hde q v H1 fq e1 r1 nq hf => ?_⟩
    clear hde
    cases d <;> first | (exact (show False from q).elim) | skip
    rename_i m
    obtain ⟨rfl, _⟩ := r1.int_inv
    by_cases hc : decide (m.natAbs < 1000000) = true
    · simp only [hc, if_true] at q
      simp only [decide_eq_true_eq] at hc
      have q' : OS G Wx O H0 Z (loopD (evS G.T b) (fun e x => tgE e [j] x) (rngD m) env) := q
      obtain ⟨w0, _⟩ := lp_start (ok.grow e1) (s0.trans e1) n0 q'
      refine ⟨m, rfl, by omega, by omega, ?_⟩
      refine for_range (LpW G Wx O (cut H1 fp) Z (evS G.T b) (fun e x => tgE e [j] x) (rngD m)) w0 (fun i σ' H' hi w => ?_) fun σ' H' w => ?_
      · rw [show (0 : Int) + (i : Int) = (i : Int) from Int.zero_add _]
        exact lp_turn (rngD_get hi) w fun fp' n s => .int _
      · obtain ⟨env', fp', ok', s', n', h'⟩ := w
        rw [show m.toNat = (rngD m).length from (rngD_len m).symm, List.drop_length] at h'
        exact h' σ' H' fp' ok' s' n'
    · simp only [hc] at q
      exact (show False from q).elim
theorem sndS (s : S) : SndS s := by
  induction s with
  | nop => exact sndS_nop
  | seq a b ha hb => exact sndS_seq ha hb
  | asg i e => exact sndS_asg i e
  | asgT is e => exact sndS_asgT is e
  | exp e => exact sndS_exp e
  | app i e => exact sndS_app i e
  | aug i o e => exact sndS_aug i o e
  | ret e => exact sndS_ret e
  | retN => exact sndS_retN
  | retV i => exact sndS_retV i
  | ife c a b ha hb => exact sndS_ife ha hb
  | forL is src b hb => exact sndS_forL hb
  | forR j n b hb => exact sndS_forR hb
  | whl n c b hb => exact sndS_whl hb
  | brk => exact sndS_brk
  | cnt => exact sndS_cnt
  | rse n => exact sndS_rse n
  | tryX b n i h hb hh => exact sndS_tryX n i hb hh
  | fz i => exact sndS_fz i
end Pv
/-! Pv15: a def is worth its body. -/
namespace Pv
open PySem L2 PySem.Spec
/-- a body's worth -/
def bodyD (T : Tb) (s : S) (n : Nat) (ds : List D) : Res D := match evS T s (ds.map some ++ List.replicate (n - ds.length) none) with
  | .nx _ => .ok .non
  | .ret d => .ok d
  | .exc x _ => .exc x
  | _ => .bad
theorem EnvR.blank {C : Kc} {B H : Hp} : ∀ n, EnvR C B H (List.replicate n none) (List.replicate n none) []
  | 0 => .nil
  | n + 1 => .skip (EnvR.blank n)
theorem EnvR.start {C : Kc} {B H : Hp} (n : Nat) : ∀ {vs : List V} {ds : List D} {fp : List Addr}, RlL C B H [] vs ds fp → EnvR C B H (vs.map some ++ List.replicate n none) (ds.map some ++ List.replicate n none) fp
  | _, _, _, .nil => EnvR.blank n
  | _, _, _, .cons h l => .put h (EnvR.start n l)
/-- what a def's text must say -/
structure DefT (G : Gt) (c : Cn) (ps : List Str) (sc : Scope) (body : List Stmt) (s : S) : Prop where
  sco : FnScope c.N ps sc
  ck : ckS G c sc s body = true
  hot : c.hot = false
/-- what the world must say -/
structure WorldT (G : Gx) (rs : List Nat) : Prop where
  cls : ClsF G rs
  ex : G.C.ex = none
  blt : ∀ x ∈ bltNames, G.mg x = none
/-- THE RULE for a def -/
theorem def_ok {G : Gx} {c : Cn} {k : Nat} {x qual : Str} {params : Arguments} {body : List Stmt} {sc : Scope} {dvs : List V} {f : Addr} {fd : FuncData} {ps : List Str} {s : S} {F : Fm}
    (hF : FunD G.C.K x qual params body sc dvs [] f fd) (t : DefT G c ps sc body s) (w : WorldT G c.rs) (sn : SndS s) (fns : ∀ i ∈ c.fs, FnIs G k i) (fnh : ∀ i ∈ c.hs, FnIHs G k i) (ar : F.ar = ps.length) (hm : ∀ ds, ds.length = ps.length → F.m ds = bodyD G.T s c.N.length ds) :
    FnOk G.P G.w G.C.K G.mg G.base (L2N.CX G.P G.w) (k + 1) f fd ps (spD G.C F) := by
  refine hF.ok t.sco (fun vs H Q E ⟨O, ds, r, _, hl, _⟩ => by rw [r.len, hl, ar]) fun cdv A outer s0 H vs Q E hr h => ?_
  obtain ⟨O, ds, r, ho, hl, h⟩ := h
  have hu := hr.un
  have g : GoodS G c k sc (fun cls d _ H => E cls d H) (cxOf (L2N.CX G.P G.w) G.P G.w G.C.K G.mg G.base c.N qual sc f cdv A outer s0 H E) :=
    { g := { hP := rfl, hw := rfl, hK := rfl, hmg := rfl, hb := rfl, hN := rfl, nd := t.sco.nd, hsc := rfl
             calm := fun _ => rfl
             room := fun _ => hr
             units := Nat.lt_of_le_of_lt (Nat.le_trans (Nat.add_le_add_left (show 65 ≤ 200 by decide) _) (Nat.add_le_add_right (Nat.le_add_right _ _) _)) hu
             tk := L2N.takes_of rfl rfl rfl rfl
             po := passes_of rfl
             blt := w.blt
             fns := fns
             fnh := fnh
             hotg := fun z => by rw [t.hot] at z; cases z
             isx := fun z => by rw [t.hot] at z; cases z }
      fn := fun _ => rfl
      st := rfl
      fr := rfl
      cls := w.cls
      exn := fun _ => w.ex }
  refine ⟨_, sn.all g t.ck, ?_⟩
  have hvl := r.len
  refine ⟨ds.map some ++ List.replicate (c.N.length - ds.length) none, O, H, [], ?_, Same.refl _, fun _ z => (List.not_mem_nil z).elim, ?_⟩
  · refine ⟨?_, List.nodup_nil, fun _ z => (List.not_mem_nil z).elim, ho⟩
    have e := EnvR.start (c.N.length - ds.length) r
    show EnvR G.C (cut H ([] ++ O)) H (L2.start c.N vs) _ []
    unfold L2.start
    rw [hvl]
    exact e
  · rw [hm ds (by rw [hl, ar])] at h
    unfold bodyD at h
    cases e : evS G.T s (ds.map some ++ List.replicate (c.N.length - ds.length) none) with
    | nx env' =>
      rw [e] at h
      intro σ' H' fp' ok s1 n1
      exact h .non H' [] s1 .non List.nodup_nil fun _ z => nomatch z
    | ret d => rw [e] at h; exact h
    | exc x env' =>
      rw [e] at h
      intro cls dx σ' H' fp' ok s1 n1 rx
      exact h cls dx H' s1 (rx.mono (cut_sub fun a ha => List.mem_append_right _ ha))
    | brk env' => rw [e] at h; exact h.elim
    | cnt env' => rw [e] at h; exact h.elim
    | bad => rw [e] at h; exact h.elim
/-- what a def's text must say, within an except suite -/
structure DefTH (G : Gt) (c : Cn) (ps : List Str) (sc : Scope) (body : List Stmt) (s : S) : Prop where
  sco : FnScope c.N ps sc
  ck : ckS G c sc s body = true
  hot : c.hot = true
  fs : c.fs = []
/-- THE RULE for a def that is called within an except suite -/
theorem fnh_is {G : Gx} {c : Cn} {k : Nat} {x qual : Str} {params : Arguments} {body : List Stmt} {sc : Scope} {dvs : List V} {f : Addr} {fd : FuncData} {ps : List Str} {s : S} {F : Fm}
    (hF : FunD G.C.K x qual params body sc dvs [] f fd) (t : DefTH G c ps sc body s) (w : WorldT G c.rs) (sn : SndS s) (fnh : ∀ i ∈ c.hs, FnIHs G k i) (ar : F.ar = ps.length) (hm : ∀ ds, F.m ds = bodyD G.T s c.N.length ds)
    (hmg : G.mg x = some (.ref f)) (hb : ∀ n, n ≤ F.dfl.length → ∃ us, Binds G.C.K fd ps us ∧ Vals ((F.dfl.drop n).map scV) us) (hd : F.dfl.all isSc = true) : FnIH G (k + 1) F x := by
  refine ⟨f, fd, ps, fun m a oe base ob kb ha => ?_, hmg, hF.kp, ar.symm, hb, hd⟩
  obtain ⟨oc, od, dV, kV, doc, pm, an, cdv, ct, osl, e, l, cd, _, _⟩ := hF.ex
  subst e
  refine L2H.fn_ofH l cd t.sco (fun vs H Q E ⟨O, ds, r, _, hl, _⟩ => by rw [r.len, hl]; exact ar) fun A outer s0 H vs Q E p hot hr h => ?_
  obtain ⟨O, ds, r, ho, hl, h⟩ := h
  let G' : Gx := { G with C := ⟨G.C.K, G.C.cl, some (m, a)⟩, base := base }
  have cls : ClsF G' c.rs := { mg := w.cls.mg, sub := w.cls.sub, exI := w.cls.exI, kp := w.cls.kp, bs := w.cls.bs, ty := w.cls.ty, exm := w.cls.exm, kit := w.cls.kit, exc := w.cls.exc, ve := w.cls.ve }
  have hg : HotG G' k (L2H.cxH (L2N.CX G.P G.w) G.P G.w G.C.K G.mg base c.N qual sc f cdv A outer s0 H E p) m a oe :=
    { ex := rfl
      ob := ob
      at_ := fun {pins σ H1 s1} I => by
        have q := I.bs a oe ha
        refine ⟨q.1, q.2, fun z => ?_⟩
        have y := (I.env0.funs.mem z).1
        rw [show (L2H.cxH (L2N.CX G.P G.w) G.P G.w G.C.K G.mg base c.N qual sc f cdv A outer s0 H E p).base = base from rfl, ha] at y
        cases y
      hc := ⟨p, hot, List.mem_singleton.mpr rfl⟩
      room := hr }
  have g : GoodS G' c k sc noHX (L2H.cxH (L2N.CX G.P G.w) G.P G.w G.C.K G.mg base c.N qual sc f cdv A outer s0 H E p) :=
    { g := { hP := rfl, hw := rfl, hK := rfl, hmg := rfl, hb := rfl, hN := rfl, nd := t.sco.nd, hsc := rfl
             calm := fun z => by rw [t.hot] at z; cases z
             room := fun z => by rw [t.hot] at z; cases z
             units := Nat.lt_of_le_of_lt (Nat.le_trans (Nat.add_le_add_left (show 65 ≤ 200 by decide) _) (Nat.add_le_add_right (Nat.le_add_right _ _) _)) hr.un
             tk := fun u s' ⟨_, _, _, _, _, _, _, _, _, _, _, _, _, _, _, _, z⟩ => z.elim
             po := passes_of rfl
             blt := w.blt
             fns := fun i z => by rw [t.fs] at z; exact (List.not_mem_nil z).elim
             fnh := fun i hi => by
               obtain ⟨f', fd', ps', q1, q2⟩ := (fnh i hi).ex
               exact ⟨f', fd', ps', fun m' a' oe' base' ob' kb' ha' => q1 m' a' oe' base' ob' (fun b o z => kb' b o (kb b o z)) ha', q2⟩
             hotg := fun _ => ⟨m, a, oe, hg⟩
             isx := fun _ e x he hx => hot_isx hg cls rfl rfl rfl rfl w.blt he hx }
      fn := fun _ => rfl
      st := rfl
      fr := rfl
      cls := cls
      exn := fun z => by rw [t.hot] at z; cases z }
  refine ⟨_, sn.all g t.ck, ?_⟩
  have hvl := r.len
  refine ⟨ds.map some ++ List.replicate (c.N.length - ds.length) none, O, H, [], ?_, Same.refl _, fun _ z => (List.not_mem_nil z).elim, ?_⟩
  · refine ⟨?_, List.nodup_nil, fun _ z => (List.not_mem_nil z).elim, ho⟩
    have e := EnvR.start (c.N.length - ds.length) r
    show EnvR G'.C (cut H ([] ++ O)) H (L2.start c.N vs) _ []
    unfold L2.start
    rw [hvl]
    exact e
  · rw [show (hotF F).m ds = okO (F.m ds) from rfl, hm ds] at h
    unfold bodyD at h
    cases e : evS G.T s (ds.map some ++ List.replicate (c.N.length - ds.length) none) with
    | nx env' =>
      rw [e] at h
      intro σ' H' fp' ok s1 n1
      exact h .non H' [] s1 .non List.nodup_nil fun _ z => nomatch z
    | ret d => rw [e] at h; exact h
    | exc x env' => rw [e] at h; exact h.elim
    | brk env' => rw [e] at h; exact h.elim
    | cnt env' => rw [e] at h; exact h.elim
    | bad => rw [e] at h; exact h.elim
end Pv
/-! Pv16: the law's end. -/
namespace Pv
open PySem L2 PySem.Spec
theorem FnI.up {G : Gx} {j k : Nat} {F : Fm} {nm : Str} (h : FnI G j F nm) (hk : j ≤ k) : FnI G k F nm := by
  obtain ⟨f, fd, ps, h1, h2, h3, h4, h5⟩ := h.ex
  exact ⟨f, fd, ps, h1.mono hk, h2, h3, h4, h5⟩
theorem FnIH.up {G : Gx} {j k : Nat} {F : Fm} {nm : Str} (h : FnIH G j F nm) (hk : j ≤ k) : FnIH G k F nm := by
  obtain ⟨f, fd, ps, h1, h2⟩ := h.ex
  exact ⟨f, fd, ps, fun m a oe base q1 q2 q3 => ⟨(h1 m a oe base q1 q2 q3).len, fun A outer s H args us vs Q E p hr => (h1 m a oe base q1 q2 q3).run A outer s H args us vs Q E p (hr.mono hk)⟩, h2⟩
/-- what one class of errors must say -/
structure ClsO (K : PySem.W.Frag) (mg : Str → Option Value) (nm : Str) (C : Addr) : Prop where
  mg : mg nm = some (.ref C)
  bs : PySem.W.subIn K (.ref C) (.type "BaseException") = some true
  ty : PySem.W.typeIn K (.ref C) = some (.type "type")
  hd : PySem.W.hasDictIn K C = true
/-- what one that is raised must say besides -/
structure ClsR (K : PySem.W.Frag) (C : Addr) : Prop where
  kp : PySem.W.keepIn K (.ref C) = true
  exc : ExcC K C
  ve : PySem.W.subIn K (.ref C) (.type "ValueError") = some true
  ex : PySem.W.excIn K C veT "ValueError.__new__" = true
theorem kit_ref {K : PySem.W.Frag} {cls : Value} {C : Addr} {b : Bool} (hdct : PySem.W.hasDictIn K C = true) (ht : PySem.W.typeIn K (.ref C) = some (.type "type")) (h4 : PySem.W.subIn K cls (.ref C) = some b) (hr : (cls == .ref C) = true → b = true) : PySem.W.kitOne K cls (.ref C) = some b := by
  obtain ⟨cd, hc, _⟩ := PySem.W.any_some hdct
  unfold PySem.W.kitOne
  split
  · rename_i e
    rw [hr e]
  · have e2 : ((PySem.W.clsIn K C).isSome && PySem.W.typeIn K (.ref C) == some (.type "type")) = true := by rw [hc, ht] <;> rfl
    show (if ((PySem.W.clsIn K C).isSome && PySem.W.typeIn K (.ref C) == some (.type "type")) = true then PySem.W.subIn K cls (.ref C) else none) = some b
    rw [if_pos e2]
    exact h4
theorem kit_ve {K : PySem.W.Frag} {C : Addr} (h : PySem.W.subIn K (.ref C) (.type "ValueError") = some true) : PySem.W.kitOne K (.ref C) (.type "ValueError") = some true := by
  unfold PySem.W.kitOne
  rw [if_neg (show ¬ ((Value.ref C == Value.type "ValueError") = true) from fun z => by cases beq_iff_eq.mp z)]
  show (if PySem.W.kitMeta "ValueError" = true then PySem.W.subIn K (.ref C) (.type "ValueError") else none) = some true
  rw [if_pos (by decide +kernel)]
  exact h
theorem clsF_of {G : Gx} {rs : List Nat} (one : ∀ n ∈ G.T.cs, ClsO G.C.K G.mg (G.cn n) (G.C.cl n)) (hrs : ∀ n ∈ rs, n ∈ G.T.xs) (rd : ∀ n ∈ G.T.xs, n ∈ G.T.cs ∧ ClsR G.C.K (G.C.cl n))
    (pr : ∀ m ∈ G.T.xs, ∀ n ∈ G.T.cs, PySem.W.subIn G.C.K (.ref (G.C.cl m)) (.ref (G.C.cl n)) = some (G.T.sub m n)) (rf : ∀ m ∈ G.T.xs, ∀ n ∈ G.T.cs, G.C.cl m = G.C.cl n → G.T.sub m n = true) : ClsF G rs where
  mg := fun n h => (one n h).mg
  sub := fun n h => (rd n (hrs n h)).1
  exI := fun n h => (rd n (hrs n h)).2.ex
  kp := fun n h => (rd n (hrs n h)).2.kp
  bs := fun n h => (one n (rd n (hrs n h)).1).bs
  ty := fun n h => (one n (rd n (hrs n h)).1).ty
  exm := fun m hm n hn => PySem.W.exm_ref (one n hn).bs (one n hn).hd (one n hn).ty (pr m hm n hn)
  kit := fun m hm n hn => kit_ref (one n hn).hd (one n hn).ty (pr m hm n hn) fun e => rf m hm n hn (Value.ref.inj (beq_iff_eq.mp e))
  exc := fun n h => (rd n h).2.exc
  ve := fun n h => kit_ve (rd n h).2.ve
theorem fn_is {G : Gx} {c : Cn} {k : Nat} {x qual : Str} {params : Arguments} {body : List Stmt} {sc : Scope} {dvs : List V} {f : Addr} {fd : FuncData} {ps : List Str} {s : S} {F : Fm}
    (hF : FunD G.C.K x qual params body sc dvs [] f fd) (t : DefT G c ps sc body s) (w : WorldT G c.rs) (sn : SndS s) (fns : ∀ i ∈ c.fs, FnIs G k i) (fnh : ∀ i ∈ c.hs, FnIHs G k i) (ar : F.ar = ps.length) (hm : ∀ ds, F.m ds = bodyD G.T s c.N.length ds)
    (hmg : G.mg x = some (.ref f)) (hb : ∀ n, n ≤ F.dfl.length → ∃ us, Binds G.C.K fd ps us ∧ Vals ((F.dfl.drop n).map scV) us) (hd : F.dfl.all isSc = true) : FnI G (k + 1) F x :=
  ⟨f, fd, ps, def_ok hF t w sn fns fnh ar fun ds _ => hm ds, hmg, hF.kp, ar.symm, hb, hd⟩
/-- the law's classes and names -/
structure Lw where
  cs : List Nat
  sub : Nat → Nat → Bool
  rs : List Nat
  fnm : Nat → Str
  cnm : Nat → Str
/-- what the top must have written of them -/
structure Wd (L : Lw) (K : PySem.W.Frag) (mg : Str → Option Value) (cl : Nat → Addr) : Prop where
  one : ∀ n ∈ L.cs, ClsO K mg (L.cnm n) (cl n)
  rd : ∀ n ∈ L.rs, n ∈ L.cs ∧ ClsR K (cl n)
  pr : ∀ m ∈ L.rs, ∀ n ∈ L.cs, PySem.W.subIn K (.ref (cl m)) (.ref (cl n)) = some (L.sub m n)
  rf : ∀ m ∈ L.rs, ∀ n ∈ L.cs, cl m = cl n → L.sub m n = true
  blt : ∀ x ∈ bltNames, mg x = none
def dfF : Fm := ⟨0, [], fun _ => .bad⟩
def gx (L : Lw) (f : Nat → Fm) (P : Program) (w : World) (K : PySem.W.Frag) (mg : Str → Option Value) (base : Heap) (cl : Nat → Addr) : Gx := { T := ⟨f, L.sub, L.cs, L.rs⟩, fn := L.fnm, cn := L.cnm, P := P, w := w, C := ⟨K, cl, none⟩, mg := mg, base := base }
section
variable {L : Lw} {f g : Nat → Fm} {P : Program} {w : World} {K : PySem.W.Frag} {mg : Str → Option Value} {base : Heap} {cl : Nat → Addr}
theorem Wd.world (W : Wd L K mg cl) {rs : List Nat} (h : rs.all (fun n => decide (n ∈ L.rs)) = true) : WorldT (gx L f P w K mg base cl) rs where
  cls := clsF_of W.one (fun n hn => of_decide_eq_true (List.all_eq_true.mp h n hn)) W.rd W.pr W.rf
  ex := rfl
  blt := W.blt
theorem FnIH.tb {k : Nat} {F : Fm} {nm : Str} (h : FnIH (gx L f P w K mg base cl) k F nm) : FnIH (gx L g P w K mg base cl) k F nm := ⟨h.ex⟩
theorem FnI.tb {k : Nat} {F : Fm} {nm : Str} (h : FnI (gx L f P w K mg base cl) k F nm) : FnI (gx L g P w K mg base cl) k F nm := ⟨h.ex⟩
end
theorem FunD.ofN {K : PySem.W.Frag} {x qual : Str} {params : Arguments} {body : List Stmt} {sc : Scope} {f : Addr} {oc : Value} {od an : Option Addr} {kV doc pm cdv ct : Value} {osl : Array (Option Value)} (l : K.lookup f = some ⟨oc, od, .func (PySem.W.fnOf x qual params body sc .none kV doc pm an cdv ct), osl⟩)
    (c : PySem.W.codeIn K cdv qual = true) (k : PySem.W.keepIn K (.ref f) = true) : FunD K x qual params body sc [] [] f (PySem.W.fnOf x qual params body sc .none kV doc pm an cdv ct) := ⟨⟨oc, od, .none, kV, doc, pm, an, cdv, ct, osl, rfl, l, c, .inl ⟨rfl, rfl⟩, .inl rfl⟩, k⟩
theorem FunD.ofD {K : PySem.W.Frag} {x qual : Str} {params : Arguments} {body : List Stmt} {sc : Scope} {f Ta : Addr} {oc oc' : Value} {od od' an : Option Addr} {kV doc pm cdv ct : Value} {osl osl' : Array (Option Value)} {its : List Value} {n : Nat} {dvs : List V} (l : K.lookup f = some ⟨oc, od, .func (PySem.W.fnOf x qual params body sc (.ref Ta) kV doc pm an cdv ct), osl⟩)
    (c : PySem.W.codeIn K cdv qual = true) (k : PySem.W.keepIn K (.ref f) = true) (d : K.lookup Ta = some ⟨oc', od', .seq its.toArray n, osl'⟩) (ne : dvs ≠ []) (v : Vals dvs its) : FunD K x qual params body sc dvs [] f (PySem.W.fnOf x qual params body sc (.ref Ta) kV doc pm an cdv ct) :=
  ⟨⟨oc, od, .ref Ta, kV, doc, pm, an, cdv, ct, osl, rfl, l, c, .inr ⟨ne, Ta, _, its, n, rfl, d, rfl, v⟩, .inl rfl⟩, k⟩
theorem bind0 {K : PySem.W.Frag} {fd : FuncData} {ps : List Str} (b : Binds K fd ps []) : ∀ n, n ≤ ([] : List Pv.D).length → ∃ us, Binds K fd ps us ∧ Vals ((([] : List Pv.D).drop n).map scV) us := fun n _ => ⟨[], b, by cases n <;> exact .nil⟩
/-- the law's promise -/
def spLawB (K : PySem.W.Frag) : Sp := fun vs H Q _ => ∃ (a : Addr) (ns : List Int), vs = [.ref a] ∧ SqL K H a (ns.map V.int) ∧ ns.length ≤ 63 ∧ (∀ z ∈ ns, Builtin.Int.intBits z ≤ 1048576) ∧ ∀ H', Q (.bl true) H'
theorem RlL.scr {C : Kc} {B H : Hp} {W : List Addr} : ∀ ns : List Int, RlL C B H W (ns.map V.int) (ns.map D.int) []
  | [] => .nil
  | n :: ns => .cons (fp := []) (fq := []) (.int n) (RlL.scr ns)
theorem law_ok {G : Gx} {k : Nat} {f : Addr} {fd : FuncData} {ps : List Str} {F : Fm} (h : FnOk G.P G.w G.C.K G.mg G.base (L2N.CX G.P G.w) k f fd ps (spD G.C F)) (ar : F.ar = 1)
    (law : ∀ ns : List Int, ns.length ≤ 63 → (∀ z ∈ ns, Builtin.Int.intBits z ≤ 1048576) → F.m [.lst .kon (ns.map D.int)] = .ok (.bl true)) : FnOk G.P G.w G.C.K G.mg G.base (L2N.CX G.P G.w) k f fd ps (spLawB G.C.K) := by
  refine h.imp fun vs H Q E ⟨a, ns, e, hs, hl, hb, hq⟩ => ?_
  subst e
  refine ⟨[], [.lst .kon (ns.map D.int)], .cons (fp := []) (fq := []) (.lstK (by rw [cut_nil]; exact hs) (RlL.scr ns)) .nil, fun _ z => (List.not_mem_nil z).elim, ar.symm, ?_⟩
  rw [law ns hl hb]
  intro v H' fq e r nq hf
  obtain ⟨rfl, _⟩ := r.bl_inv
  exact hq H'
theorem walk_k {l : PySem.W.OpenLaw} {k : Nat} {q : Program} {loose : List Str} {XP : (Str → Option Value) → Heap → Prop} {YP : World → Heap → Prop} {d : DefRec} {K : Params → PySem.W.Frag} (x : Str) (hn : l.most = some 63) (hdf : d.params.defaults = []) (hr : Room k callerA)
    (hY : ∀ (w : World) (h : Heap), YP w h → (K w.params).In h)
    (F : ∀ (w : World) (mg : Str → Option Value) (fa : Addr) (h : Heap), (K w.params).In h → h.Ns mainGlobals mg → mg d.name = some (.ref fa) →
      ∃ fd : FuncData, (∀ (s : Shared) (u : Value), BindsTo s fd ⟨[u], []⟩ [(x, u)]) ∧ ∀ base : Heap, (K w.params).In base → base.Ns mainGlobals mg → FnOk l.prog w (K w.params) mg base (L2N.CX l.prog w) k fa fd [x] (spLawB (K w.params))) :
    PySem.W.WalkO q loose XP YP l.row.toRowW d [] (fun f vs => PySem.call f vs) :=
  L2.walk_ofB (n := 63) (k := k) (x := x) (CX := fun w => L2N.CX l.prog w) (sp := fun w => spLawB (K w.params)) hn (by decide) hdf hr hY F (fun _ _ a ns hl hb _ hS => ⟨a, ns, rfl, hS, hl, hb, fun _ => rfl⟩) fun _ _ _ _ _ z => by
    obtain ⟨_, _, _, _, _, _, _, _, _, _, _, _, z⟩ := z
    exact z
end Pv
/-! Pv18: reckoning with evS. -/
namespace Pv
open PySem L2
theorem nonrfl {α : Sort _} {a b : α} (h : a = b) : a = b := h
/-- what a body's end tells the caller -/
def Out.res : Out → Res Pv.D
  | .nx _ => .ok .non
  | .ret d => .ok d
  | .exc x _ => .exc x
  | _ => .bad
theorem bodyD_eq (T : Tb) (s : S) (n : Nat) (ds : List Pv.D) : bodyD T s n ds = (evS T s (ds.map some ++ List.replicate (n - ds.length) none)).res := by
  unfold bodyD Out.res
  rfl
theorem res_nx (e : Env) : (Out.nx e).res = .ok .non := nonrfl rfl
theorem res_ret (d : Pv.D) : (Out.ret d).res = .ok d := nonrfl rfl
theorem res_exc (x : Xc) (e : Env) : (Out.exc x e).res = .exc x := nonrfl rfl
theorem res_ite {p : Prop} [Decidable p] (a b : Out) : (if p then a else b).res = if p then a.res else b.res := by split <;> rfl
theorem thn_nx (e : Env) (f : Env → Out) : (Out.nx e).thn f = f e := nonrfl rfl
theorem thn_ret (d : Pv.D) (f : Env → Out) : (Out.ret d).thn f = .ret d := nonrfl rfl
theorem thn_exc (x : Xc) (e : Env) (f : Env → Out) : (Out.exc x e).thn f = .exc x e := nonrfl rfl
theorem thn_brk (e : Env) (f : Env → Out) : (Out.brk e).thn f = .brk e := nonrfl rfl
theorem thn_cnt (e : Env) (f : Env → Out) : (Out.cnt e).thn f = .cnt e := nonrfl rfl
theorem thn_ite {p : Prop} [Decidable p] (a b : Out) (f : Env → Out) : (if p then a else b).thn f = if p then a.thn f else b.thn f := by split <;> rfl
theorem out_ok {α : Type} (a : α) (e : Env) (f : α → Out) : (Res.ok a).out e f = f a := nonrfl rfl
theorem out_exc {α : Type} (x : Xc) (e : Env) (f : α → Out) : (Res.exc x : Res α).out e f = .exc x e := nonrfl rfl
theorem eqD_int (i j : Int) : eqD (.int i) (.int j) = .ok (decide (i = j)) := by
  have h : ∀ i : Int, plain (.int i) = true := fun i => rfl
  unfold eqD
  rw [h, h]
  simp only [Bool.and_self, if_true]
  show Res.ok (i == j) = _
  congr 1
theorem getE0 (d : Pv.D) (r : Env) : getE (some d :: r) 0 = .ok d := nonrfl rfl
theorem getEs (o : Option Pv.D) (r : Env) (i : Nat) : getE (o :: r) (i + 1) = getE r i := nonrfl rfl
theorem addI (i j : Int) : addD (.int i) (.int j) = .ok (.int (i + j)) := nonrfl rfl
theorem subI (i j : Int) : subD (.int i) (.int j) = .ok (.int (i - j)) := nonrfl rfl
theorem negI (i : Int) : negD (.int i) = .ok (.int (-i)) := nonrfl rfl
theorem fdivI {i j : Int} (h : 0 < j) (h2 : j < 2 ^ 9000) : fdivD (.int i) (.int j) = .ok (.int (i / j)) := by
  have h1 : divOk j = true := by
    unfold divOk
    simp only [Bool.and_eq_true, decide_eq_true_eq]
    refine ⟨by omega, ?_⟩
    rw [Nat.log2_lt (by omega)]
    omega
  show (if divOk j then Res.ok (Pv.D.int (i.fdiv j)) else .bad) = _
  rw [if_pos h1, Int.fdiv_eq_ediv_of_nonneg _ (by omega)]
theorem modI {i j : Int} (h : 0 < j) : modD (.int i) (.int j) = .ok (.int (i % j)) := by
  show (if decide (j ≠ 0) then Res.ok (Pv.D.int (i.fmod j)) else .bad) = _
  rw [if_pos (by simp; omega), Int.fmod_eq_emod_of_nonneg _ (by omega)]
theorem log2_lt' {n k : Nat} (h : n < 2 ^ k) (hk : 0 < k) : n.log2 < k := by
  by_cases z : n = 0
  · subst z
    simpa using hk
  · exact (Nat.log2_lt z).mpr h
theorem mulI {i j : Int} (a b : Nat) (ha : 0 < a) (hb : 0 < b) (hab : a + b ≤ 1000000) (hi : i.natAbs < 2 ^ a) (hj : j.natAbs < 2 ^ b) : mulD (.int i) (.int j) = .ok (.int (i * j)) := by
  have h1 : mulOk i j = true := by
    unfold mulOk
    have := log2_lt' hi ha
    have := log2_lt' hj hb
    simp only [decide_eq_true_eq]
    omega
  show (if mulOk i j then Res.ok (Pv.D.int (i * j)) else .bad) = _
  rw [if_pos h1]
theorem powI {i : Int} {n : Nat} (h : n ≤ 1000000) (hi : i.natAbs < 2 ^ 64) : powD (.int i) (.int n) = .ok (.int (i ^ n)) := by
  have h1 : powOk i n = true := by
    unfold powOk
    simp only [Bool.and_eq_true, decide_eq_true_eq]
    omega
  show (if powOk i n then Res.ok (Pv.D.int (i ^ (n : Int).toNat)) else .bad) = _
  rw [if_pos h1, Int.toNat_natCast]
theorem absI (i : Int) : bltD .abs [.int i] = .ok (.int i.natAbs) := by
  show Res.ok (Pv.D.int (if i < 0 then -i else i)) = _
  congr 2
  split <;> omega
theorem amL_ints (f : Md → Bool) : ∀ ns : List Int, amL f (ns.map Pv.D.int) = true
  | [] => rfl
  | n :: ns => by
    show (am f (.int n) && amL f (ns.map Pv.D.int)) = true
    rw [amL_ints f ns]
    rfl
theorem ixI (m : Md) (ns : List Int) (k : Nat) (h : k < ns.length) : ixD (.lst m (ns.map Pv.D.int)) (.int k) = .ok (.int (ns.getD k 0)) := by
  have e : atI (ns.map Pv.D.int) (k : Int) = some (.int (ns.getD k 0)) := by
    unfold atI ixN
    have h1 : (k : Int) < ((ns.map Pv.D.int).length : Nat) := by rw [List.length_map]; omega
    simp [h, List.getD_eq_getElem?_getD]
  show (match atI (ns.map Pv.D.int) (k : Int) with | some d => Res.ok (fz d) | none => .bad) = _
  rw [e]
  rfl
theorem call_ok {F : Fm} {ds : List Pv.D} {r : Pv.D} (ar : (Nat.ble ds.length F.ar && Nat.ble F.ar (ds.length + F.dfl.length)) = true) (h : F.m (mpL shM ds ++ F.dfl.drop (ds.length + F.dfl.length - F.ar)) = .ok r) (hb : (amL noBrwM ds || clean r) = true) : callD F ds = .ok r := by
  have ar' : ds.length ≤ F.ar ∧ F.ar ≤ ds.length + F.dfl.length := by simpa using ar
  unfold callD
  rw [if_pos ar', h]
  simp only [hb, if_true]
theorem call_exc {F : Fm} {ds : List Pv.D} {x : Xc} (ar : (Nat.ble ds.length F.ar && Nat.ble F.ar (ds.length + F.dfl.length)) = true) (h : F.m (mpL shM ds ++ F.dfl.drop (ds.length + F.dfl.length - F.ar)) = .exc x) (hb : (amL noBrwM ds || amF isOwn x.fs) = true) : callD F ds = .exc x := by
  have ar' : ds.length ≤ F.ar ∧ F.ar ≤ ds.length + F.dfl.length := by simpa using ar
  unfold callD
  rw [if_pos ar', h]
  simp only [hb, if_true]
theorem lenL (m : Md) (l : List Pv.D) : bltD .len [.lst m l] = .ok (.int l.length) := nonrfl rfl
theorem ok_bindN {α β : Type} (a : α) (f : α → Res β) : (Res.ok a >>= f) = f a := nonrfl rfl
theorem exc_bindN {α β : Type} (x : Xc) (f : α → Res β) : ((Res.exc x : Res α) >>= f) = .exc x := nonrfl rfl
theorem bad_bindN {α β : Type} (f : α → Res β) : ((Res.bad : Res α) >>= f) = .bad := nonrfl rfl
theorem pure_okN {α : Type} (a : α) : (pure a : Res α) = .ok a := nonrfl rfl
/-! the worth's equations, as rules that are no reductions -/
theorem eS1 : type_of% @evS.eq_1 := by intros; apply nonrfl; (apply evS.eq_1 <;> assumption)
theorem eS2 : type_of% @evS.eq_2 := by intros; apply nonrfl; (apply evS.eq_2 <;> assumption)
theorem eS3 : type_of% @evS.eq_3 := by intros; apply nonrfl; (apply evS.eq_3 <;> assumption)
theorem eS4 : type_of% @evS.eq_4 := by intros; apply nonrfl; (apply evS.eq_4 <;> assumption)
theorem eS5 : type_of% @evS.eq_5 := by intros; apply nonrfl; (apply evS.eq_5 <;> assumption)
theorem eS6 : type_of% @evS.eq_6 := by intros; apply nonrfl; (apply evS.eq_6 <;> assumption)
theorem eS7 : type_of% @evS.eq_7 := by intros; apply nonrfl; (apply evS.eq_7 <;> assumption)
theorem eS8 : type_of% @evS.eq_8 := by intros; apply nonrfl; (apply evS.eq_8 <;> assumption)
theorem eS9 : type_of% @evS.eq_9 := by intros; apply nonrfl; (apply evS.eq_9 <;> assumption)
theorem eS10 : type_of% @evS.eq_10 := by intros; apply nonrfl; (apply evS.eq_10 <;> assumption)
theorem eS11 : type_of% @evS.eq_11 := by intros; apply nonrfl; (apply evS.eq_11 <;> assumption)
theorem eS12 : type_of% @evS.eq_12 := by intros; apply nonrfl; (apply evS.eq_12 <;> assumption)
theorem eS13 : type_of% @evS.eq_13 := by intros; apply nonrfl; (apply evS.eq_13 <;> assumption)
theorem eS14 : type_of% @evS.eq_14 := by intros; apply nonrfl; (apply evS.eq_14 <;> assumption)
theorem eS15 : type_of% @evS.eq_15 := by intros; apply nonrfl; (apply evS.eq_15 <;> assumption)
theorem eS16 : type_of% @evS.eq_16 := by intros; apply nonrfl; (apply evS.eq_16 <;> assumption)
theorem eS17 : type_of% @evS.eq_17 := by intros; apply nonrfl; (apply evS.eq_17 <;> assumption)
theorem eS18 : type_of% @evS.eq_18 := by intros; apply nonrfl; (apply evS.eq_18 <;> assumption)
theorem eS19 : type_of% @evS.eq_19 := by intros; apply nonrfl; (apply evS.eq_19 <;> assumption)
theorem eE1 : type_of% @evE.eq_1 := by intros; apply nonrfl; (apply evE.eq_1 <;> assumption)
theorem eE2 : type_of% @evE.eq_2 := by intros; apply nonrfl; (apply evE.eq_2 <;> assumption)
theorem eE3 : type_of% @evE.eq_3 := by intros; apply nonrfl; (apply evE.eq_3 <;> assumption)
theorem eE4 : type_of% @evE.eq_4 := by intros; apply nonrfl; (apply evE.eq_4 <;> assumption)
theorem eE5 : type_of% @evE.eq_5 := by intros; apply nonrfl; (apply evE.eq_5 <;> assumption)
theorem eE6 : type_of% @evE.eq_6 := by intros; apply nonrfl; (apply evE.eq_6 <;> assumption)
theorem eE7 : type_of% @evE.eq_7 := by intros; apply nonrfl; (apply evE.eq_7 <;> assumption)
theorem eE8 : type_of% @evE.eq_8 := by intros; apply nonrfl; (apply evE.eq_8 <;> assumption)
theorem eE9 : type_of% @evE.eq_9 := by intros; apply nonrfl; (apply evE.eq_9 <;> assumption)
theorem eE10 : type_of% @evE.eq_10 := by intros; apply nonrfl; (apply evE.eq_10 <;> assumption)
theorem eE11 : type_of% @evE.eq_11 := by intros; apply nonrfl; (apply evE.eq_11 <;> assumption)
theorem eE12 : type_of% @evE.eq_12 := by intros; apply nonrfl; (apply evE.eq_12 <;> assumption)
theorem eE13 : type_of% @evE.eq_13 := by intros; apply nonrfl; (apply evE.eq_13 <;> assumption)
theorem eE14 : type_of% @evE.eq_14 := by intros; apply nonrfl; (apply evE.eq_14 <;> assumption)
theorem eE15 : type_of% @evE.eq_15 := by intros; apply nonrfl; (apply evE.eq_15 <;> assumption)
theorem eE16 : type_of% @evE.eq_16 := by intros; apply nonrfl; (apply evE.eq_16 <;> assumption)
theorem eE17 : type_of% @evE.eq_17 := by intros; apply nonrfl; (apply evE.eq_17 <;> assumption)
theorem eE18 : type_of% @evE.eq_18 := by intros; apply nonrfl; (apply evE.eq_18 <;> assumption)
theorem eE19 : type_of% @evE.eq_19 := by intros; apply nonrfl; (apply evE.eq_19 <;> assumption)
theorem eE20 : type_of% @evE.eq_20 := by intros; apply nonrfl; (apply evE.eq_20 <;> assumption)
theorem eE21 : type_of% @evE.eq_21 := by intros; apply nonrfl; (apply evE.eq_21 <;> assumption)
theorem eE22 : type_of% @evE.eq_22 := by intros; apply nonrfl; (apply evE.eq_22 <;> assumption)
theorem eE23 : type_of% @evE.eq_23 := by intros; apply nonrfl; (apply evE.eq_23 <;> assumption)
theorem eE24 : type_of% @evE.eq_24 := by intros; apply nonrfl; (apply evE.eq_24 <;> assumption)
theorem eE25 : type_of% @evE.eq_25 := by intros; apply nonrfl; (apply evE.eq_25 <;> assumption)
theorem eE26 : type_of% @evE.eq_26 := by intros; apply nonrfl; (apply evE.eq_26 <;> assumption)
theorem eE27 : type_of% @evE.eq_27 := by intros; apply nonrfl; (apply evE.eq_27 <;> assumption)
theorem eT1 : type_of% @evT.eq_1 := by intros; apply nonrfl; (apply evT.eq_1 <;> assumption)
theorem eT2 : type_of% @evT.eq_2 := by intros; apply nonrfl; (apply evT.eq_2 <;> assumption)
theorem eT3 : type_of% @evT.eq_3 := by intros; apply nonrfl; (apply evT.eq_3 <;> assumption)
theorem eT4 : type_of% @evT.eq_4 := by intros; apply nonrfl; (apply evT.eq_4 <;> assumption)
theorem eT5 : type_of% @evT.eq_5 := by intros; apply nonrfl; (apply evT.eq_5 <;> assumption)
theorem eT6 : type_of% @evT.eq_6 := by intros; apply nonrfl; (apply evT.eq_6 <;> assumption)
theorem eT7 : type_of% @evT.eq_7 := by intros; apply nonrfl; (apply evT.eq_7 <;> assumption)
theorem eT8 : type_of% @evT.eq_8 := by intros; apply nonrfl; (apply evT.eq_8 <;> assumption)
theorem eT9 : type_of% @evT.eq_9 := by intros; apply nonrfl; (apply evT.eq_9 <;> assumption)
theorem eT10 : type_of% @evT.eq_10 := by intros; apply nonrfl; (apply evT.eq_10 <;> assumption)
theorem eT11 : type_of% @evT.eq_11 := by intros; apply nonrfl; (apply evT.eq_11 <;> assumption)
theorem eT12 : type_of% @evT.eq_12 := by intros; apply nonrfl; (apply evT.eq_12 <;> assumption)
theorem eT13 : type_of% @evT.eq_13 := by intros; apply nonrfl; (apply evT.eq_13 <;> assumption)
theorem eL1 : type_of% @evL.eq_1 := by intros; apply nonrfl; (apply evL.eq_1 <;> assumption)
theorem eL2 : type_of% @evL.eq_2 := by intros; apply nonrfl; (apply evL.eq_2 <;> assumption)
theorem eL3 : type_of% @evL.eq_3 := by intros; apply nonrfl; (apply evL.eq_3 <;> assumption)
theorem eC1 : type_of% @evC.eq_1 := by intros; apply nonrfl; (apply evC.eq_1 <;> assumption)
theorem eC2 : type_of% @evC.eq_2 := by intros; apply nonrfl; (apply evC.eq_2 <;> assumption)
theorem eC3 : type_of% @evC.eq_3 := by intros; apply nonrfl; (apply evC.eq_3 <;> assumption)
theorem eA1 : type_of% @evA.eq_1 := by intros; apply nonrfl; (apply evA.eq_1 <;> assumption)
theorem eA2 : type_of% @evA.eq_2 := by intros; apply nonrfl; (apply evA.eq_2 <;> assumption)
theorem eA3 : type_of% @evA.eq_3 := by intros; apply nonrfl; (apply evA.eq_3 <;> assumption)
theorem eO1 : type_of% @evO.eq_1 := by intros; apply nonrfl; (apply evO.eq_1 <;> assumption)
theorem eO2 : type_of% @evO.eq_2 := by intros; apply nonrfl; (apply evO.eq_2 <;> assumption)
theorem eO3 : type_of% @evO.eq_3 := by intros; apply nonrfl; (apply evO.eq_3 <;> assumption)
theorem eAV1 : type_of% @evAV.eq_1 := by intros; apply nonrfl; (apply evAV.eq_1 <;> assumption)
theorem eAV2 : type_of% @evAV.eq_2 := by intros; apply nonrfl; (apply evAV.eq_2 <;> assumption)
theorem eAV3 : type_of% @evAV.eq_3 := by intros; apply nonrfl; (apply evAV.eq_3 <;> assumption)
theorem eOV1 : type_of% @evOV.eq_1 := by intros; apply nonrfl; (apply evOV.eq_1 <;> assumption)
theorem eOV2 : type_of% @evOV.eq_2 := by intros; apply nonrfl; (apply evOV.eq_2 <;> assumption)
theorem eOV3 : type_of% @evOV.eq_3 := by intros; apply nonrfl; (apply evOV.eq_3 <;> assumption)
end Pv
/-! Pv19: loops and comprehensions reckoned. -/
namespace Pv
open PySem L2
/-- a loop that goes through -/
theorem loopD_inv {f : Env → Out} {t : Env → Pv.D → Out} (I : Nat → Env → Prop) : ∀ (ds : List Pv.D) (k : Nat) (env : Env), I k env →
    (∀ i d env, ds[i]? = some d → I (k + i) env → ∃ e1 e2, t env d = .nx e1 ∧ (f e1 = .nx e2 ∨ f e1 = .cnt e2) ∧ I (k + i + 1) e2) → ∃ env', loopD f t ds env = .nx env' ∧ I (k + ds.length) env'
  | [], k, env, h0, hs => ⟨env, rfl, h0⟩
  | d :: ds, k, env, h0, hs => by
    obtain ⟨e1, e2, h1, h2, h3⟩ := hs 0 d env rfl h0
    have ih := loopD_inv I ds (k + 1) e2 h3 fun i d env hd hi => by
      have q := hs (i + 1) d env hd (by rw [show k + (i + 1) = k + 1 + i by omega]; exact hi)
      rw [show k + (i + 1) = k + 1 + i by omega] at q
      exact q
    obtain ⟨env', q1, q2⟩ := ih
    refine ⟨env', ?_, by rw [List.length_cons, show k + (ds.length + 1) = k + 1 + ds.length by omega]; exact q2⟩
    unfold loopD
    rw [h1]
    rcases h2 with h2 | h2
    · simp only [h2]; exact q1
    · simp only [h2]; exact q1
/-- a loop that ends at the item k otherwise -/
theorem loopD_end {f : Env → Out} {t : Env → Pv.D → Out} (I : Nat → Env → Prop) (o : Out → Prop) (ho : ∀ r, o r → (∀ e, r ≠ .nx e) ∧ (∀ e, r ≠ .cnt e) ∧ (∀ e, r ≠ .brk e)) : ∀ (ds : List Pv.D) (k m : Nat) (env : Env), I k env → m < ds.length →
    (∀ i d env, i < m → ds[i]? = some d → I (k + i) env → ∃ e1 e2, t env d = .nx e1 ∧ (f e1 = .nx e2 ∨ f e1 = .cnt e2) ∧ I (k + i + 1) e2) →
    (∀ d env, ds[m]? = some d → I (k + m) env → ∃ e1, t env d = .nx e1 ∧ o (f e1)) → o (loopD f t ds env)
  | [], k, m, env, h0, hm, hs, he => by cases hm
  | d :: ds, k, 0, env, h0, hm, hs, he => by
    obtain ⟨e1, h1, h2⟩ := he d env rfl h0
    obtain ⟨n1, n2, n3⟩ := ho _ h2
    unfold loopD
    rw [h1]
    simp only
    generalize f e1 = r at *
    cases r with
    | nx e => exact absurd rfl (n1 e)
    | cnt e => exact absurd rfl (n2 e)
    | brk e => exact absurd rfl (n3 e)
    | ret d => exact h2
    | exc x e => exact h2
    | bad => exact h2
  | d :: ds, k, m + 1, env, h0, hm, hs, he => by
    obtain ⟨e1, e2, h1, h2, h3⟩ := hs 0 d env (Nat.succ_pos _) rfl h0
    have ih := loopD_end I o ho ds (k + 1) m e2 h3 (Nat.lt_of_succ_lt_succ hm) (fun i d env hi hd hI => by
      have q := hs (i + 1) d env (Nat.succ_lt_succ hi) hd (by rw [show k + (i + 1) = k + 1 + i by omega]; exact hI)
      rw [show k + (i + 1) = k + 1 + i by omega] at q
      exact q) fun d env hd hI => he d env hd (by rw [show k + (m + 1) = k + 1 + m by omega]; exact hI)
    unfold loopD
    rw [h1]
    rcases h2 with h2 | h2
    · simp only [h2]; exact ih
    · simp only [h2]; exact ih
theorem lcD_map {f : Pv.D → Res (Option Pv.D)} {g : Pv.D → Pv.D} : ∀ l : List Pv.D, (∀ d ∈ l, f d = .ok (some (g d))) → lcD f l = .ok (l.map g)
  | [], _ => rfl
  | d :: r, h => by
    unfold lcD
    rw [h d List.mem_cons_self, ok_bind, lcD_map r fun x hx => h x (List.mem_cons_of_mem _ hx), ok_bind]
    rfl
theorem forL_eq (T : Tb) (is : List Nat) (src : E) (b : S) (env : Env) (m : Md) (l : List Pv.D) (h : evE T src env = .ok (.lst m l)) (hb : (amL noBrwM l && noBrw (.lst m l)) = true) : evS T (.forL is src b) env = loopD (evS T b) (fun e x => tgE e is x) (mpL fzM l) env := by
  simp only [evS, h, out_ok, hb, if_true]
theorem forR_eq (T : Tb) (j : Nat) (src : E) (b : S) (env : Env) (m : Int) (h : evE T src env = .ok (.int m)) (h1 : m.natAbs < 1000000) : evS T (.forR j src b) env = loopD (evS T b) (fun e x => tgE e [j] x) (rngD m) env := by
  have h3 : decide (m.natAbs < 1000000) = true := decide_eq_true h1
  simp only [evS]
  rw [h]
  show (if decide (m.natAbs < 1000000) = true then loopD (evS T b) (fun e x => tgE e [j] x) (rngD m) env else Out.bad) = _
  exact if_pos h3
theorem intsOfL : ∀ ns : List Int, intsOf (ns.map Pv.D.int) = some ns
  | [] => rfl
  | n :: ns => by
    show (intsOf (ns.map Pv.D.int)).map (n :: ·) = _
    rw [intsOfL ns]
    rfl
theorem sumL (m : Md) (ns : List Int) : bltD .sum [.lst m (ns.map .int)] = .ok (.int ns.sum) := by
  show (match intsOf (ns.map Pv.D.int) with | some ns => Res.ok (Pv.D.int ns.sum) | none => .bad) = _
  rw [intsOfL]
theorem listL (m : Md) (l : List Pv.D) : bltD .list [.lst m l] = .ok (.lst .own (mpL fzM l)) := rfl
theorem getD_map (ns : List Int) {i : Nat} {d : Pv.D} (h : (ns.map Pv.D.int)[i]? = some d) : i < ns.length ∧ d = .int (ns.getD i 0) := by
  rw [List.getElem?_map] at h
  cases e : ns[i]? with
  | none => rw [e] at h; cases h
  | some n =>
    rw [e] at h
    cases h
    exact ⟨(List.getElem?_eq_some_iff.mp e).1, by rw [List.getD_eq_getElem?_getD, e]; rfl⟩
theorem tgE1 (env : Env) (i : Nat) (d : Pv.D) (hb : noBrw d = true) (hi : i < env.length) : tgE env [i] d = .nx (env.set i (some d)) := by
  have e : tgE env [i] d = putE env i d := by cases d <;> rfl
  rw [e]
  unfold putE
  simp [hb, hi]
theorem py_ints : ∀ ns : List Int, pyL (ns.map Pv.D.int) = ns.map PyData.int
  | [] => rfl
  | n :: ns => by
    show py (.int n) :: pyL (ns.map Pv.D.int) = _
    rw [py_ints ns]
    rfl
theorem lay_ints : ∀ ns : List Int, PyData.canLayAll0 (ns.map PyData.int) = true
  | [] => rfl
  | n :: ns => by
    show (PyData.canLay0 (.int n) && PyData.canLayAll0 (ns.map PyData.int)) = true
    rw [lay_ints ns]
    rfl
theorem depth_ints : ∀ ns : List Int, PyData.depthAll (ns.map PyData.int) ≤ 1
  | [] => by simp [PyData.depthAll]
  | n :: ns => by
    have h := depth_ints ns
    simp only [List.map_cons, PyData.depthAll, PyData.depth]
    omega
theorem plain_ints (m : Md) (ns : List Int) : plain (.lst m (ns.map .int)) = true := by
  unfold plain SeqAt.shaped
  have e : py (.lst m (ns.map .int)) = .list (ns.map PyData.int) := by
    show PyData.list (pyL (ns.map Pv.D.int)) = _
    rw [py_ints]
  rw [e]
  simp only [PyData.canLay0, lay_ints, PyData.depth, Bool.true_and, decide_eq_true_eq]
  exact decide_eq_true (Nat.le_trans (Nat.succ_le_succ (depth_ints ns)) (show 2 ≤ 64 by decide))
theorem eqv_ints : ∀ a b : List Int, PyData.eqvAll (a.map PyData.int) (b.map PyData.int) = decide (a = b)
  | [], [] => rfl
  | [], _ :: _ => rfl
  | _ :: _, [] => rfl
  | x :: a, y :: b => by
    show (PyData.eqv (.int x) (.int y) && PyData.eqvAll (a.map PyData.int) (b.map PyData.int)) = _
    rw [eqv_ints a b]
    show ((x == y) && decide (a = b)) = _
    by_cases h : x = y <;> by_cases h2 : a = b <;> simp [h, h2]
theorem eqD_ints (m n : Md) (a b : List Int) : eqD (.lst m (a.map .int)) (.lst n (b.map .int)) = .ok (decide (a = b)) := by
  unfold eqD
  rw [plain_ints, plain_ints]
  simp only [Bool.and_self, if_true]
  have e : ∀ (m : Md) (a : List Int), py (.lst m (a.map .int)) = .list (a.map PyData.int) := fun m a => by
    show PyData.list (pyL (a.map Pv.D.int)) = _
    rw [py_ints]
  unfold deq
  rw [e, e]
  show Res.ok (PyData.eqvAll _ _) = _
  rw [eqv_ints]
theorem lineOk_le {n : Nat} (h : n ≤ 1000) : lineOk n = true := decide_eq_true (L2.small1000 h)
/-- a slice of ints -/
def cutI (ns : List Int) (lo hi : Option Int) : List Int := (ns.drop (HT.sIx ns.length 0 lo)).take (HT.sIx ns.length ns.length hi - HT.sIx ns.length 0 lo)
theorem cutI_len (ns : List Int) (lo hi : Option Int) : (cutI ns lo hi).length ≤ ns.length := by
  unfold cutI
  rw [List.length_take, List.length_drop]
  omega
theorem cutI_mem {ns : List Int} {lo hi : Option Int} {n : Int} (h : n ∈ cutI ns lo hi) : n ∈ ns := List.mem_of_mem_drop (List.mem_of_mem_take h)
theorem slI (m : Md) (ns : List Int) (lo hi : Option Int) : slD (.lst m (ns.map .int)) lo hi = .ok (.lst .own ((cutI ns lo hi).map .int)) := by
  show Res.ok (Pv.D.lst .own (mpL fzM (cutD (ns.map Pv.D.int) lo hi))) = _
  have e : cutD (ns.map Pv.D.int) lo hi = (cutI ns lo hi).map Pv.D.int := by
    unfold cutD cutI
    rw [List.length_map, List.map_take, List.map_drop]
  rw [e, mpL_ints]
theorem addL_ints (a b : List Int) (h : a.length + b.length ≤ 1000) : addD (.lst .own (a.map .int)) (.lst .own (b.map .int)) = .ok (.lst .own ((a ++ b).map .int)) := by
  have c : (notKon .own && notKon .own && lineOk ((a.map Pv.D.int).length + (b.map Pv.D.int).length)) = true := by
    rw [List.length_map, List.length_map, lineOk_le h]
    rfl
  show (if (notKon .own && notKon .own && lineOk ((a.map Pv.D.int).length + (b.map Pv.D.int).length)) = true then Res.ok (Pv.D.lst .own (mpL fzM (a.map Pv.D.int) ++ mpL fzM (b.map Pv.D.int))) else .bad) = _
  rw [if_pos c, mpL_ints, mpL_ints, List.map_append]
theorem lc_ints {T : Tb} {j : Nat} {src e : E} {env : Env} {m : Md} {ns : List Int} (g : Int → Int) (hsrc : evE T src env = .ok (.lst m (ns.map .int))) (he : ∀ n ∈ ns, evE T e (env.set j (some (.int n))) = .ok (.int (g n))) (hl : ns.length ≤ 1000) (hf : freeE env j = true) :
    evE T (.lc j src .nil e) env = .ok (.lst .own ((ns.map g).map .int)) := by
  have q : lcD (fun d => do if (← evC T .nil (env.set j (some d))) then return some (fz (← evE T e (env.set j (some d)))) else return none) (ns.map Pv.D.int) = .ok ((ns.map Pv.D.int).map fun d => match d with | .int n => .int (g n) | d => d) := lcD_map _ (by
    intro d hd
    obtain ⟨n, hn, rfl⟩ := List.mem_map.mp hd
    simp only [evC, ok_bind, he n hn, if_true]
    rfl)
  have c : (amL noBrwM (ns.map Pv.D.int) && lineOk (ns.map Pv.D.int).length && freeE env j) = true := by
    rw [amL_ints, List.length_map, lineOk_le hl, hf]
    rfl
  simp only [evE, hsrc, ok_bind, mpL_ints]
  rw [q]
  simp only [okO, ok_bind]
  rw [if_pos c]
  show Res.ok (Pv.D.lst .own ((ns.map Pv.D.int).map _)) = _
  rw [List.map_map, List.map_map]
  rfl
theorem clean_ints (ns : List Int) : clean (.lst .own (ns.map Pv.D.int)) = true := by
  show (true && amL isOwn (ns.map Pv.D.int)) = true
  rw [amL_ints]
  rfl
theorem rngD_at {n k : Nat} {d : Pv.D} (h : (rngD n)[k]? = some d) : k < n ∧ d = .int (k : Int) := by
  unfold rngD at h
  rw [Int.toNat_natCast, List.getElem?_map] at h
  by_cases hk : k < n
  · rw [List.getElem?_range hk] at h
    cases h
    exact ⟨hk, rfl⟩
  · rw [List.getElem?_eq_none (by rw [List.length_range]; omega)] at h
    cases h
theorem rngD_length (n : Nat) : (rngD (n : Int)).length = n := by
  unfold rngD
  rw [List.length_map, List.length_range, Int.toNat_natCast]
end Pv
namespace K51
open PySem L2 PySem.Spec Pv
def top (i : Nat) : Stmt := PySem.Challenge.pw_groupbooks_k51_layer_costs.main.body.getD i (.Pass ⟨0, 0, 0, 0⟩)
def sub (m n : Nat) : Bool := match m, n with
  | 0, 0 => true
  | 0, 4 => true
  | 1, 1 => true
  | 1, 4 => true
  | 2, 2 => true
  | 2, 4 => true
  | 3, 3 => true
  | 3, 4 => true
  | 4, 4 => true
  | _, _ => false
def fnm : Nat → Str
  | 0 => "_law_cell"
  | 1 => "_law_draw"
  | 2 => "_law_names"
  | 3 => "_law_layer"
  | 4 => "portion"
  | 5 => "layer_cost"
  | 6 => "_law_whole"
  | 7 => "_law_fits"
  | 8 => "_law_refused"
  | 9 => "law"
  | _ => ""
def cnm : Nat → Str
  | 0 => "NoNumber"
  | 1 => "BadAmount"
  | 2 => "TooFew"
  | 3 => "NoGoods"
  | 4 => "BooksError"
  | _ => ""
def lw : Lw := ⟨[0, 1, 2, 3, 4], sub, [0], fnm, cnm⟩
/-! _law_cell -/
def b0s3 : S := .seq (.ret (.bin .Mod (.bin .Mult (.var 2) (.var 2)) (.int 2147483629))) .nop
def b0s2 : S := .seq (.ife (.cmp .Gt (.blt .len (.cons (.var 0) .nil)) (.int 0))
  (.seq (.asg 2 (.bin .Mod (.ix (.var 0) (.bin .Mod (.bin .Mult (.var 1) (.int 7)) (.blt .len (.cons (.var 0) .nil)))) (.int 2147483647)))
  (.seq (.asg 2 (.bin .Mod (.bin .Add (.bin .Mult (.var 2) (.int 48271)) (.bin .Mult (.bin .Mult (.var 1) (.var 1)) (.int 7919))) (.int 2147483647)))
  .nop))
  .nop) b0s3
def b0s1 : S := .seq (.asg 2 (.bin .Add (.bin .Mult (.var 1) (.int 7919)) (.int 5))) b0s2
def b0 : S := .seq (.ife (.cmp .Lt (.var 1) (.blt .len (.cons (.var 0) .nil)))
  (.seq (.ret (.bin .Mod (.ix (.var 0) (.var 1)) (.bin .Pow (.int 10) (.int 45))))
  .nop)
  .nop) b0s1
def c0 : Cn := ⟨["_law_script", "_law_k", "_law_number"], [], false, [], []⟩
def t0 : Nat → Fm
  | _ => dfF
def T0 : Tb := ⟨t0, sub, lw.cs, lw.rs⟩
def f0 : Fm := ⟨2, [], bodyD T0 b0 3⟩
/-! _law_draw -/
def b1s2 : S := .seq (.ret (.bin .Mod (.bin .Mult (.bin .Mult (.var 3) (.var 3)) (.int 48271)) (.ix (.var 2) (.bin .Mod (.var 1) (.int 8))))) .nop
def b1s1 : S := .seq (.asg 3 (.bin .Add (.bin .Add (.bin .Mod (.var 0) (.int 1000000007)) (.bin .Mult (.int 7) (.var 1))) (.int 1))) b1s2
def b1 : S := .seq (.asg 2 (.lst (.cons (.int 100003) (.cons (.int 200003) (.cons (.int 300007) (.cons (.int 400009) (.cons (.int 500009) (.cons (.int 600011) (.cons (.int 700001) (.cons (.int 800011) .nil)))))))))) b1s1
def c1 : Cn := ⟨["_law_cell_here", "_law_at", "_law_primes", "_law_number"], [], false, [], []⟩
def t1 : Nat → Fm
  | _ => dfF
def T1 : Tb := ⟨t1, sub, lw.cs, lw.rs⟩
def f1 : Fm := ⟨2, [], bodyD T1 b1 4⟩
/-! _law_names -/
def b2w0 : S := (.seq (.asg 9 (.bin .Add (.bin .FloorDiv (.var 0) (.int 64)) (.bin .Mult (.var 8) (.bin .Mod (.bin .FloorDiv (.var 0) (.int 7)) (.int 5)))))
  (.seq (.ife (.cmp .Eq (.var 8) (.var 4))
  (.seq (.asg 9 (.bin .Add (.var 9) (.var 6)))
  .nop)
  .nop)
  (.seq (.asg 7 (.bin .Add (.var 7) (.ix (.var 2) (.bin .Mod (.var 9) (.int 26)))))
  .nop)))
def b2w1 : S := (.seq (.asg 7 (.str ""))
  (.seq (.forR 8 (.var 3)
  b2w0)
  (.seq (.app 5 (.var 7))
  .nop)))
def b2s6 : S := .seq (.retV 5) .nop
def b2s5 : S := .seq (.ife (.cmp .Eq (.bin .Mod (.bin .FloorDiv (.var 0) (.int 1000)) (.int 3)) (.int 1))
  (.seq (.asg 10 (.bin .Mod (.bin .FloorDiv (.var 0) (.int 3000)) (.int 19)))
  (.seq (.ret (.lcr 8 (.var 1) .nil (.sl (.var 2) (.cons (.var 10) .nil) (.cons (.bin .Add (.bin .Add (.var 10) (.int 1)) (.var 8)) .nil))))
  .nop))
  .nop) b2s6
def b2s4 : S := .seq (.forR 6 (.var 1)
  b2w1) b2s5
def b2s3 : S := .seq (.asg 5 (.lst .nil)) b2s4
def b2s2 : S := .seq (.asg 4 (.bin .Mod (.bin .FloorDiv (.var 0) (.int 8)) (.var 3))) b2s3
def b2s1 : S := .seq (.asg 3 (.bin .Add (.int 1) (.bin .Mod (.var 0) (.int 8)))) b2s2
def b2 : S := .seq (.asg 2 (.str "abcdefghijklmnopqrstuvwxyz")) b2s1
def c2 : Cn := ⟨["_law_cell_here", "_law_many", "_law_letters", "_law_size", "_law_at", "_law_names_here", "_law_j", "_law_name", "_law_k", "_law_place", "_law_start"], [], false, [], []⟩
def t2 : Nat → Fm
  | _ => dfF
def T2 : Tb := ⟨t2, sub, lw.cs, lw.rs⟩
def f2 : Fm := ⟨2, [], bodyD T2 b2 11⟩
/-! _law_layer -/
def b3s7 : S := .seq (.ret (.tup (.cons (.ix (.call 2 (.cons (.call 0 (.cons (.var 0) (.cons (.int 0) .nil))) (.cons (.int 1) .nil))) (.int 0)) (.cons (.var 4) (.cons (.var 3) (.cons (.bin .Add (.var 3) (.var 2)) .nil)))))) .nop
def b3s6 : S := .seq (.ife (.cmp .Eq (.bin .Mod (.call 1 (.cons (.var 1) (.cons (.int 4) .nil))) (.int 2)) (.int 1))
  (.seq (.asg 4 (.bin .Mod (.var 4) (.int 50)))
  .nop)
  .nop) b3s7
def b3s5 : S := .seq (.asg 4 (.bin .Mod (.call 0 (.cons (.var 0) (.cons (.int 2) .nil))) (.bin .Add (.bin .Pow (.int 10) (.int 39)) (.int 1)))) b3s6
def b3s4 : S := .seq (.ife (.cmp .Gt (.bin .Mod (.call 1 (.cons (.var 1) (.cons (.int 2) .nil))) (.int 3)) (.int 0))
  (.seq (.asg 3 (.bin .Mod (.bin .Mult (.call 1 (.cons (.var 1) (.cons (.int 3) .nil))) (.int 7)) (.bin .Sub (.bin .Add (.bin .Pow (.int 10) (.int 6)) (.int 1)) (.var 2))))
  .nop)
  .nop) b3s5
def b3s3 : S := .seq (.asg 3 (.int 0)) b3s4
def b3s2 : S := .seq (.ife (.cmp .Eq (.bin .Mod (.call 1 (.cons (.var 1) (.cons (.int 1) .nil))) (.int 2)) (.int 1))
  (.seq (.asg 2 (.bin .Add (.int 1) (.bin .Mod (.var 1) (.bin .Pow (.int 10) (.int 6)))))
  .nop)
  .nop) b3s3
def b3s1 : S := .seq (.asg 2 (.bin .Add (.int 1) (.bin .Mod (.call 1 (.cons (.var 1) (.cons (.int 0) .nil))) (.int 9)))) b3s2
def b3 : S := .seq (.asg 1 (.call 0 (.cons (.var 0) (.cons (.int 1) .nil)))) b3s1
def c3 : Cn := ⟨["_law_script", "_law_size", "_law_many", "_law_start", "_law_cost"], [0, 1, 2], false, [], []⟩
def t3 : Nat → Fm
  | 0 => f0
  | 1 => f1
  | 2 => f2
  | _ => dfF
def T3 : Tb := ⟨t3, sub, lw.cs, lw.rs⟩
theorem u3_0 : T3.f 0 = f0 := rfl
theorem u3_1 : T3.f 1 = f1 := rfl
theorem u3_2 : T3.f 2 = f2 := rfl
def f3 : Fm := ⟨1, [], bodyD T3 b3 5⟩
/-! portion -/
def b4s1 : S := .seq (.ret (.bin .Sub (.bin .FloorDiv (.bin .Mult (.var 0) (.var 3)) (.var 1)) (.bin .FloorDiv (.bin .Mult (.var 0) (.var 2)) (.var 1)))) .nop
def b4 : S := .seq (.ife (.or (.cons (.cmp .Lt (.var 1) (.int 1)) (.cons (.cmp .Lt (.var 2) (.int 0)) (.cons (.cmp .Lt (.var 3) (.var 2)) (.cons (.cmp .Lt (.var 1) (.var 3)) .nil)))))
  (.seq (.rse 0)
  .nop)
  .nop) b4s1
def c4 : Cn := ⟨["amount", "many", "start", "stop"], [], false, [0], []⟩
def t4 : Nat → Fm
  | _ => dfF
def T4 : Tb := ⟨t4, sub, lw.cs, lw.rs⟩
def f4 : Fm := ⟨4, [], bodyD T4 b4 4⟩
/-! layer_cost -/
def b5s1 : S := .seq (.ret (.call 4 (.cons (.var 4) (.cons (.bin .Sub (.var 6) (.var 5)) (.cons (.bin .Sub (.var 1) (.var 5)) (.cons (.bin .Sub (.var 2) (.var 5)) .nil)))))) .nop
def b5 : S := .seq (.asgT [3, 4, 5, 6] (.var 0)) b5s1
def c5 : Cn := ⟨["layer", "start", "stop", "firm", "cost", "first", "last"], [4], false, [], []⟩
def t5 : Nat → Fm
  | 4 => f4
  | _ => dfF
def T5 : Tb := ⟨t5, sub, lw.cs, lw.rs⟩
theorem u5_4 : T5.f 4 = f4 := rfl
def f5 : Fm := ⟨3, [], bodyD T5 b5 7⟩
/-! _law_whole -/
def b6 : S := .seq (.ret (.and (.cons (.isi (.var 0) "int") (.cons (.nt (.isi (.var 0) "bool")) .nil)))) .nop
def c6 : Cn := ⟨["_law_found"], [], false, [], []⟩
def t6 : Nat → Fm
  | _ => dfF
def T6 : Tb := ⟨t6, sub, lw.cs, lw.rs⟩
def f6 : Fm := ⟨1, [], bodyD T6 b6 1⟩
/-! _law_fits -/
def b7s7 : S := .seq (.ret (.cmp .Lt (.blt .abs (.cons (.bin .Sub (.bin .Mult (.var 8) (.var 7)) (.bin .Mult (.var 4) (.bin .Sub (.var 2) (.var 1)))) .nil)) (.var 7))) .nop
def b7s6 : S := .seq (.ife (.cmp .NotEq (.var 8) (.bin .Sub (.var 9) (.var 10)))
  (.seq (.ret (.bl false))
  .nop)
  .nop) b7s7
def b7s5 : S := .seq (.asg 10 (.bin .FloorDiv (.bin .Mult (.var 4) (.bin .Sub (.var 1) (.var 5))) (.var 7))) b7s6
def b7s4 : S := .seq (.asg 9 (.bin .FloorDiv (.bin .Mult (.var 4) (.bin .Sub (.var 2) (.var 5))) (.var 7))) b7s5
def b7s3 : S := .seq (.ife (.nt (.call 6 (.cons (.var 8) .nil)))
  (.seq (.ret (.bl false))
  .nop)
  .nop) b7s4
def b7s2 : S := .seq (.asg 8 (.call 5 (.cons (.var 0) (.cons (.var 1) (.cons (.var 2) .nil))))) b7s3
def b7s1 : S := .seq (.asg 7 (.bin .Sub (.var 6) (.var 5))) b7s2
def b7 : S := .seq (.asgT [3, 4, 5, 6] (.var 0)) b7s1
def c7 : Cn := ⟨["_law_layer_here", "_law_begin", "_law_end", "_law_firm", "_law_cost", "_law_start", "_law_stop", "_law_many", "_law_found", "_law_upto", "_law_ahead"], [5, 6], false, [], []⟩
def t7 : Nat → Fm
  | 5 => f5
  | 6 => f6
  | _ => dfF
def T7 : Tb := ⟨t7, sub, lw.cs, lw.rs⟩
theorem u7_5 : T7.f 5 = f5 := rfl
theorem u7_6 : T7.f 6 = f6 := rfl
def f7 : Fm := ⟨3, [], bodyD T7 b7 11⟩
/-! _law_refused -/
def b8s1 : S := .seq (.ret (.bl false)) .nop
def b8 : S := .seq (.tryX (.seq (.exp (.call 5 (.cons (.var 0) (.cons (.var 1) (.cons (.var 2) .nil)))))
  .nop) 4 3
  (.seq (.ife (.or (.cons (.nt (.isv 3)) (.cons (.isx 3 1) .nil)))
  (.seq (.ret (.bl false))
  .nop)
  .nop)
  (.seq (.ret (.and (.cons (.isx 3 0) (.cons (.nt (.isx 3 3)) (.cons (.nt (.isx 3 2)) .nil)))))
  .nop))) b8s1
def c8 : Cn := ⟨["_law_layer_here", "_law_begin", "_law_end", "e"], [5], false, [], []⟩
def t8 : Nat → Fm
  | 5 => f5
  | _ => dfF
def T8 : Tb := ⟨t8, sub, lw.cs, lw.rs⟩
theorem u8_5 : T8.f 5 = f5 := rfl
def f8 : Fm := ⟨3, [], bodyD T8 b8 4⟩
/-! law -/
def b9w0 : S := (.seq (.ife (.nt (.call 7 (.cons (.var 1) (.cons (.ix (.var 6) (.var 9)) (.cons (.ix (.var 6) (.bin .Add (.var 9) (.int 1))) .nil)))))
  (.seq (.ret (.bl false))
  .nop)
  .nop)
  (.seq (.asg 8 (.bin .Add (.var 8) (.call 5 (.cons (.var 1) (.cons (.ix (.var 6) (.var 9)) (.cons (.ix (.var 6) (.bin .Add (.var 9) (.int 1))) .nil))))))
  .nop))
def b9s16 : S := .seq (.ret (.and (.cons (.call 7 (.cons (.var 1) (.cons (.var 3) (.cons (.var 4) .nil)))) (.cons (.call 7 (.cons (.var 1) (.cons (.var 11) (.cons (.var 4) .nil)))) (.cons (.call 7 (.cons (.var 1) (.cons (.var 11) (.cons (.var 11) .nil)))) .nil))))) .nop
def b9s15 : S := .seq (.ife (.nt (.call 8 (.cons (.var 1) (.cons (.bin .Add (.var 11) (.var 12)) (.cons (.var 11) .nil)))))
  (.seq (.ret (.bl false))
  .nop)
  .nop) b9s16
def b9s14 : S := .seq (.ife (.or (.cons (.nt (.call 8 (.cons (.var 1) (.cons (.bin .Sub (.var 3) (.var 12)) (.cons (.var 11) .nil))))) (.cons (.nt (.call 8 (.cons (.var 1) (.cons (.var 11) (.cons (.bin .Add (.var 4) (.var 12)) .nil))))) .nil)))
  (.seq (.ret (.bl false))
  .nop)
  .nop) b9s15
def b9s13 : S := .seq (.ife (.cmp .Eq (.bin .Mod (.bin .FloorDiv (.var 10) (.int 21)) (.int 3)) (.int 1))
  (.seq (.asg 12 (.bin .Add (.int 1) (.bin .Mod (.var 10) (.bin .Pow (.int 10) (.int 6)))))
  .nop)
  .nop) b9s14
def b9s12 : S := .seq (.asg 12 (.bin .Add (.int 1) (.bin .Mod (.bin .FloorDiv (.var 10) (.int 7)) (.int 3)))) b9s13
def b9s11 : S := .seq (.asg 11 (.bin .Add (.var 3) (.bin .Mod (.var 10) (.bin .Add (.bin .Sub (.var 4) (.var 3)) (.int 1))))) b9s12
def b9s10 : S := .seq (.asg 10 (.call 0 (.cons (.var 0) (.cons (.int 3) .nil)))) b9s11
def b9s9 : S := .seq (.ife (.cmp .NotEq (.var 8) (.var 2))
  (.seq (.ret (.bl false))
  .nop)
  .nop) b9s10
def b9s8 : S := .seq (.forR 9 (.bin .Sub (.blt .len (.cons (.var 6) .nil)) (.int 1))
  b9w0) b9s9
def b9s7 : S := .seq (.asg 8 (.int 0)) b9s8
def b9s6 : S := .seq (.asg 6 (.blt .sorted (.cons (.bin .Add (.var 6) (.lst (.cons (.var 3) (.cons (.var 4) .nil)))) .nil))) b9s7
def b9s5 : S := .seq (.asg 6 (.lc 7 (.sl (.var 0) (.cons (.int 4) .nil) (.cons (.int 63) .nil)) .nil (.bin .Add (.var 3) (.bin .Mod (.var 7) (.var 5))))) b9s6
def b9s4 : S := .seq (.asg 5 (.bin .Add (.bin .Sub (.var 4) (.var 3)) (.int 1))) b9s5
def b9s3 : S := .seq (.asg 4 (.ix (.var 1) (.int 3))) b9s4
def b9s2 : S := .seq (.asg 3 (.ix (.var 1) (.int 2))) b9s3
def b9s1 : S := .seq (.asg 2 (.ix (.var 1) (.int 1))) b9s2
def b9 : S := .seq (.asg 1 (.call 3 (.cons (.var 0) .nil))) b9s1
def c9 : Cn := ⟨["_law_script", "_law_layer_here", "_law_cost", "_law_start", "_law_stop", "_law_many", "_law_cuts", "_law_cell_here", "_law_total", "_law_k", "_law_far", "_law_spot", "_law_beyond"], [0, 3, 5, 7, 8], false, [], []⟩
def t9 : Nat → Fm
  | 0 => f0
  | 3 => f3
  | 5 => f5
  | 7 => f7
  | 8 => f8
  | _ => dfF
def T9 : Tb := ⟨t9, sub, lw.cs, lw.rs⟩
theorem u9_0 : T9.f 0 = f0 := rfl
theorem u9_3 : T9.f 3 = f3 := rfl
theorem u9_5 : T9.f 5 = f5 := rfl
theorem u9_7 : T9.f 7 = f7 := rfl
theorem u9_8 : T9.f 8 = f8 := rfl
def f9 : Fm := ⟨1, [], bodyD T9 b9 13⟩
section
variable {P : Program} {w : World} {K : PySem.W.Frag} {mg : Str → Option Value} {base : Heap} {cl : Nat → Addr}
theorem k0 (W : Wd lw K mg cl) {f : Addr} {fd : FuncData} (F : FunD K "_law_cell" "_law_cell" (defArgs (top 11)) (defBody (top 11)) (defScope (top 11)) [] [] f fd) (hm : mg "_law_cell" = some (.ref f)) (hb : ∀ n, n ≤ f0.dfl.length → ∃ us, Binds K fd ["_law_script", "_law_k"] us ∧ Vals ((f0.dfl.drop n).map scV) us)  : FnI (gx lw t0 P w K mg base cl) 1 f0 "_law_cell" :=
  fn_is (G := gx lw t0 P w K mg base cl) (c := c0) (k := 0) (s := b0) (F := f0) (ps := ["_law_script", "_law_k"]) F ⟨⟨rfl, rfl, rfl, by decide +kernel, rfl, by decide +kernel, by decide +kernel⟩, (show ckS ⟨T0, fnm, cnm⟩ c0 (defScope (top 11)) b0 (defBody (top 11)) = true by decide +kernel), rfl⟩ (W.world (by decide)) (sndS _) (fun _ z => (List.not_mem_nil z).elim) (fun _ z => (List.not_mem_nil z).elim) rfl (fun _ => rfl) hm hb rfl
theorem k1 (W : Wd lw K mg cl) {f : Addr} {fd : FuncData} (F : FunD K "_law_draw" "_law_draw" (defArgs (top 12)) (defBody (top 12)) (defScope (top 12)) [] [] f fd) (hm : mg "_law_draw" = some (.ref f)) (hb : ∀ n, n ≤ f1.dfl.length → ∃ us, Binds K fd ["_law_cell_here", "_law_at"] us ∧ Vals ((f1.dfl.drop n).map scV) us)  : FnI (gx lw t1 P w K mg base cl) 1 f1 "_law_draw" :=
  fn_is (G := gx lw t1 P w K mg base cl) (c := c1) (k := 0) (s := b1) (F := f1) (ps := ["_law_cell_here", "_law_at"]) F ⟨⟨rfl, rfl, rfl, by decide +kernel, rfl, by decide +kernel, by decide +kernel⟩, (show ckS ⟨T1, fnm, cnm⟩ c1 (defScope (top 12)) b1 (defBody (top 12)) = true by decide +kernel), rfl⟩ (W.world (by decide)) (sndS _) (fun _ z => (List.not_mem_nil z).elim) (fun _ z => (List.not_mem_nil z).elim) rfl (fun _ => rfl) hm hb rfl
theorem k2 (W : Wd lw K mg cl) {f : Addr} {fd : FuncData} (F : FunD K "_law_names" "_law_names" (defArgs (top 13)) (defBody (top 13)) (defScope (top 13)) [] [] f fd) (hm : mg "_law_names" = some (.ref f)) (hb : ∀ n, n ≤ f2.dfl.length → ∃ us, Binds K fd ["_law_cell_here", "_law_many"] us ∧ Vals ((f2.dfl.drop n).map scV) us)  : FnI (gx lw t2 P w K mg base cl) 1 f2 "_law_names" :=
  fn_is (G := gx lw t2 P w K mg base cl) (c := c2) (k := 0) (s := b2) (F := f2) (ps := ["_law_cell_here", "_law_many"]) F ⟨⟨rfl, rfl, rfl, by decide +kernel, rfl, by decide +kernel, by decide +kernel⟩, (show ckS ⟨T2, fnm, cnm⟩ c2 (defScope (top 13)) b2 (defBody (top 13)) = true by decide +kernel), rfl⟩ (W.world (by decide)) (sndS _) (fun _ z => (List.not_mem_nil z).elim) (fun _ z => (List.not_mem_nil z).elim) rfl (fun _ => rfl) hm hb rfl
theorem k3 (W : Wd lw K mg cl) {f : Addr} {fd : FuncData} (F : FunD K "_law_layer" "_law_layer" (defArgs (top 15)) (defBody (top 15)) (defScope (top 15)) [] [] f fd) (hm : mg "_law_layer" = some (.ref f)) (hb : ∀ n, n ≤ f3.dfl.length → ∃ us, Binds K fd ["_law_script"] us ∧ Vals ((f3.dfl.drop n).map scV) us) (h0 : FnI (gx lw t0 P w K mg base cl) 1 f0 "_law_cell") (h1 : FnI (gx lw t1 P w K mg base cl) 1 f1 "_law_draw") (h2 : FnI (gx lw t2 P w K mg base cl) 1 f2 "_law_names") : FnI (gx lw t3 P w K mg base cl) 2 f3 "_law_layer" :=
  fn_is (G := gx lw t3 P w K mg base cl) (c := c3) (k := 1) (s := b3) (F := f3) (ps := ["_law_script"]) F ⟨⟨rfl, rfl, rfl, by decide +kernel, rfl, by decide +kernel, by decide +kernel⟩, (show ckS ⟨T3, fnm, cnm⟩ c3 (defScope (top 15)) b3 (defBody (top 15)) = true by decide +kernel), rfl⟩ (W.world (by decide)) (sndS _) (List.forall_mem_cons.mpr ⟨(h0.up (by decide)).tb, List.forall_mem_cons.mpr ⟨(h1.up (by decide)).tb, List.forall_mem_cons.mpr ⟨(h2.up (by decide)).tb, fun _ z => (List.not_mem_nil z).elim⟩⟩⟩) (fun _ z => (List.not_mem_nil z).elim) rfl (fun _ => rfl) hm hb rfl
theorem k4 (W : Wd lw K mg cl) {f : Addr} {fd : FuncData} (F : FunD K "portion" "portion" (defArgs (top 7)) (defBody (top 7)) (defScope (top 7)) [] [] f fd) (hm : mg "portion" = some (.ref f)) (hb : ∀ n, n ≤ f4.dfl.length → ∃ us, Binds K fd ["amount", "many", "start", "stop"] us ∧ Vals ((f4.dfl.drop n).map scV) us)  : FnI (gx lw t4 P w K mg base cl) 1 f4 "portion" :=
  fn_is (G := gx lw t4 P w K mg base cl) (c := c4) (k := 0) (s := b4) (F := f4) (ps := ["amount", "many", "start", "stop"]) F ⟨⟨rfl, rfl, rfl, by decide +kernel, rfl, by decide +kernel, by decide +kernel⟩, (show ckS ⟨T4, fnm, cnm⟩ c4 (defScope (top 7)) b4 (defBody (top 7)) = true by decide +kernel), rfl⟩ (W.world (by decide)) (sndS _) (fun _ z => (List.not_mem_nil z).elim) (fun _ z => (List.not_mem_nil z).elim) rfl (fun _ => rfl) hm hb rfl
theorem k5 (W : Wd lw K mg cl) {f : Addr} {fd : FuncData} (F : FunD K "layer_cost" "layer_cost" (defArgs (top 9)) (defBody (top 9)) (defScope (top 9)) [] [] f fd) (hm : mg "layer_cost" = some (.ref f)) (hb : ∀ n, n ≤ f5.dfl.length → ∃ us, Binds K fd ["layer", "start", "stop"] us ∧ Vals ((f5.dfl.drop n).map scV) us) (h4 : FnI (gx lw t4 P w K mg base cl) 1 f4 "portion") : FnI (gx lw t5 P w K mg base cl) 2 f5 "layer_cost" :=
  fn_is (G := gx lw t5 P w K mg base cl) (c := c5) (k := 1) (s := b5) (F := f5) (ps := ["layer", "start", "stop"]) F ⟨⟨rfl, rfl, rfl, by decide +kernel, rfl, by decide +kernel, by decide +kernel⟩, (show ckS ⟨T5, fnm, cnm⟩ c5 (defScope (top 9)) b5 (defBody (top 9)) = true by decide +kernel), rfl⟩ (W.world (by decide)) (sndS _) (List.forall_mem_cons.mpr ⟨(h4.up (by decide)).tb, fun _ z => (List.not_mem_nil z).elim⟩) (fun _ z => (List.not_mem_nil z).elim) rfl (fun _ => rfl) hm hb rfl
theorem k6 (W : Wd lw K mg cl) {f : Addr} {fd : FuncData} (F : FunD K "_law_whole" "_law_whole" (defArgs (top 14)) (defBody (top 14)) (defScope (top 14)) [] [] f fd) (hm : mg "_law_whole" = some (.ref f)) (hb : ∀ n, n ≤ f6.dfl.length → ∃ us, Binds K fd ["_law_found"] us ∧ Vals ((f6.dfl.drop n).map scV) us)  : FnI (gx lw t6 P w K mg base cl) 1 f6 "_law_whole" :=
  fn_is (G := gx lw t6 P w K mg base cl) (c := c6) (k := 0) (s := b6) (F := f6) (ps := ["_law_found"]) F ⟨⟨rfl, rfl, rfl, by decide +kernel, rfl, by decide +kernel, by decide +kernel⟩, (show ckS ⟨T6, fnm, cnm⟩ c6 (defScope (top 14)) b6 (defBody (top 14)) = true by decide +kernel), rfl⟩ (W.world (by decide)) (sndS _) (fun _ z => (List.not_mem_nil z).elim) (fun _ z => (List.not_mem_nil z).elim) rfl (fun _ => rfl) hm hb rfl
theorem k7 (W : Wd lw K mg cl) {f : Addr} {fd : FuncData} (F : FunD K "_law_fits" "_law_fits" (defArgs (top 16)) (defBody (top 16)) (defScope (top 16)) [] [] f fd) (hm : mg "_law_fits" = some (.ref f)) (hb : ∀ n, n ≤ f7.dfl.length → ∃ us, Binds K fd ["_law_layer_here", "_law_begin", "_law_end"] us ∧ Vals ((f7.dfl.drop n).map scV) us) (h5 : FnI (gx lw t5 P w K mg base cl) 2 f5 "layer_cost") (h6 : FnI (gx lw t6 P w K mg base cl) 1 f6 "_law_whole") : FnI (gx lw t7 P w K mg base cl) 3 f7 "_law_fits" :=
  fn_is (G := gx lw t7 P w K mg base cl) (c := c7) (k := 2) (s := b7) (F := f7) (ps := ["_law_layer_here", "_law_begin", "_law_end"]) F ⟨⟨rfl, rfl, rfl, by decide +kernel, rfl, by decide +kernel, by decide +kernel⟩, (show ckS ⟨T7, fnm, cnm⟩ c7 (defScope (top 16)) b7 (defBody (top 16)) = true by decide +kernel), rfl⟩ (W.world (by decide)) (sndS _) (List.forall_mem_cons.mpr ⟨(h5.up (by decide)).tb, List.forall_mem_cons.mpr ⟨(h6.up (by decide)).tb, fun _ z => (List.not_mem_nil z).elim⟩⟩) (fun _ z => (List.not_mem_nil z).elim) rfl (fun _ => rfl) hm hb rfl
theorem k8 (W : Wd lw K mg cl) {f : Addr} {fd : FuncData} (F : FunD K "_law_refused" "_law_refused" (defArgs (top 17)) (defBody (top 17)) (defScope (top 17)) [] [] f fd) (hm : mg "_law_refused" = some (.ref f)) (hb : ∀ n, n ≤ f8.dfl.length → ∃ us, Binds K fd ["_law_layer_here", "_law_begin", "_law_end"] us ∧ Vals ((f8.dfl.drop n).map scV) us) (h5 : FnI (gx lw t5 P w K mg base cl) 2 f5 "layer_cost") : FnI (gx lw t8 P w K mg base cl) 3 f8 "_law_refused" :=
  fn_is (G := gx lw t8 P w K mg base cl) (c := c8) (k := 2) (s := b8) (F := f8) (ps := ["_law_layer_here", "_law_begin", "_law_end"]) F ⟨⟨rfl, rfl, rfl, by decide +kernel, rfl, by decide +kernel, by decide +kernel⟩, (show ckS ⟨T8, fnm, cnm⟩ c8 (defScope (top 17)) b8 (defBody (top 17)) = true by decide +kernel), rfl⟩ (W.world (by decide)) (sndS _) (List.forall_mem_cons.mpr ⟨(h5.up (by decide)).tb, fun _ z => (List.not_mem_nil z).elim⟩) (fun _ z => (List.not_mem_nil z).elim) rfl (fun _ => rfl) hm hb rfl
theorem kL (W : Wd lw K mg cl) {f : Addr} {fd : FuncData} (F : FunD K "law" "law" (defArgs (top 18)) (defBody (top 18)) (defScope (top 18)) [] [] f fd) (h0 : FnI (gx lw t0 P w K mg base cl) 1 f0 "_law_cell") (h3 : FnI (gx lw t3 P w K mg base cl) 2 f3 "_law_layer") (h5 : FnI (gx lw t5 P w K mg base cl) 2 f5 "layer_cost") (h7 : FnI (gx lw t7 P w K mg base cl) 3 f7 "_law_fits") (h8 : FnI (gx lw t8 P w K mg base cl) 3 f8 "_law_refused") : FnOk P w K mg base (L2N.CX P w) 4 f fd ["_law_script"] (spD ⟨K, cl, none⟩ f9) :=
  def_ok (G := gx lw t9 P w K mg base cl) (c := c9) (k := 3) (s := b9) (F := f9) (ps := ["_law_script"]) F ⟨⟨rfl, rfl, rfl, by decide +kernel, rfl, by decide +kernel, by decide +kernel⟩, (show ckS ⟨T9, fnm, cnm⟩ c9 (defScope (top 18)) b9 (defBody (top 18)) = true by decide +kernel), rfl⟩ (W.world (by decide)) (sndS _) (List.forall_mem_cons.mpr ⟨(h0.up (by decide)).tb, List.forall_mem_cons.mpr ⟨(h3.up (by decide)).tb, List.forall_mem_cons.mpr ⟨(h5.up (by decide)).tb, List.forall_mem_cons.mpr ⟨(h7.up (by decide)).tb, List.forall_mem_cons.mpr ⟨(h8.up (by decide)).tb, fun _ z => (List.not_mem_nil z).elim⟩⟩⟩⟩⟩) (fun _ z => (List.not_mem_nil z).elim) rfl (fun _ _ => rfl)
end
theorem mulB {i j : Int} (hi : i.natAbs < 2 ^ 2000) (hj : j.natAbs < 2 ^ 2000) : mulD (.int i) (.int j) = .ok (.int (i * j)) := mulI 2000 2000 (by omega) (by omega) (by omega) hi hj
theorem p2000 : (2 : Nat) ^ 200 < 2 ^ 2000 := Nat.pow_lt_pow_right (by omega) (by omega)
theorem mulS {i j : Int} (hi : i.natAbs < 2 ^ 200) (hj : j.natAbs < 2 ^ 200) : mulD (.int i) (.int j) = .ok (.int (i * j)) := mulB (Nat.lt_trans hi p2000) (Nat.lt_trans hj p2000)
theorem lo1 : lineOk 1 = true := lineOk_le (by omega)
theorem lo0 : lineOk 0 = true := lineOk_le (by omega)
theorem lo2 : lineOk 2 = true := lineOk_le (by omega)
theorem lo4 : lineOk 4 = true := lineOk_le (by omega)
theorem lo8 : lineOk 8 = true := lineOk_le (by omega)
/-! a cell -/
theorem ev0 (ns : List Int) (k : Nat) (hk : k < 100) : ∃ c, f0.m [.lst .kon (ns.map Pv.D.int), .int k] = .ok (.int c) ∧ 0 ≤ c ∧ c < 10 ^ 45 := by
  by_cases h : k < ns.length
  · refine ⟨ns.getD k 0 % 10 ^ 45, ?_, Int.emod_nonneg _ (by omega), Int.emod_lt_of_pos _ (by omega)⟩
    have i := ixI .kon ns k h
    have h' : (k : Int) < (ns.length : Int) := by omega
    have p : powD (.int 10) (.int 45) = .ok (.int (10 ^ 45)) := powI (n := 45) (by omega) (by omega)
    have m : modD (.int (ns.getD k 0)) (.int (10 ^ 45)) = .ok (.int (ns.getD k 0 % 10 ^ 45)) := modI (by omega)
    simp only [f0, b0, b0s3, b0s2, b0s1, bodyD_eq, res_nx, res_ret, res_exc, res_ite, eS1, eS2, eS3, eS4, eS5, eS6, eS7, eS8, eS9, eS10, eS11, eS12, eS13, eS14, eS15, eS16, eS17, eS18, eS19, eE1, eE2, eE3, eE4, eE5, eE6, eE7, eE8, eE9, eE10, eE11, eE12, eE13, eE14, eE15, eE16, eE17, eE18, eE19, eE20, eE21, eE22, eE23, eE24, eE25, eE26, eE27, eT1, eT2, eT3, eT4, eT5, eT6, eT7, eT8, eT9, eT10, eT11, eT12, eT13, eL1, eL2, eL3, eC1, eC2, eC3, eA1, eA2, eA3, eO1, eO2, eO3, eAV1, eAV2, eAV3, eOV1, eOV2, eOV3, out_ok, out_exc, thn_nx, thn_ret, thn_exc, thn_brk, thn_cnt, thn_ite, ok_bindN, exc_bindN, bad_bindN, pure_okN, getE0, getEs, putE, noBrw, am, noBrwM, bo, rt, mp, binD, cmpD, cmpI, addI, subI, negI, eqD_int, truthD, notR, absI, lenL, List.map_cons, List.map_nil, List.length_cons, List.length_nil, List.replicate, List.cons_append, List.nil_append, List.set, decide_true, decide_false, Bool.not_true, Bool.not_false, if_true, if_false, Bool.true_and, Bool.and_true, reduceIte, Bool.false_eq_true, decide_eq_true_eq, Nat.reduceSub, Nat.reduceAdd, Nat.reduceLT, Nat.zero_add, mpL_ints, boM, List.length_map, h', i, p, m]
  · have h' : ¬ (k : Int) < (ns.length : Int) := by omega
    have m1 : mulD (.int k) (.int 7919) = .ok (.int (k * 7919)) := mulS (by omega) (by omega)
    have m2 : mulD (.int k) (.int 7) = .ok (.int (k * 7)) := mulS (by omega) (by omega)
    have m3 : mulD (.int k) (.int k) = .ok (.int (k * k)) := mulS (by omega) (by omega)
    have kk : (0 : Int) ≤ (k : Int) * k ∧ (k : Int) * k < 10000 := by
      refine ⟨Int.mul_nonneg (by omega) (by omega), ?_⟩
      have := Nat.mul_lt_mul'' hk hk
      have e : ((k * k : Nat) : Int) = (k : Int) * k := by push_cast; rfl
      omega
    have m4 : mulD (.int (k * k)) (.int 7919) = .ok (.int (k * k * 7919)) := mulS (by omega) (by omega)
    by_cases hl : 0 < ns.length
    · have hl' : (0 : Int) < (ns.length : Int) := by omega
      have q1 : modD (.int (k * 7)) (.int (ns.length : Int)) = .ok (.int (((k * 7) % ns.length : Nat) : Int)) := by
        rw [modI hl']
        push_cast
        rfl
      have i := ixI .kon ns ((k * 7) % ns.length) (Nat.mod_lt _ hl)
      generalize ns.getD ((k * 7) % ns.length) 0 = x at i
      have q2 : modD (.int x) (.int 2147483647) = .ok (.int (x % 2147483647)) := modI (by omega)
      have q3 : mulD (.int (x % 2147483647)) (.int 48271) = .ok (.int (x % 2147483647 * 48271)) := mulS (by omega) (by omega)
      have q4 : modD (.int (x % 2147483647 * 48271 + k * k * 7919)) (.int 2147483647) = .ok (.int ((x % 2147483647 * 48271 + k * k * 7919) % 2147483647)) := modI (by omega)
      have hy : 0 ≤ (x % 2147483647 * 48271 + k * k * 7919) % 2147483647 ∧ (x % 2147483647 * 48271 + k * k * 7919) % 2147483647 < 2147483647 := ⟨Int.emod_nonneg _ (by omega), Int.emod_lt_of_pos _ (by omega)⟩
      generalize (x % 2147483647 * 48271 + k * k * 7919) % 2147483647 = y at q4 hy
      have q5 : mulD (.int y) (.int y) = .ok (.int (y * y)) := mulS (by omega) (by omega)
      have q6 : modD (.int (y * y)) (.int 2147483629) = .ok (.int (y * y % 2147483629)) := modI (by omega)
      refine ⟨y * y % 2147483629, ?_, Int.emod_nonneg _ (by omega), Int.lt_trans (Int.emod_lt_of_pos _ (by omega)) (by omega)⟩
      simp only [f0, b0, b0s3, b0s2, b0s1, bodyD_eq, res_nx, res_ret, res_exc, res_ite, eS1, eS2, eS3, eS4, eS5, eS6, eS7, eS8, eS9, eS10, eS11, eS12, eS13, eS14, eS15, eS16, eS17, eS18, eS19, eE1, eE2, eE3, eE4, eE5, eE6, eE7, eE8, eE9, eE10, eE11, eE12, eE13, eE14, eE15, eE16, eE17, eE18, eE19, eE20, eE21, eE22, eE23, eE24, eE25, eE26, eE27, eT1, eT2, eT3, eT4, eT5, eT6, eT7, eT8, eT9, eT10, eT11, eT12, eT13, eL1, eL2, eL3, eC1, eC2, eC3, eA1, eA2, eA3, eO1, eO2, eO3, eAV1, eAV2, eAV3, eOV1, eOV2, eOV3, out_ok, out_exc, thn_nx, thn_ret, thn_exc, thn_brk, thn_cnt, thn_ite, ok_bindN, exc_bindN, bad_bindN, pure_okN, getE0, getEs, putE, noBrw, am, noBrwM, bo, rt, mp, binD, cmpD, cmpI, addI, subI, negI, eqD_int, truthD, notR, absI, lenL, List.map_cons, List.map_nil, List.length_cons, List.length_nil, List.replicate, List.cons_append, List.nil_append, List.set, decide_true, decide_false, Bool.not_true, Bool.not_false, if_true, if_false, Bool.true_and, Bool.and_true, reduceIte, Bool.false_eq_true, decide_eq_true_eq, Nat.reduceSub, Nat.reduceAdd, Nat.reduceLT, Nat.zero_add, mpL_ints, boM, List.length_map, h', hl', i, m1, m2, m3, m4, q1, q2, q3, q4, q5, q6]
    · have hl' : ¬ (0 : Int) < (ns.length : Int) := by omega
      have q5 : mulD (.int (k * 7919 + 5)) (.int (k * 7919 + 5)) = .ok (.int ((k * 7919 + 5) * (k * 7919 + 5))) := mulS (by omega) (by omega)
      have q6 : modD (.int ((k * 7919 + 5) * (k * 7919 + 5))) (.int 2147483629) = .ok (.int ((k * 7919 + 5) * (k * 7919 + 5) % 2147483629)) := modI (by omega)
      refine ⟨(k * 7919 + 5) * (k * 7919 + 5) % 2147483629, ?_, Int.emod_nonneg _ (by omega), Int.lt_trans (Int.emod_lt_of_pos _ (by omega)) (by omega)⟩
      simp only [f0, b0, b0s3, b0s2, b0s1, bodyD_eq, res_nx, res_ret, res_exc, res_ite, eS1, eS2, eS3, eS4, eS5, eS6, eS7, eS8, eS9, eS10, eS11, eS12, eS13, eS14, eS15, eS16, eS17, eS18, eS19, eE1, eE2, eE3, eE4, eE5, eE6, eE7, eE8, eE9, eE10, eE11, eE12, eE13, eE14, eE15, eE16, eE17, eE18, eE19, eE20, eE21, eE22, eE23, eE24, eE25, eE26, eE27, eT1, eT2, eT3, eT4, eT5, eT6, eT7, eT8, eT9, eT10, eT11, eT12, eT13, eL1, eL2, eL3, eC1, eC2, eC3, eA1, eA2, eA3, eO1, eO2, eO3, eAV1, eAV2, eAV3, eOV1, eOV2, eOV3, out_ok, out_exc, thn_nx, thn_ret, thn_exc, thn_brk, thn_cnt, thn_ite, ok_bindN, exc_bindN, bad_bindN, pure_okN, getE0, getEs, putE, noBrw, am, noBrwM, bo, rt, mp, binD, cmpD, cmpI, addI, subI, negI, eqD_int, truthD, notR, absI, lenL, List.map_cons, List.map_nil, List.length_cons, List.length_nil, List.replicate, List.cons_append, List.nil_append, List.set, decide_true, decide_false, Bool.not_true, Bool.not_false, if_true, if_false, Bool.true_and, Bool.and_true, reduceIte, Bool.false_eq_true, decide_eq_true_eq, Nat.reduceSub, Nat.reduceAdd, Nat.reduceLT, Nat.zero_add, mpL_ints, boM, List.length_map, h', hl', m1, q5, q6]
theorem cl0 (ns : List Int) (k : Nat) (hk : k < 100) : ∃ c, callD f0 [.lst .kon (ns.map Pv.D.int), .int k] = .ok (.int c) ∧ 0 ≤ c ∧ c < 10 ^ 45 := by
  obtain ⟨c, h1, h2⟩ := ev0 ns k hk
  refine ⟨c, call_ok rfl ?_ (Bool.or_true _), h2⟩
  show f0.m [.lst (shM .kon) (mpL shM (ns.map Pv.D.int)), .int k] = _
  rw [mpL_ints]
  exact h1
def primes : List Int := [100003, 200003, 300007, 400009, 500009, 600011, 700001, 800011]
theorem primes_ok : ∀ j, j < 8 → 100003 ≤ primes.getD j 0 ∧ primes.getD j 0 ≤ 800011 := by decide
theorem ev1 (c : Int) (k : Nat) (hk : k < 100) : ∃ d, f1.m [.int c, .int k] = .ok (.int d) ∧ 0 ≤ d ∧ d < 1000000 := by
  have q1 : modD (.int c) (.int 1000000007) = .ok (.int (c % 1000000007)) := modI (by omega)
  have q2 : mulD (.int 7) (.int k) = .ok (.int (7 * k)) := mulS (by omega) (by omega)
  have h0 := Int.emod_nonneg c (show (1000000007 : Int) ≠ 0 by omega)
  have h1 := Int.emod_lt_of_pos c (show (0 : Int) < 1000000007 by omega)
  generalize c % 1000000007 = x at *
  have q3 : mulD (.int (x + 7 * k + 1)) (.int (x + 7 * k + 1)) = .ok (.int ((x + 7 * k + 1) * (x + 7 * k + 1))) := mulS (by omega) (by omega)
  have b3 : ((x + 7 * k + 1) * (x + 7 * k + 1)).natAbs < 2 ^ 200 := by
    rw [Int.natAbs_mul]
    calc _ < 2 ^ 40 * 2 ^ 40 := Nat.mul_lt_mul'' (by omega) (by omega)
      _ < 2 ^ 200 := by decide
  generalize (x + 7 * k + 1) * (x + 7 * k + 1) = y at *
  have q4 : mulD (.int y) (.int 48271) = .ok (.int (y * 48271)) := mulS (by omega) (by omega)
  have q5 : modD (.int k) (.int 8) = .ok (.int ((k % 8 : Nat) : Int)) := by
    rw [modI (by omega)]
    push_cast
    rfl
  have i := ixI .brw primes (k % 8) (by show k % 8 < 8; omega)
  obtain ⟨p1, p2⟩ := primes_ok (k % 8) (by omega)
  generalize primes.getD (k % 8) 0 = p at *
  have q6 : modD (.int (y * 48271)) (.int p) = .ok (.int (y * 48271 % p)) := modI (by omega)
  have e := Int.emod_nonneg (y * 48271) (show p ≠ 0 by omega)
  have e2 := Int.emod_lt_of_pos (y * 48271) (show 0 < p by omega)
  refine ⟨y * 48271 % p, ?_, e, by omega⟩
  simp only [primes, List.map_cons, List.map_nil] at i
  simp only [f1, b1, b1s2, b1s1, bodyD_eq, res_nx, res_ret, res_exc, res_ite, eS1, eS2, eS3, eS4, eS5, eS6, eS7, eS8, eS9, eS10, eS11, eS12, eS13, eS14, eS15, eS16, eS17, eS18, eS19, eE1, eE2, eE3, eE4, eE5, eE6, eE7, eE8, eE9, eE10, eE11, eE12, eE13, eE14, eE15, eE16, eE17, eE18, eE19, eE20, eE21, eE22, eE23, eE24, eE25, eE26, eE27, eT1, eT2, eT3, eT4, eT5, eT6, eT7, eT8, eT9, eT10, eT11, eT12, eT13, eL1, eL2, eL3, eC1, eC2, eC3, eA1, eA2, eA3, eO1, eO2, eO3, eAV1, eAV2, eAV3, eOV1, eOV2, eOV3, out_ok, out_exc, thn_nx, thn_ret, thn_exc, thn_brk, thn_cnt, thn_ite, ok_bindN, exc_bindN, bad_bindN, pure_okN, getE0, getEs, putE, noBrw, am, noBrwM, bo, rt, mp, binD, cmpD, cmpI, addI, subI, negI, eqD_int, truthD, notR, absI, lenL, List.map_cons, List.map_nil, List.length_cons, List.length_nil, List.replicate, List.cons_append, List.nil_append, List.set, decide_true, decide_false, Bool.not_true, Bool.not_false, if_true, if_false, Bool.true_and, Bool.and_true, reduceIte, Bool.false_eq_true, decide_eq_true_eq, Nat.reduceSub, Nat.reduceAdd, Nat.reduceLT, Nat.zero_add, mpL, amL, fzM, boM, lo8, q1, q2, q3, q4, q5, q6, i]
theorem cl1 (c : Int) (k : Nat) (hk : k < 100) : ∃ d, callD f1 [.int c, .int k] = .ok (.int d) ∧ 0 ≤ d ∧ d < 1000000 := by
  obtain ⟨d, h1, h2⟩ := ev1 c k hk
  exact ⟨d, call_ok rfl h1 rfl, h2⟩
/-! names -/
abbrev letters : Str := "abcdefghijklmnopqrstuvwxyz"
theorem let_len : letters.length = 26 := rfl
theorem atI_some {α : Type} (l : List α) (i : Int) (h0 : 0 ≤ i) (h1 : i < l.length) : ∃ x, atI l i = some x := by
  obtain ⟨n, rfl⟩ := Int.eq_ofNat_of_zero_le h0
  have hn : n < l.length := by omega
  refine ⟨l[n], ?_⟩
  unfold atI ixN
  simp [hn]
theorem let_at (i : Int) (h0 : 0 ≤ i) (h1 : i < 26) : ∃ ch, ixD (.str letters) (.int i) = .ok (.str ⟨#[ch]⟩) := by
  obtain ⟨ch, h⟩ := atI_some letters.cps.toList i h0 (by show i < 26; exact h1)
  refine ⟨ch, ?_⟩
  show (if lineOk letters.length then (match atI letters.cps.toList i with | some ch => Res.ok (Pv.D.str ⟨#[ch]⟩) | none => .bad) else .bad) = _
  rw [let_len, lineOk_le (by omega), if_pos rfl, h]
theorem app_len (z : Str) (ch : Nat) : (z ++ (⟨#[ch]⟩ : Str)).length = z.length + 1 := by
  show (z.cps ++ #[ch]).size = z.cps.size + 1
  simp
theorem addS (z : Str) (ch : Nat) (h : z.length ≤ 900) : addD (.str z) (.str ⟨#[ch]⟩) = .ok (.str (z ++ ⟨#[ch]⟩)) := by
  show (if lineOk (z.length + 1) then Res.ok (Pv.D.str (z ++ ⟨#[ch]⟩)) else .bad) = _
  rw [lineOk_le (by omega), if_pos rfl]
def FreeO : Option Pv.D → Bool
  | some d => noOwn d
  | none => true
def IN (c sz a : Int) (j : Int) (m : Nat) (acc : Pv.D) (o10 : Option Pv.D) (k : Nat) (env : Pv.Env) : Prop := ∃ (z : Str) (o8 o9 : Option Pv.D), z.length = k ∧ FreeO o8 = true ∧ env = [some (.int c), some (.int m), some (.str letters), some (.int sz), some (.int a), some acc, some (.int j), some (.str z), o8, o9, o10]
theorem inner (c sz a j : Int) (m : Nat) (acc : Pv.D) (o10 : Option Pv.D) (env : Pv.Env) (s : Nat) (hs : s ≤ 8) (h : IN c sz a j m acc o10 0 env) : ∃ env', loopD (evS T2 b2w0) (fun e x => tgE e [8] x) (rngD s) env = .nx env' ∧ IN c sz a j m acc o10 s env' := by
  have q := loopD_inv (f := evS T2 b2w0) (t := fun e x => tgE e [8] x) (IN c sz a j m acc o10) (rngD s) 0 env h (by
    rintro i d env hd ⟨z, o8, o9, hz, _, rfl⟩
    rw [Nat.zero_add] at hz
    obtain ⟨hi, rfl⟩ := rngD_at hd
    have d64 : fdivD (.int c) (.int 64) = .ok (.int (c / 64)) := fdivI (by omega) (by decide)
    have d7 : fdivD (.int c) (.int 7) = .ok (.int (c / 7)) := fdivI (by omega) (by decide)
    have m5 : modD (.int (c / 7)) (.int 5) = .ok (.int (c / 7 % 5)) := modI (by omega)
    have mu : mulD (.int i) (.int (c / 7 % 5)) = .ok (.int (i * (c / 7 % 5))) := mulS (by omega) (by omega)
    have hx : ∀ y : Int, ∃ ch, ixD (.str letters) (.int (y % 26)) = .ok (.str ⟨#[ch]⟩) := fun y => let_at (y % 26) (by omega) (by omega)
    have m26 : ∀ y : Int, modD (.int y) (.int 26) = .ok (.int (y % 26)) := fun y => modI (by omega)
    have key : ∃ y : Int, ∀ ch, ixD (.str letters) (.int (y % 26)) = .ok (.str ⟨#[ch]⟩) → evS T2 b2w0 [some (.int c), some (.int m), some (.str letters), some (.int sz), some (.int a), some acc, some (.int j), some (.str z), some (.int i), o9, o10] =
        .nx [some (.int c), some (.int m), some (.str letters), some (.int sz), some (.int a), some acc, some (.int j), some (.str (z ++ ⟨#[ch]⟩)), some (.int i), some (.int y), o10] := by
      by_cases ha : (i : Int) = a
      · refine ⟨c / 64 + i * (c / 7 % 5) + j, fun ch hch => ?_⟩
        have ad := addS z ch (by omega)
        simp only [b2w0, bodyD_eq, res_nx, res_ret, res_exc, res_ite, eS1, eS2, eS3, eS4, eS5, eS6, eS7, eS8, eS9, eS10, eS11, eS12, eS13, eS14, eS15, eS16, eS17, eS18, eS19, eE1, eE2, eE3, eE4, eE5, eE6, eE7, eE8, eE9, eE10, eE11, eE12, eE13, eE14, eE15, eE16, eE17, eE18, eE19, eE20, eE21, eE22, eE23, eE24, eE25, eE26, eE27, eT1, eT2, eT3, eT4, eT5, eT6, eT7, eT8, eT9, eT10, eT11, eT12, eT13, eL1, eL2, eL3, eC1, eC2, eC3, eA1, eA2, eA3, eO1, eO2, eO3, eAV1, eAV2, eAV3, eOV1, eOV2, eOV3, out_ok, out_exc, thn_nx, thn_ret, thn_exc, thn_brk, thn_cnt, thn_ite, ok_bindN, exc_bindN, bad_bindN, pure_okN, getE0, getEs, putE, noBrw, am, noBrwM, bo, rt, mp, binD, cmpD, cmpI, addI, subI, negI, eqD_int, truthD, notR, absI, lenL, List.map_cons, List.map_nil, List.length_cons, List.length_nil, List.replicate, List.cons_append, List.nil_append, List.set, decide_true, decide_false, Bool.not_true, Bool.not_false, if_true, if_false, Bool.true_and, Bool.and_true, reduceIte, Bool.false_eq_true, decide_eq_true_eq, Nat.reduceSub, Nat.reduceAdd, Nat.reduceLT, Nat.zero_add, d64, d7, m5, mu, eq_true ha, m26, hch, ad]
      · refine ⟨c / 64 + i * (c / 7 % 5), fun ch hch => ?_⟩
        have ad := addS z ch (by omega)
        simp only [b2w0, bodyD_eq, res_nx, res_ret, res_exc, res_ite, eS1, eS2, eS3, eS4, eS5, eS6, eS7, eS8, eS9, eS10, eS11, eS12, eS13, eS14, eS15, eS16, eS17, eS18, eS19, eE1, eE2, eE3, eE4, eE5, eE6, eE7, eE8, eE9, eE10, eE11, eE12, eE13, eE14, eE15, eE16, eE17, eE18, eE19, eE20, eE21, eE22, eE23, eE24, eE25, eE26, eE27, eT1, eT2, eT3, eT4, eT5, eT6, eT7, eT8, eT9, eT10, eT11, eT12, eT13, eL1, eL2, eL3, eC1, eC2, eC3, eA1, eA2, eA3, eO1, eO2, eO3, eAV1, eAV2, eAV3, eOV1, eOV2, eOV3, out_ok, out_exc, thn_nx, thn_ret, thn_exc, thn_brk, thn_cnt, thn_ite, ok_bindN, exc_bindN, bad_bindN, pure_okN, getE0, getEs, putE, noBrw, am, noBrwM, bo, rt, mp, binD, cmpD, cmpI, addI, subI, negI, eqD_int, truthD, notR, absI, lenL, List.map_cons, List.map_nil, List.length_cons, List.length_nil, List.replicate, List.cons_append, List.nil_append, List.set, decide_true, decide_false, Bool.not_true, Bool.not_false, if_true, if_false, Bool.true_and, Bool.and_true, reduceIte, Bool.false_eq_true, decide_eq_true_eq, Nat.reduceSub, Nat.reduceAdd, Nat.reduceLT, Nat.zero_add, d64, d7, m5, mu, ha, m26, hch, ad]
    obtain ⟨y, hy⟩ := key
    obtain ⟨ch, hch⟩ := hx y
    refine ⟨_, _, tgE1 _ _ _ rfl (by simp), .inl (hy ch hch), ⟨_, _, _, ?_, rfl, rfl⟩⟩
    rw [app_len, hz, Nat.zero_add])
  rw [rngD_length, Nat.zero_add] at q
  exact q
def OUT (c sz a : Int) (m : Nat) (o10 : Option Pv.D) (k : Nat) (env : Pv.Env) : Prop := ∃ (l : List Str) (o6 o7 o8 o9 : Option Pv.D), l.length = k ∧ FreeO o8 = true ∧ env = [some (.int c), some (.int m), some (.str letters), some (.int sz), some (.int a), some (.lst .own (l.map Pv.D.str)), o6, o7, o8, o9, o10]
theorem mpL_strs (f : Md → Md) : ∀ l : List Str, mpL f (l.map Pv.D.str) = l.map Pv.D.str
  | [] => rfl
  | z :: l => by
    show mp f (.str z) :: mpL f (l.map Pv.D.str) = _
    rw [mpL_strs f l]
    rfl
theorem amL_strs (f : Md → Bool) : ∀ l : List Str, amL f (l.map Pv.D.str) = true
  | [] => rfl
  | z :: l => by
    show (am f (.str z) && amL f (l.map Pv.D.str)) = true
    rw [amL_strs f l]
    rfl
theorem outer (c a : Int) (s m : Nat) (hs : s ≤ 8) (hm : m ≤ 900) (o6 o7 o8 o9 o10 : Option Pv.D) (hf : FreeO o8 = true) : ∃ env', loopD (evS T2 b2w1) (fun e x => tgE e [6] x) (rngD m) [some (.int c), some (.int m), some (.str letters), some (.int s), some (.int a), some (.lst .own []), o6, o7, o8, o9, o10] = .nx env' ∧ OUT c s a m o10 m env' := by
  have q := loopD_inv (f := evS T2 b2w1) (t := fun e x => tgE e [6] x) (OUT c s a m o10) (rngD m) 0 _ ⟨[], o6, o7, o8, o9, rfl, hf, rfl⟩ (by
    rintro i d env hd ⟨l, o6, o7, o8, o9, hl, hf8, rfl⟩
    rw [Nat.zero_add] at hl
    obtain ⟨hi, rfl⟩ := rngD_at hd
    obtain ⟨env', h1, z, p8, p9, h2, h3, rfl⟩ := inner c s a i m (.lst .own (l.map Pv.D.str)) o10 [some (.int c), some (.int m), some (.str letters), some (.int s), some (.int a), some (.lst .own (l.map Pv.D.str)), some (.int i), some (.str ""), o8, o9, o10] s hs ⟨"", o8, o9, rfl, hf8, rfl⟩
    have lo : lineOk (l.map Pv.D.str).length = true := by rw [List.length_map]; exact lineOk_le (by omega)
    refine ⟨[some (.int c), some (.int m), some (.str letters), some (.int s), some (.int a), some (.lst .own (l.map Pv.D.str)), some (.int i), o7, o8, o9, o10], [some (.int c), some (.int m), some (.str letters), some (.int s), some (.int a), some (.lst .own ((l ++ [z]).map Pv.D.str)), some (.int i), some (.str z), p8, p9, o10], tgE1 _ _ _ rfl (by simp), .inl ?_, ⟨l ++ [z], _, _, _, _, by rw [List.length_append, List.length_singleton, hl, Nat.zero_add], h3, rfl⟩⟩
    have fr := forR_eq T2 8 (.var 3) b2w0 [some (.int c), some (.int m), some (.str letters), some (.int s), some (.int a), some (.lst .own (l.map Pv.D.str)), some (.int i), some (.str ""), o8, o9, o10] s rfl (by omega)
    rw [h1] at fr
    unfold b2w1
    rw [evS, evS, evE, out_ok]
    simp only [putE, noBrw, am, Bool.true_and, List.length_cons, List.length_nil, Nat.reduceAdd, Nat.reduceLT, decide_true, if_true, thn_nx, List.set]
    rw [evS, fr]
    simp only [thn_nx, List.getElem?_cons_succ, List.getElem?_cons_zero, bodyD_eq, res_nx, res_ret, res_exc, res_ite, eS1, eS2, eS3, eS4, eS5, eS6, eS7, eS8, eS9, eS10, eS11, eS12, eS13, eS14, eS15, eS16, eS17, eS18, eS19, eE1, eE2, eE3, eE4, eE5, eE6, eE7, eE8, eE9, eE10, eE11, eE12, eE13, eE14, eE15, eE16, eE17, eE18, eE19, eE20, eE21, eE22, eE23, eE24, eE25, eE26, eE27, eT1, eT2, eT3, eT4, eT5, eT6, eT7, eT8, eT9, eT10, eT11, eT12, eT13, eL1, eL2, eL3, eC1, eC2, eC3, eA1, eA2, eA3, eO1, eO2, eO3, eAV1, eAV2, eAV3, eOV1, eOV2, eOV3, out_ok, out_exc, thn_nx, thn_ret, thn_exc, thn_brk, thn_cnt, thn_ite, ok_bindN, exc_bindN, bad_bindN, pure_okN, getE0, getEs, putE, noBrw, am, noBrwM, bo, rt, mp, binD, cmpD, cmpI, addI, subI, negI, eqD_int, truthD, notR, absI, lenL, List.map_cons, List.map_nil, List.length_cons, List.length_nil, List.replicate, List.cons_append, List.nil_append, List.set, decide_true, decide_false, Bool.not_true, Bool.not_false, if_true, if_false, Bool.true_and, Bool.and_true, reduceIte, Bool.false_eq_true, decide_eq_true_eq, Nat.reduceSub, Nat.reduceAdd, Nat.reduceLT, Nat.zero_add, lo]
    rw [List.map_append]
    rfl)
  rw [rngD_length, Nat.zero_add] at q
  exact q
theorem ev2 (c : Int) (hc : 0 ≤ c) : ∃ z : Str, f2.m [.int c, .int 1] = .ok (.lst .own [.str z]) := by
  have m8 : modD (.int c) (.int 8) = .ok (.int (c % 8)) := modI (by omega)
  have d8 : fdivD (.int c) (.int 8) = .ok (.int (c / 8)) := fdivI (by omega) (by decide)
  have d1 : fdivD (.int c) (.int 1000) = .ok (.int (c / 1000)) := fdivI (by omega) (by decide)
  have d3 : fdivD (.int c) (.int 3000) = .ok (.int (c / 3000)) := fdivI (by omega) (by decide)
  have m3 : modD (.int (c / 1000)) (.int 3) = .ok (.int (c / 1000 % 3)) := modI (by omega)
  have m19 : modD (.int (c / 3000)) (.int 19) = .ok (.int (c / 3000 % 19)) := modI (by omega)
  obtain ⟨s, hs⟩ := Int.eq_ofNat_of_zero_le (show 0 ≤ 1 + c % 8 by omega)
  have hs8 : s ≤ 8 := by omega
  have ms : modD (.int (c / 8)) (.int s) = .ok (.int (c / 8 % s)) := modI (by omega)
  obtain ⟨env', h1, l, o6, o7, o8, o9, hl, hf8, rfl⟩ := outer c (c / 8 % s) s 1 hs8 (by omega) none none none none none rfl
  have fr := forR_eq T2 6 (.var 1) b2w1 [some (.int c), some (.int 1), some (.str letters), some (.int s), some (.int (c / 8 % s)), some (.lst .own []), none, none, none, none, none] 1 rfl (by omega)
  have e1 : ((1 : Nat) : Int) = 1 := rfl
  rw [e1] at h1
  have fr2 := fr.trans h1
  obtain ⟨z, rfl⟩ : ∃ z, l = [z] := List.length_eq_one_iff.mp hl
  have start : f2.m [.int c, .int 1] = (evS T2 b2s4 [some (.int c), some (.int 1), some (.str letters), some (.int s), some (.int (c / 8 % s)), some (.lst .own []), none, none, none, none, none]).res := by
    simp only [f2, b2, b2s1, b2s2, b2s3, bodyD_eq, res_nx, res_ret, res_exc, res_ite, eS1, eS2, eS3, eS4, eS5, eS6, eS7, eS8, eS9, eS10, eS11, eS12, eS13, eS14, eS15, eS16, eS17, eS18, eS19, eE1, eE2, eE3, eE4, eE5, eE6, eE7, eE8, eE9, eE10, eE11, eE12, eE13, eE14, eE15, eE16, eE17, eE18, eE19, eE20, eE21, eE22, eE23, eE24, eE25, eE26, eE27, eT1, eT2, eT3, eT4, eT5, eT6, eT7, eT8, eT9, eT10, eT11, eT12, eT13, eL1, eL2, eL3, eC1, eC2, eC3, eA1, eA2, eA3, eO1, eO2, eO3, eAV1, eAV2, eAV3, eOV1, eOV2, eOV3, out_ok, out_exc, thn_nx, thn_ret, thn_exc, thn_brk, thn_cnt, thn_ite, ok_bindN, exc_bindN, bad_bindN, pure_okN, getE0, getEs, putE, noBrw, am, noBrwM, bo, rt, mp, binD, cmpD, cmpI, addI, subI, negI, eqD_int, truthD, notR, absI, lenL, List.map_cons, List.map_nil, List.length_cons, List.length_nil, List.replicate, List.cons_append, List.nil_append, List.set, decide_true, decide_false, Bool.not_true, Bool.not_false, if_true, if_false, Bool.true_and, Bool.and_true, reduceIte, Bool.false_eq_true, decide_eq_true_eq, Nat.reduceSub, Nat.reduceAdd, Nat.reduceLT, Nat.zero_add, m8, d8, hs, Int.ofNat_eq_natCast, ms, lo0, mpL, amL]
  rw [start, b2s4, evS, fr2, thn_nx]
  by_cases h : c / 1000 % 3 = 1
  · have sl : ∀ x y : Option Int, slD (.str letters) x y = .ok (.str (cutS letters x y)) := fun x y => by
      show (if lineOk letters.length then Res.ok (Pv.D.str (cutS letters x y)) else .bad) = _
      rw [let_len, lineOk_le (by omega), if_pos rfl]
    refine ⟨cutS letters (some (c / 3000 % 19)) (some (c / 3000 % 19 + 1 + 0)), ?_⟩
    have r1 : rngD 1 = [.int 0] := rfl
    simp only [b2s5, b2s6, bodyD_eq, res_nx, res_ret, res_exc, res_ite, eS1, eS2, eS3, eS4, eS5, eS6, eS7, eS8, eS9, eS10, eS11, eS12, eS13, eS14, eS15, eS16, eS17, eS18, eS19, eE1, eE2, eE3, eE4, eE5, eE6, eE7, eE8, eE9, eE10, eE11, eE12, eE13, eE14, eE15, eE16, eE17, eE18, eE19, eE20, eE21, eE22, eE23, eE24, eE25, eE26, eE27, eT1, eT2, eT3, eT4, eT5, eT6, eT7, eT8, eT9, eT10, eT11, eT12, eT13, eL1, eL2, eL3, eC1, eC2, eC3, eA1, eA2, eA3, eO1, eO2, eO3, eAV1, eAV2, eAV3, eOV1, eOV2, eOV3, out_ok, out_exc, thn_nx, thn_ret, thn_exc, thn_brk, thn_cnt, thn_ite, ok_bindN, exc_bindN, bad_bindN, pure_okN, getE0, getEs, putE, noBrw, am, noBrwM, bo, rt, mp, binD, cmpD, cmpI, addI, subI, negI, eqD_int, truthD, notR, absI, lenL, List.map_cons, List.map_nil, List.length_cons, List.length_nil, List.replicate, List.cons_append, List.nil_append, List.set, decide_true, decide_false, Bool.not_true, Bool.not_false, if_true, if_false, Bool.true_and, Bool.and_true, reduceIte, Bool.false_eq_true, decide_eq_true_eq, Nat.reduceSub, Nat.reduceAdd, Nat.reduceLT, Nat.zero_add, e1, d1, m3, d3, m19, eq_true h, r1, lcD, oneOpt, sl, okO, mp]
    have fe : ∀ (a0 a1 a2 a3 a4 a5 a6 a7 a9 a10 : Option Pv.D), freeE [a0, a1, a2, a3, a4, a5, a6, a7, o8, a9, a10] 8 = FreeO o8 := by
      intros
      cases o8 <;> rfl
    rw [fe, hf8]
    rfl
  · refine ⟨z, ?_⟩
    simp only [b2s5, b2s6, bodyD_eq, res_nx, res_ret, res_exc, res_ite, eS1, eS2, eS3, eS4, eS5, eS6, eS7, eS8, eS9, eS10, eS11, eS12, eS13, eS14, eS15, eS16, eS17, eS18, eS19, eE1, eE2, eE3, eE4, eE5, eE6, eE7, eE8, eE9, eE10, eE11, eE12, eE13, eE14, eE15, eE16, eE17, eE18, eE19, eE20, eE21, eE22, eE23, eE24, eE25, eE26, eE27, eT1, eT2, eT3, eT4, eT5, eT6, eT7, eT8, eT9, eT10, eT11, eT12, eT13, eL1, eL2, eL3, eC1, eC2, eC3, eA1, eA2, eA3, eO1, eO2, eO3, eAV1, eAV2, eAV3, eOV1, eOV2, eOV3, out_ok, out_exc, thn_nx, thn_ret, thn_exc, thn_brk, thn_cnt, thn_ite, ok_bindN, exc_bindN, bad_bindN, pure_okN, getE0, getEs, putE, noBrw, am, noBrwM, bo, rt, mp, binD, cmpD, cmpI, addI, subI, negI, eqD_int, truthD, notR, absI, lenL, List.map_cons, List.map_nil, List.length_cons, List.length_nil, List.replicate, List.cons_append, List.nil_append, List.set, decide_true, decide_false, Bool.not_true, Bool.not_false, if_true, if_false, Bool.true_and, Bool.and_true, reduceIte, Bool.false_eq_true, decide_eq_true_eq, Nat.reduceSub, Nat.reduceAdd, Nat.reduceLT, Nat.zero_add, e1, d1, m3, h, List.map_cons, List.map_nil]
theorem cl2 (c : Int) (hc : 0 ≤ c) : ∃ z : Str, callD f2 [.int c, .int 1] = .ok (.lst .own [.str z]) := by
  obtain ⟨z, h⟩ := ev2 c hc
  exact ⟨z, call_ok rfl h rfl⟩
theorem ev6 (t : Int) : f6.m [.int t] = .ok (.bl true) := rfl
theorem cl6 (t : Int) : callD f6 [.int t] = .ok (.bl true) := call_ok rfl (ev6 t) rfl
structure Lay (s : Int) (m : Int) (c : Int) : Prop where
  c0 : 0 ≤ c
  c1 : c ≤ 10 ^ 39
  s0 : 0 ≤ s
  s1 : s ≤ 10 ^ 6
  m0 : 1 ≤ m
  m1 : m ≤ 10 ^ 6
def layD (z : Str) (s m c : Int) : Pv.D := .tup [.str z, .int c, .int s, .int (s + m)]
theorem mp_lay (f : Md → Md) (z : Str) (s m c : Int) : mp f (layD z s m c) = layD z s m c := rfl
theorem am_lay (f : Md → Bool) (z : Str) (s m c : Int) : am f (layD z s m c) = true := rfl
theorem ev3 (ns : List Int) : ∃ z s m c, f3.m [.lst .kon (ns.map Pv.D.int)] = .ok (layD z s m c) ∧ Lay s m c := by
  obtain ⟨k0, c0, k00, _⟩ := cl0 ns 0 (by omega)
  obtain ⟨k1, c1, k10, k11⟩ := cl0 ns 1 (by omega)
  obtain ⟨k2, c2, k20, _⟩ := cl0 ns 2 (by omega)
  rw [show ((0 : Nat) : Int) = 0 from rfl] at c0
  rw [show ((1 : Nat) : Int) = 1 from rfl] at c1
  rw [show ((2 : Nat) : Int) = 2 from rfl] at c2
  obtain ⟨z, hz⟩ := cl2 k0 k00
  obtain ⟨d0, e0, h0⟩ := cl1 k1 0 (by omega)
  obtain ⟨d1, e1, h1⟩ := cl1 k1 1 (by omega)
  obtain ⟨d2, e2, h2⟩ := cl1 k1 2 (by omega)
  obtain ⟨d3, e3, h3⟩ := cl1 k1 3 (by omega)
  obtain ⟨d4, e4, h4⟩ := cl1 k1 4 (by omega)
  rw [show ((0 : Nat) : Int) = 0 from rfl] at e0
  rw [show ((1 : Nat) : Int) = 1 from rfl] at e1
  rw [show ((2 : Nat) : Int) = 2 from rfl] at e2
  rw [show ((3 : Nat) : Int) = 3 from rfl] at e3
  rw [show ((4 : Nat) : Int) = 4 from rfl] at e4
  have p6 : powD (.int 10) (.int 6) = .ok (.int (10 ^ 6)) := powI (n := 6) (by omega) (by omega)
  have p39 : powD (.int 10) (.int 39) = .ok (.int (10 ^ 39)) := powI (n := 39) (by omega) (by omega)
  have m9 : modD (.int d0) (.int 9) = .ok (.int (d0 % 9)) := modI (by omega)
  have m2 : modD (.int d1) (.int 2) = .ok (.int (d1 % 2)) := modI (by omega)
  have mk : modD (.int k1) (.int (10 ^ 6)) = .ok (.int (k1 % 10 ^ 6)) := modI (by omega)
  have m3 : modD (.int d2) (.int 3) = .ok (.int (d2 % 3)) := modI (by omega)
  have m42 : modD (.int d4) (.int 2) = .ok (.int (d4 % 2)) := modI (by omega)
  have mc : modD (.int k2) (.int (10 ^ 39 + 1)) = .ok (.int (k2 % (10 ^ 39 + 1))) := modI (by omega)
  -- the pieces
  have a1 : ∃ m, (1 ≤ m ∧ m ≤ 10 ^ 6) ∧ f3.m [.lst .kon (ns.map Pv.D.int)] = (evS T3 b3s3 [some (.lst .kon (ns.map Pv.D.int)), some (.int k1), some (.int m), none, none]).res := by
    have st : f3.m [.lst .kon (ns.map Pv.D.int)] = (evS T3 b3s2 [some (.lst .kon (ns.map Pv.D.int)), some (.int k1), some (.int (1 + d0 % 9)), none, none]).res := by
      simp only [f3, b3, b3s1, u3_0, u3_1, u3_2, bodyD_eq, res_nx, res_ret, res_exc, res_ite, eS1, eS2, eS3, eS4, eS5, eS6, eS7, eS8, eS9, eS10, eS11, eS12, eS13, eS14, eS15, eS16, eS17, eS18, eS19, eE1, eE2, eE3, eE4, eE5, eE6, eE7, eE8, eE9, eE10, eE11, eE12, eE13, eE14, eE15, eE16, eE17, eE18, eE19, eE20, eE21, eE22, eE23, eE24, eE25, eE26, eE27, eT1, eT2, eT3, eT4, eT5, eT6, eT7, eT8, eT9, eT10, eT11, eT12, eT13, eL1, eL2, eL3, eC1, eC2, eC3, eA1, eA2, eA3, eO1, eO2, eO3, eAV1, eAV2, eAV3, eOV1, eOV2, eOV3, out_ok, out_exc, thn_nx, thn_ret, thn_exc, thn_brk, thn_cnt, thn_ite, ok_bindN, exc_bindN, bad_bindN, pure_okN, getE0, getEs, putE, noBrw, am, noBrwM, bo, rt, mp, binD, cmpD, cmpI, addI, subI, negI, eqD_int, truthD, notR, absI, lenL, List.map_cons, List.map_nil, List.length_cons, List.length_nil, List.replicate, List.cons_append, List.nil_append, List.set, decide_true, decide_false, Bool.not_true, Bool.not_false, if_true, if_false, Bool.true_and, Bool.and_true, reduceIte, Bool.false_eq_true, decide_eq_true_eq, Nat.reduceSub, Nat.reduceAdd, Nat.reduceLT, Nat.zero_add, mpL_ints, boM, c1, e0, m9]
    by_cases h : d1 % 2 = 1
    · refine ⟨1 + k1 % 10 ^ 6, by omega, ?_⟩
      rw [st]
      simp only [b3s2, u3_0, u3_1, u3_2, bodyD_eq, res_nx, res_ret, res_exc, res_ite, eS1, eS2, eS3, eS4, eS5, eS6, eS7, eS8, eS9, eS10, eS11, eS12, eS13, eS14, eS15, eS16, eS17, eS18, eS19, eE1, eE2, eE3, eE4, eE5, eE6, eE7, eE8, eE9, eE10, eE11, eE12, eE13, eE14, eE15, eE16, eE17, eE18, eE19, eE20, eE21, eE22, eE23, eE24, eE25, eE26, eE27, eT1, eT2, eT3, eT4, eT5, eT6, eT7, eT8, eT9, eT10, eT11, eT12, eT13, eL1, eL2, eL3, eC1, eC2, eC3, eA1, eA2, eA3, eO1, eO2, eO3, eAV1, eAV2, eAV3, eOV1, eOV2, eOV3, out_ok, out_exc, thn_nx, thn_ret, thn_exc, thn_brk, thn_cnt, thn_ite, ok_bindN, exc_bindN, bad_bindN, pure_okN, getE0, getEs, putE, noBrw, am, noBrwM, bo, rt, mp, binD, cmpD, cmpI, addI, subI, negI, eqD_int, truthD, notR, absI, lenL, List.map_cons, List.map_nil, List.length_cons, List.length_nil, List.replicate, List.cons_append, List.nil_append, List.set, decide_true, decide_false, Bool.not_true, Bool.not_false, if_true, if_false, Bool.true_and, Bool.and_true, reduceIte, Bool.false_eq_true, decide_eq_true_eq, Nat.reduceSub, Nat.reduceAdd, Nat.reduceLT, Nat.zero_add, e1, m2, p6, mk, eq_true h]
    · refine ⟨1 + d0 % 9, by omega, ?_⟩
      rw [st]
      simp only [b3s2, u3_0, u3_1, u3_2, bodyD_eq, res_nx, res_ret, res_exc, res_ite, eS1, eS2, eS3, eS4, eS5, eS6, eS7, eS8, eS9, eS10, eS11, eS12, eS13, eS14, eS15, eS16, eS17, eS18, eS19, eE1, eE2, eE3, eE4, eE5, eE6, eE7, eE8, eE9, eE10, eE11, eE12, eE13, eE14, eE15, eE16, eE17, eE18, eE19, eE20, eE21, eE22, eE23, eE24, eE25, eE26, eE27, eT1, eT2, eT3, eT4, eT5, eT6, eT7, eT8, eT9, eT10, eT11, eT12, eT13, eL1, eL2, eL3, eC1, eC2, eC3, eA1, eA2, eA3, eO1, eO2, eO3, eAV1, eAV2, eAV3, eOV1, eOV2, eOV3, out_ok, out_exc, thn_nx, thn_ret, thn_exc, thn_brk, thn_cnt, thn_ite, ok_bindN, exc_bindN, bad_bindN, pure_okN, getE0, getEs, putE, noBrw, am, noBrwM, bo, rt, mp, binD, cmpD, cmpI, addI, subI, negI, eqD_int, truthD, notR, absI, lenL, List.map_cons, List.map_nil, List.length_cons, List.length_nil, List.replicate, List.cons_append, List.nil_append, List.set, decide_true, decide_false, Bool.not_true, Bool.not_false, if_true, if_false, Bool.true_and, Bool.and_true, reduceIte, Bool.false_eq_true, decide_eq_true_eq, Nat.reduceSub, Nat.reduceAdd, Nat.reduceLT, Nat.zero_add, e1, m2, h]
  obtain ⟨m, ⟨m0, m1⟩, a1⟩ := a1
  have a2 : ∃ s, (0 ≤ s ∧ s ≤ 10 ^ 6) ∧ (evS T3 b3s3 [some (.lst .kon (ns.map Pv.D.int)), some (.int k1), some (.int m), none, none]).res = (evS T3 b3s5 [some (.lst .kon (ns.map Pv.D.int)), some (.int k1), some (.int m), some (.int s), none]).res := by
    have m7 : mulD (.int d3) (.int 7) = .ok (.int (d3 * 7)) := mulS (by omega) (by omega)
    have mm : modD (.int (d3 * 7)) (.int (10 ^ 6 + 1 - m)) = .ok (.int (d3 * 7 % (10 ^ 6 + 1 - m))) := modI (by omega)
    have g1 := Int.emod_nonneg (d3 * 7) (show (10 ^ 6 + 1 - m) ≠ 0 by omega)
    have g2 := Int.emod_lt_of_pos (d3 * 7) (show 0 < (10 ^ 6 + 1 - m) by omega)
    by_cases h : 0 < d2 % 3
    · refine ⟨d3 * 7 % (10 ^ 6 + 1 - m), by omega, ?_⟩
      simp only [b3s3, b3s4, u3_0, u3_1, u3_2, bodyD_eq, res_nx, res_ret, res_exc, res_ite, eS1, eS2, eS3, eS4, eS5, eS6, eS7, eS8, eS9, eS10, eS11, eS12, eS13, eS14, eS15, eS16, eS17, eS18, eS19, eE1, eE2, eE3, eE4, eE5, eE6, eE7, eE8, eE9, eE10, eE11, eE12, eE13, eE14, eE15, eE16, eE17, eE18, eE19, eE20, eE21, eE22, eE23, eE24, eE25, eE26, eE27, eT1, eT2, eT3, eT4, eT5, eT6, eT7, eT8, eT9, eT10, eT11, eT12, eT13, eL1, eL2, eL3, eC1, eC2, eC3, eA1, eA2, eA3, eO1, eO2, eO3, eAV1, eAV2, eAV3, eOV1, eOV2, eOV3, out_ok, out_exc, thn_nx, thn_ret, thn_exc, thn_brk, thn_cnt, thn_ite, ok_bindN, exc_bindN, bad_bindN, pure_okN, getE0, getEs, putE, noBrw, am, noBrwM, bo, rt, mp, binD, cmpD, cmpI, addI, subI, negI, eqD_int, truthD, notR, absI, lenL, List.map_cons, List.map_nil, List.length_cons, List.length_nil, List.replicate, List.cons_append, List.nil_append, List.set, decide_true, decide_false, Bool.not_true, Bool.not_false, if_true, if_false, Bool.true_and, Bool.and_true, reduceIte, Bool.false_eq_true, decide_eq_true_eq, Nat.reduceSub, Nat.reduceAdd, Nat.reduceLT, Nat.zero_add, e2, m3, e3, m7, p6, mm, eq_true h]
    · refine ⟨0, by omega, ?_⟩
      simp only [b3s3, b3s4, u3_0, u3_1, u3_2, bodyD_eq, res_nx, res_ret, res_exc, res_ite, eS1, eS2, eS3, eS4, eS5, eS6, eS7, eS8, eS9, eS10, eS11, eS12, eS13, eS14, eS15, eS16, eS17, eS18, eS19, eE1, eE2, eE3, eE4, eE5, eE6, eE7, eE8, eE9, eE10, eE11, eE12, eE13, eE14, eE15, eE16, eE17, eE18, eE19, eE20, eE21, eE22, eE23, eE24, eE25, eE26, eE27, eT1, eT2, eT3, eT4, eT5, eT6, eT7, eT8, eT9, eT10, eT11, eT12, eT13, eL1, eL2, eL3, eC1, eC2, eC3, eA1, eA2, eA3, eO1, eO2, eO3, eAV1, eAV2, eAV3, eOV1, eOV2, eOV3, out_ok, out_exc, thn_nx, thn_ret, thn_exc, thn_brk, thn_cnt, thn_ite, ok_bindN, exc_bindN, bad_bindN, pure_okN, getE0, getEs, putE, noBrw, am, noBrwM, bo, rt, mp, binD, cmpD, cmpI, addI, subI, negI, eqD_int, truthD, notR, absI, lenL, List.map_cons, List.map_nil, List.length_cons, List.length_nil, List.replicate, List.cons_append, List.nil_append, List.set, decide_true, decide_false, Bool.not_true, Bool.not_false, if_true, if_false, Bool.true_and, Bool.and_true, reduceIte, Bool.false_eq_true, decide_eq_true_eq, Nat.reduceSub, Nat.reduceAdd, Nat.reduceLT, Nat.zero_add, e2, m3, h]
  obtain ⟨s, ⟨s0, s1⟩, a2⟩ := a2
  have g1 := Int.emod_nonneg k2 (show ((10 : Int) ^ 39 + 1) ≠ 0 by omega)
  have g2 := Int.emod_lt_of_pos k2 (show 0 < ((10 : Int) ^ 39 + 1) by omega)
  have a3 : ∃ c, (0 ≤ c ∧ c ≤ 10 ^ 39) ∧ (evS T3 b3s5 [some (.lst .kon (ns.map Pv.D.int)), some (.int k1), some (.int m), some (.int s), none]).res = (evS T3 b3s7 [some (.lst .kon (ns.map Pv.D.int)), some (.int k1), some (.int m), some (.int s), some (.int c)]).res := by
    generalize k2 % (10 ^ 39 + 1) = x at *
    have m50 : modD (.int x) (.int 50) = .ok (.int (x % 50)) := modI (by omega)
    by_cases h : d4 % 2 = 1
    · refine ⟨x % 50, by omega, ?_⟩
      simp only [b3s5, b3s6, u3_0, u3_1, u3_2, bodyD_eq, res_nx, res_ret, res_exc, res_ite, eS1, eS2, eS3, eS4, eS5, eS6, eS7, eS8, eS9, eS10, eS11, eS12, eS13, eS14, eS15, eS16, eS17, eS18, eS19, eE1, eE2, eE3, eE4, eE5, eE6, eE7, eE8, eE9, eE10, eE11, eE12, eE13, eE14, eE15, eE16, eE17, eE18, eE19, eE20, eE21, eE22, eE23, eE24, eE25, eE26, eE27, eT1, eT2, eT3, eT4, eT5, eT6, eT7, eT8, eT9, eT10, eT11, eT12, eT13, eL1, eL2, eL3, eC1, eC2, eC3, eA1, eA2, eA3, eO1, eO2, eO3, eAV1, eAV2, eAV3, eOV1, eOV2, eOV3, out_ok, out_exc, thn_nx, thn_ret, thn_exc, thn_brk, thn_cnt, thn_ite, ok_bindN, exc_bindN, bad_bindN, pure_okN, getE0, getEs, putE, noBrw, am, noBrwM, bo, rt, mp, binD, cmpD, cmpI, addI, subI, negI, eqD_int, truthD, notR, absI, lenL, List.map_cons, List.map_nil, List.length_cons, List.length_nil, List.replicate, List.cons_append, List.nil_append, List.set, decide_true, decide_false, Bool.not_true, Bool.not_false, if_true, if_false, Bool.true_and, Bool.and_true, reduceIte, Bool.false_eq_true, decide_eq_true_eq, Nat.reduceSub, Nat.reduceAdd, Nat.reduceLT, Nat.zero_add, mpL_ints, boM, c2, p39, mc, e4, m42, m50, eq_true h]
    · refine ⟨x, by omega, ?_⟩
      simp only [b3s5, b3s6, u3_0, u3_1, u3_2, bodyD_eq, res_nx, res_ret, res_exc, res_ite, eS1, eS2, eS3, eS4, eS5, eS6, eS7, eS8, eS9, eS10, eS11, eS12, eS13, eS14, eS15, eS16, eS17, eS18, eS19, eE1, eE2, eE3, eE4, eE5, eE6, eE7, eE8, eE9, eE10, eE11, eE12, eE13, eE14, eE15, eE16, eE17, eE18, eE19, eE20, eE21, eE22, eE23, eE24, eE25, eE26, eE27, eT1, eT2, eT3, eT4, eT5, eT6, eT7, eT8, eT9, eT10, eT11, eT12, eT13, eL1, eL2, eL3, eC1, eC2, eC3, eA1, eA2, eA3, eO1, eO2, eO3, eAV1, eAV2, eAV3, eOV1, eOV2, eOV3, out_ok, out_exc, thn_nx, thn_ret, thn_exc, thn_brk, thn_cnt, thn_ite, ok_bindN, exc_bindN, bad_bindN, pure_okN, getE0, getEs, putE, noBrw, am, noBrwM, bo, rt, mp, binD, cmpD, cmpI, addI, subI, negI, eqD_int, truthD, notR, absI, lenL, List.map_cons, List.map_nil, List.length_cons, List.length_nil, List.replicate, List.cons_append, List.nil_append, List.set, decide_true, decide_false, Bool.not_true, Bool.not_false, if_true, if_false, Bool.true_and, Bool.and_true, reduceIte, Bool.false_eq_true, decide_eq_true_eq, Nat.reduceSub, Nat.reduceAdd, Nat.reduceLT, Nat.zero_add, mpL_ints, boM, c2, p39, mc, e4, m42, h]
  obtain ⟨c, ⟨h5, h6⟩, a3⟩ := a3
  refine ⟨z, s, m, c, ?_, ⟨h5, h6, s0, s1, m0, m1⟩⟩
  have i0 : ixD (.lst .own [.str z]) (.int 0) = .ok (.str z) := rfl
  rw [a1, a2, a3]
  simp only [b3s7, u3_0, u3_1, u3_2, bodyD_eq, res_nx, res_ret, res_exc, res_ite, eS1, eS2, eS3, eS4, eS5, eS6, eS7, eS8, eS9, eS10, eS11, eS12, eS13, eS14, eS15, eS16, eS17, eS18, eS19, eE1, eE2, eE3, eE4, eE5, eE6, eE7, eE8, eE9, eE10, eE11, eE12, eE13, eE14, eE15, eE16, eE17, eE18, eE19, eE20, eE21, eE22, eE23, eE24, eE25, eE26, eE27, eT1, eT2, eT3, eT4, eT5, eT6, eT7, eT8, eT9, eT10, eT11, eT12, eT13, eL1, eL2, eL3, eC1, eC2, eC3, eA1, eA2, eA3, eO1, eO2, eO3, eAV1, eAV2, eAV3, eOV1, eOV2, eOV3, out_ok, out_exc, thn_nx, thn_ret, thn_exc, thn_brk, thn_cnt, thn_ite, ok_bindN, exc_bindN, bad_bindN, pure_okN, getE0, getEs, putE, noBrw, am, noBrwM, bo, rt, mp, binD, cmpD, cmpI, addI, subI, negI, eqD_int, truthD, notR, absI, lenL, List.map_cons, List.map_nil, List.length_cons, List.length_nil, List.replicate, List.cons_append, List.nil_append, List.set, decide_true, decide_false, Bool.not_true, Bool.not_false, if_true, if_false, Bool.true_and, Bool.and_true, reduceIte, Bool.false_eq_true, decide_eq_true_eq, Nat.reduceSub, Nat.reduceAdd, Nat.reduceLT, Nat.zero_add, mpL_ints, boM, c0, hz, i0, lo4, mpL]
  rfl
theorem cl3 (ns : List Int) : ∃ z s m c, callD f3 [.lst .kon (ns.map Pv.D.int)] = .ok (layD z s m c) ∧ Lay s m c := by
  obtain ⟨z, s, m, c, h, l⟩ := ev3 ns
  refine ⟨z, s, m, c, call_ok rfl ?_ (Bool.or_true _), l⟩
  show f3.m [.lst (shM .kon) (mpL shM (ns.map Pv.D.int))] = _
  rw [mpL_ints]
  exact h
def portS (a m s t : Int) : Int := a * t / m - a * s / m
theorem b130 : ((10 : Int) ^ 39).natAbs < 2 ^ 130 := by decide
theorem ev4 (a m s t : Int) (h0 : 0 ≤ a) (ha : a ≤ 10 ^ 39) (h1 : 1 ≤ m) (h2 : 0 ≤ s) (h3 : s ≤ t) (h4 : t ≤ m) (h5 : m ≤ 10 ^ 6) : f4.m [.int a, .int m, .int s, .int t] = .ok (.int (portS a m s t)) := by
  have u1 : mulD (.int a) (.int t) = .ok (.int (a * t)) := mulS (by omega) (by omega)
  have u2 : mulD (.int a) (.int s) = .ok (.int (a * s)) := mulS (by omega) (by omega)
  have p : (2 : Int) ^ 64 < 2 ^ 9000 := by decide
  have u3 : fdivD (.int (a * t)) (.int m) = .ok (.int (a * t / m)) := fdivI (by omega) (by omega)
  have u4 : fdivD (.int (a * s)) (.int m) = .ok (.int (a * s / m)) := fdivI (by omega) (by omega)
  have n1 : ¬ m < 1 := by omega
  have n2 : ¬ s < 0 := by omega
  have n3 : ¬ t < s := by omega
  have n4 : ¬ m < t := by omega
  unfold portS
  simp only [f4, b4, b4s1, bodyD_eq, res_nx, res_ret, res_exc, res_ite, eS1, eS2, eS3, eS4, eS5, eS6, eS7, eS8, eS9, eS10, eS11, eS12, eS13, eS14, eS15, eS16, eS17, eS18, eS19, eE1, eE2, eE3, eE4, eE5, eE6, eE7, eE8, eE9, eE10, eE11, eE12, eE13, eE14, eE15, eE16, eE17, eE18, eE19, eE20, eE21, eE22, eE23, eE24, eE25, eE26, eE27, eT1, eT2, eT3, eT4, eT5, eT6, eT7, eT8, eT9, eT10, eT11, eT12, eT13, eL1, eL2, eL3, eC1, eC2, eC3, eA1, eA2, eA3, eO1, eO2, eO3, eAV1, eAV2, eAV3, eOV1, eOV2, eOV3, out_ok, out_exc, thn_nx, thn_ret, thn_exc, thn_brk, thn_cnt, thn_ite, ok_bindN, exc_bindN, bad_bindN, pure_okN, getE0, getEs, putE, noBrw, am, noBrwM, bo, rt, mp, binD, cmpD, cmpI, addI, subI, negI, eqD_int, truthD, notR, absI, lenL, List.map_cons, List.map_nil, List.length_cons, List.length_nil, List.replicate, List.cons_append, List.nil_append, List.set, decide_true, decide_false, Bool.not_true, Bool.not_false, if_true, if_false, Bool.true_and, Bool.and_true, reduceIte, Bool.false_eq_true, decide_eq_true_eq, Nat.reduceSub, Nat.reduceAdd, Nat.reduceLT, Nat.zero_add, u1, u2, u3, u4, n1, n2, n3, n4]
theorem cl4 (a m s t : Int) (h0 : 0 ≤ a) (ha : a ≤ 10 ^ 39) (h1 : 1 ≤ m) (h2 : 0 ≤ s) (h3 : s ≤ t) (h4 : t ≤ m) (h5 : m ≤ 10 ^ 6) : callD f4 [.int a, .int m, .int s, .int t] = .ok (.int (portS a m s t)) := call_ok rfl (ev4 a m s t h0 ha h1 h2 h3 h4 h5) rfl
theorem ev4x (a m s t : Int) (h : m < 1 ∨ s < 0 ∨ t < s ∨ m < t) : f4.m [.int a, .int m, .int s, .int t] = .exc ⟨0, []⟩ := by
  by_cases h1 : m < 1
  · simp only [f4, b4, b4s1, bodyD_eq, res_nx, res_ret, res_exc, res_ite, eS1, eS2, eS3, eS4, eS5, eS6, eS7, eS8, eS9, eS10, eS11, eS12, eS13, eS14, eS15, eS16, eS17, eS18, eS19, eE1, eE2, eE3, eE4, eE5, eE6, eE7, eE8, eE9, eE10, eE11, eE12, eE13, eE14, eE15, eE16, eE17, eE18, eE19, eE20, eE21, eE22, eE23, eE24, eE25, eE26, eE27, eT1, eT2, eT3, eT4, eT5, eT6, eT7, eT8, eT9, eT10, eT11, eT12, eT13, eL1, eL2, eL3, eC1, eC2, eC3, eA1, eA2, eA3, eO1, eO2, eO3, eAV1, eAV2, eAV3, eOV1, eOV2, eOV3, out_ok, out_exc, thn_nx, thn_ret, thn_exc, thn_brk, thn_cnt, thn_ite, ok_bindN, exc_bindN, bad_bindN, pure_okN, getE0, getEs, putE, noBrw, am, noBrwM, bo, rt, mp, binD, cmpD, cmpI, addI, subI, negI, eqD_int, truthD, notR, absI, lenL, List.map_cons, List.map_nil, List.length_cons, List.length_nil, List.replicate, List.cons_append, List.nil_append, List.set, decide_true, decide_false, Bool.not_true, Bool.not_false, if_true, if_false, Bool.true_and, Bool.and_true, reduceIte, Bool.false_eq_true, decide_eq_true_eq, Nat.reduceSub, Nat.reduceAdd, Nat.reduceLT, Nat.zero_add, h1]
  · by_cases h2 : s < 0
    · simp only [f4, b4, b4s1, bodyD_eq, res_nx, res_ret, res_exc, res_ite, eS1, eS2, eS3, eS4, eS5, eS6, eS7, eS8, eS9, eS10, eS11, eS12, eS13, eS14, eS15, eS16, eS17, eS18, eS19, eE1, eE2, eE3, eE4, eE5, eE6, eE7, eE8, eE9, eE10, eE11, eE12, eE13, eE14, eE15, eE16, eE17, eE18, eE19, eE20, eE21, eE22, eE23, eE24, eE25, eE26, eE27, eT1, eT2, eT3, eT4, eT5, eT6, eT7, eT8, eT9, eT10, eT11, eT12, eT13, eL1, eL2, eL3, eC1, eC2, eC3, eA1, eA2, eA3, eO1, eO2, eO3, eAV1, eAV2, eAV3, eOV1, eOV2, eOV3, out_ok, out_exc, thn_nx, thn_ret, thn_exc, thn_brk, thn_cnt, thn_ite, ok_bindN, exc_bindN, bad_bindN, pure_okN, getE0, getEs, putE, noBrw, am, noBrwM, bo, rt, mp, binD, cmpD, cmpI, addI, subI, negI, eqD_int, truthD, notR, absI, lenL, List.map_cons, List.map_nil, List.length_cons, List.length_nil, List.replicate, List.cons_append, List.nil_append, List.set, decide_true, decide_false, Bool.not_true, Bool.not_false, if_true, if_false, Bool.true_and, Bool.and_true, reduceIte, Bool.false_eq_true, decide_eq_true_eq, Nat.reduceSub, Nat.reduceAdd, Nat.reduceLT, Nat.zero_add, h1, h2]
    · by_cases h3 : t < s
      · simp only [f4, b4, b4s1, bodyD_eq, res_nx, res_ret, res_exc, res_ite, eS1, eS2, eS3, eS4, eS5, eS6, eS7, eS8, eS9, eS10, eS11, eS12, eS13, eS14, eS15, eS16, eS17, eS18, eS19, eE1, eE2, eE3, eE4, eE5, eE6, eE7, eE8, eE9, eE10, eE11, eE12, eE13, eE14, eE15, eE16, eE17, eE18, eE19, eE20, eE21, eE22, eE23, eE24, eE25, eE26, eE27, eT1, eT2, eT3, eT4, eT5, eT6, eT7, eT8, eT9, eT10, eT11, eT12, eT13, eL1, eL2, eL3, eC1, eC2, eC3, eA1, eA2, eA3, eO1, eO2, eO3, eAV1, eAV2, eAV3, eOV1, eOV2, eOV3, out_ok, out_exc, thn_nx, thn_ret, thn_exc, thn_brk, thn_cnt, thn_ite, ok_bindN, exc_bindN, bad_bindN, pure_okN, getE0, getEs, putE, noBrw, am, noBrwM, bo, rt, mp, binD, cmpD, cmpI, addI, subI, negI, eqD_int, truthD, notR, absI, lenL, List.map_cons, List.map_nil, List.length_cons, List.length_nil, List.replicate, List.cons_append, List.nil_append, List.set, decide_true, decide_false, Bool.not_true, Bool.not_false, if_true, if_false, Bool.true_and, Bool.and_true, reduceIte, Bool.false_eq_true, decide_eq_true_eq, Nat.reduceSub, Nat.reduceAdd, Nat.reduceLT, Nat.zero_add, h1, h2, h3]
      · have h4 : m < t := by omega
        simp only [f4, b4, b4s1, bodyD_eq, res_nx, res_ret, res_exc, res_ite, eS1, eS2, eS3, eS4, eS5, eS6, eS7, eS8, eS9, eS10, eS11, eS12, eS13, eS14, eS15, eS16, eS17, eS18, eS19, eE1, eE2, eE3, eE4, eE5, eE6, eE7, eE8, eE9, eE10, eE11, eE12, eE13, eE14, eE15, eE16, eE17, eE18, eE19, eE20, eE21, eE22, eE23, eE24, eE25, eE26, eE27, eT1, eT2, eT3, eT4, eT5, eT6, eT7, eT8, eT9, eT10, eT11, eT12, eT13, eL1, eL2, eL3, eC1, eC2, eC3, eA1, eA2, eA3, eO1, eO2, eO3, eAV1, eAV2, eAV3, eOV1, eOV2, eOV3, out_ok, out_exc, thn_nx, thn_ret, thn_exc, thn_brk, thn_cnt, thn_ite, ok_bindN, exc_bindN, bad_bindN, pure_okN, getE0, getEs, putE, noBrw, am, noBrwM, bo, rt, mp, binD, cmpD, cmpI, addI, subI, negI, eqD_int, truthD, notR, absI, lenL, List.map_cons, List.map_nil, List.length_cons, List.length_nil, List.replicate, List.cons_append, List.nil_append, List.set, decide_true, decide_false, Bool.not_true, Bool.not_false, if_true, if_false, Bool.true_and, Bool.and_true, reduceIte, Bool.false_eq_true, decide_eq_true_eq, Nat.reduceSub, Nat.reduceAdd, Nat.reduceLT, Nat.zero_add, h1, h2, h3, h4]
theorem cl4x (a m s t : Int) (h : m < 1 ∨ s < 0 ∨ t < s ∨ m < t) : callD f4 [.int a, .int m, .int s, .int t] = .exc ⟨0, []⟩ := call_exc rfl (ev4x a m s t h) rfl
theorem ub {T : Tb} {env : Pv.Env} {is : List Nat} {i : Nat} {z : Str} {s m c : Int} (h : evE T (.var i) env = .ok (layD z s m c)) (hi : (is.length == 1) = false) : evS T (.asgT is (.var i)) env = putEs env is [.str z, .int c, .int s, .int (s + m)] := by
  rw [evS, h, out_ok]
  show (if is.length == 1 || !amL noBrwM [.str z, .int c, .int s, .int (s + m)] then Out.bad else _) = _
  rw [hi]
  rfl
theorem ev5 (z : Str) (s m c b e : Int) (l : Lay s m c) (hb : s ≤ b) (hbe : b ≤ e) (he : e ≤ s + m) : f5.m [layD z s m c, .int b, .int e] = .ok (.int (portS c m (b - s) (e - s))) := by
  have k := cl4 c m (b - s) (e - s) l.c0 l.c1 l.m0 (by omega) (by omega) (by omega) l.m1
  have u := ub (T := T5) (env := [some (layD z s m c), some (.int b), some (.int e), none, none, none, none]) (is := [3, 4, 5, 6]) (i := 0) (z := z) (s := s) (m := m) (c := c) rfl rfl
  show (evS T5 b5 [some (layD z s m c), some (.int b), some (.int e), none, none, none, none]).res = _
  rw [b5, evS, u]
  simp only [putEs, b5s1, u5_4, bodyD_eq, res_nx, res_ret, res_exc, res_ite, eS1, eS2, eS3, eS4, eS5, eS6, eS7, eS8, eS9, eS10, eS11, eS12, eS13, eS14, eS15, eS16, eS17, eS18, eS19, eE1, eE2, eE3, eE4, eE5, eE6, eE7, eE8, eE9, eE10, eE11, eE12, eE13, eE14, eE15, eE16, eE17, eE18, eE19, eE20, eE21, eE22, eE23, eE24, eE25, eE26, eE27, eT1, eT2, eT3, eT4, eT5, eT6, eT7, eT8, eT9, eT10, eT11, eT12, eT13, eL1, eL2, eL3, eC1, eC2, eC3, eA1, eA2, eA3, eO1, eO2, eO3, eAV1, eAV2, eAV3, eOV1, eOV2, eOV3, out_ok, out_exc, thn_nx, thn_ret, thn_exc, thn_brk, thn_cnt, thn_ite, ok_bindN, exc_bindN, bad_bindN, pure_okN, getE0, getEs, putE, noBrw, am, noBrwM, bo, rt, mp, binD, cmpD, cmpI, addI, subI, negI, eqD_int, truthD, notR, absI, lenL, List.map_cons, List.map_nil, List.length_cons, List.length_nil, List.replicate, List.cons_append, List.nil_append, List.set, decide_true, decide_false, Bool.not_true, Bool.not_false, if_true, if_false, Bool.true_and, Bool.and_true, reduceIte, Bool.false_eq_true, decide_eq_true_eq, Nat.reduceSub, Nat.reduceAdd, Nat.reduceLT, Nat.zero_add, k, show s + m - s = m by omega]
theorem cl5 (z : Str) (s m c b e : Int) (l : Lay s m c) (hb : s ≤ b) (hbe : b ≤ e) (he : e ≤ s + m) : callD f5 [layD z s m c, .int b, .int e] = .ok (.int (portS c m (b - s) (e - s))) := call_ok rfl (ev5 z s m c b e l hb hbe he) rfl
theorem ev5x (z : Str) (s m c b e : Int) (h : b < s ∨ e < b ∨ s + m < e) : f5.m [layD z s m c, .int b, .int e] = .exc ⟨0, []⟩ := by
  have k := cl4x c m (b - s) (e - s) (by omega)
  have u := ub (T := T5) (env := [some (layD z s m c), some (.int b), some (.int e), none, none, none, none]) (is := [3, 4, 5, 6]) (i := 0) (z := z) (s := s) (m := m) (c := c) rfl rfl
  show (evS T5 b5 [some (layD z s m c), some (.int b), some (.int e), none, none, none, none]).res = _
  rw [b5, evS, u]
  simp only [putEs, b5s1, u5_4, bodyD_eq, res_nx, res_ret, res_exc, res_ite, eS1, eS2, eS3, eS4, eS5, eS6, eS7, eS8, eS9, eS10, eS11, eS12, eS13, eS14, eS15, eS16, eS17, eS18, eS19, eE1, eE2, eE3, eE4, eE5, eE6, eE7, eE8, eE9, eE10, eE11, eE12, eE13, eE14, eE15, eE16, eE17, eE18, eE19, eE20, eE21, eE22, eE23, eE24, eE25, eE26, eE27, eT1, eT2, eT3, eT4, eT5, eT6, eT7, eT8, eT9, eT10, eT11, eT12, eT13, eL1, eL2, eL3, eC1, eC2, eC3, eA1, eA2, eA3, eO1, eO2, eO3, eAV1, eAV2, eAV3, eOV1, eOV2, eOV3, out_ok, out_exc, thn_nx, thn_ret, thn_exc, thn_brk, thn_cnt, thn_ite, ok_bindN, exc_bindN, bad_bindN, pure_okN, getE0, getEs, putE, noBrw, am, noBrwM, bo, rt, mp, binD, cmpD, cmpI, addI, subI, negI, eqD_int, truthD, notR, absI, lenL, List.map_cons, List.map_nil, List.length_cons, List.length_nil, List.replicate, List.cons_append, List.nil_append, List.set, decide_true, decide_false, Bool.not_true, Bool.not_false, if_true, if_false, Bool.true_and, Bool.and_true, reduceIte, Bool.false_eq_true, decide_eq_true_eq, Nat.reduceSub, Nat.reduceAdd, Nat.reduceLT, Nat.zero_add, k, show s + m - s = m by omega]
theorem cl5x (z : Str) (s m c b e : Int) (h : b < s ∨ e < b ∨ s + m < e) : callD f5 [layD z s m c, .int b, .int e] = .exc ⟨0, []⟩ := call_exc rfl (ev5x z s m c b e h) rfl
theorem floor2 (x S : Int) (hS : 1 ≤ S) : x / S * S ≤ x ∧ x < x / S * S + S := by
  have h1 := Int.mul_ediv_add_emod x S
  have h2 := Int.emod_nonneg x (show S ≠ 0 by omega)
  have h3 := Int.emod_lt_of_pos x (show 0 < S by omega)
  rw [Int.mul_comm] at h1
  omega
theorem ev7 (z : Str) (s m c b e : Int) (l : Lay s m c) (hb : s ≤ b) (hbe : b ≤ e) (he : e ≤ s + m) : f7.m [layD z s m c, .int b, .int e] = .ok (.bl true) := by
  obtain ⟨l1, l2, l3, l4, l5, l6⟩ := id l
  have k := cl5 z s m c b e l hb hbe he
  have k6 := cl6 (portS c m (b - s) (e - s))
  have u := ub (T := T7) (env := [some (layD z s m c), some (.int b), some (.int e), none, none, none, none, none, none, none, none]) (is := [3, 4, 5, 6]) (i := 0) (z := z) (s := s) (m := m) (c := c) rfl rfl
  have p : (2 : Int) ^ 64 < 2 ^ 9000 := by decide
  have u1 : mulD (.int c) (.int (e - s)) = .ok (.int (c * (e - s))) := mulS (by omega) (by omega)
  have u2 : mulD (.int c) (.int (b - s)) = .ok (.int (c * (b - s))) := mulS (by omega) (by omega)
  have u3 : fdivD (.int (c * (e - s))) (.int m) = .ok (.int (c * (e - s) / m)) := fdivI (by omega) (by omega)
  have u4 : fdivD (.int (c * (b - s))) (.int m) = .ok (.int (c * (b - s) / m)) := fdivI (by omega) (by omega)
  have u5 : mulD (.int c) (.int (e - b)) = .ok (.int (c * (e - b))) := mulS (by omega) (by omega)
  obtain ⟨f1, f2⟩ := floor2 (c * (e - s)) m l5
  obtain ⟨f3, f4⟩ := floor2 (c * (b - s)) m l5
  have dd : portS c m (b - s) (e - s) = c * (e - s) / m - c * (b - s) / m := rfl
  have ex : c * (e - b) = c * (e - s) - c * (b - s) := by rw [← Int.mul_sub]; congr 1; omega
  have bx : (portS c m (b - s) (e - s)).natAbs < 2 ^ 200 := by
    have g1 : (c * (e - s)).natAbs ≤ 10 ^ 39 * 10 ^ 7 := by rw [Int.natAbs_mul]; exact Nat.mul_le_mul (by omega) (by omega)
    have g2 : (c * (b - s)).natAbs ≤ 10 ^ 39 * 10 ^ 7 := by rw [Int.natAbs_mul]; exact Nat.mul_le_mul (by omega) (by omega)
    have g3 := Int.natAbs_ediv_le_natAbs (c * (e - s)) m
    have g4 := Int.natAbs_ediv_le_natAbs (c * (b - s)) m
    rw [dd]
    omega
  have u6 : mulD (.int (portS c m (b - s) (e - s))) (.int m) = .ok (.int (portS c m (b - s) (e - s) * m)) := mulS bx (by omega)
  have cl : (((portS c m (b - s) (e - s) * m - c * (e - b)).natAbs : Nat) : Int) < m := by
    rw [dd, Int.sub_mul, ex]
    omega
  have ab := absI (portS c m (b - s) (e - s) * m - c * (e - b))
  have lt : (if portS c m (b - s) (e - s) * m - c * (e - b) < 0 then -(portS c m (b - s) (e - s) * m - c * (e - b)) else portS c m (b - s) (e - s) * m - c * (e - b)) < m := by
    split <;> omega
  show (evS T7 b7 [some (layD z s m c), some (.int b), some (.int e), none, none, none, none, none, none, none, none]).res = _
  rw [b7, evS, u]
  simp only [putEs, b7s1, bodyD_eq, res_nx, res_ret, res_exc, res_ite, eS1, eS2, eS3, eS4, eS5, eS6, eS7, eS8, eS9, eS10, eS11, eS12, eS13, eS14, eS15, eS16, eS17, eS18, eS19, eE1, eE2, eE3, eE4, eE5, eE6, eE7, eE8, eE9, eE10, eE11, eE12, eE13, eE14, eE15, eE16, eE17, eE18, eE19, eE20, eE21, eE22, eE23, eE24, eE25, eE26, eE27, eT1, eT2, eT3, eT4, eT5, eT6, eT7, eT8, eT9, eT10, eT11, eT12, eT13, eL1, eL2, eL3, eC1, eC2, eC3, eA1, eA2, eA3, eO1, eO2, eO3, eAV1, eAV2, eAV3, eOV1, eOV2, eOV3, out_ok, out_exc, thn_nx, thn_ret, thn_exc, thn_brk, thn_cnt, thn_ite, ok_bindN, exc_bindN, bad_bindN, pure_okN, getE0, getEs, putE, noBrw, am, noBrwM, bo, rt, mp, binD, cmpD, cmpI, addI, subI, negI, eqD_int, truthD, notR, absI, lenL, List.map_cons, List.map_nil, List.length_cons, List.length_nil, List.replicate, List.cons_append, List.nil_append, List.set, decide_true, decide_false, Bool.not_true, Bool.not_false, if_true, if_false, Bool.true_and, Bool.and_true, reduceIte, Bool.false_eq_true, decide_eq_true_eq, Nat.reduceSub, Nat.reduceAdd, Nat.reduceLT, Nat.zero_add, show s + m - s = m by omega]
  simp only [b7s2, u7_5, u7_6, bodyD_eq, res_nx, res_ret, res_exc, res_ite, eS1, eS2, eS3, eS4, eS5, eS6, eS7, eS8, eS9, eS10, eS11, eS12, eS13, eS14, eS15, eS16, eS17, eS18, eS19, eE1, eE2, eE3, eE4, eE5, eE6, eE7, eE8, eE9, eE10, eE11, eE12, eE13, eE14, eE15, eE16, eE17, eE18, eE19, eE20, eE21, eE22, eE23, eE24, eE25, eE26, eE27, eT1, eT2, eT3, eT4, eT5, eT6, eT7, eT8, eT9, eT10, eT11, eT12, eT13, eL1, eL2, eL3, eC1, eC2, eC3, eA1, eA2, eA3, eO1, eO2, eO3, eAV1, eAV2, eAV3, eOV1, eOV2, eOV3, out_ok, out_exc, thn_nx, thn_ret, thn_exc, thn_brk, thn_cnt, thn_ite, ok_bindN, exc_bindN, bad_bindN, pure_okN, getE0, getEs, putE, noBrw, am, noBrwM, bo, rt, mp, binD, cmpD, cmpI, addI, subI, negI, eqD_int, truthD, notR, absI, lenL, List.map_cons, List.map_nil, List.length_cons, List.length_nil, List.replicate, List.cons_append, List.nil_append, List.set, decide_true, decide_false, Bool.not_true, Bool.not_false, if_true, if_false, Bool.true_and, Bool.and_true, reduceIte, Bool.false_eq_true, decide_eq_true_eq, Nat.reduceSub, Nat.reduceAdd, Nat.reduceLT, Nat.zero_add, mp_lay, k]
  simp only [b7s3, u7_5, u7_6, bodyD_eq, res_nx, res_ret, res_exc, res_ite, eS1, eS2, eS3, eS4, eS5, eS6, eS7, eS8, eS9, eS10, eS11, eS12, eS13, eS14, eS15, eS16, eS17, eS18, eS19, eE1, eE2, eE3, eE4, eE5, eE6, eE7, eE8, eE9, eE10, eE11, eE12, eE13, eE14, eE15, eE16, eE17, eE18, eE19, eE20, eE21, eE22, eE23, eE24, eE25, eE26, eE27, eT1, eT2, eT3, eT4, eT5, eT6, eT7, eT8, eT9, eT10, eT11, eT12, eT13, eL1, eL2, eL3, eC1, eC2, eC3, eA1, eA2, eA3, eO1, eO2, eO3, eAV1, eAV2, eAV3, eOV1, eOV2, eOV3, out_ok, out_exc, thn_nx, thn_ret, thn_exc, thn_brk, thn_cnt, thn_ite, ok_bindN, exc_bindN, bad_bindN, pure_okN, getE0, getEs, putE, noBrw, am, noBrwM, bo, rt, mp, binD, cmpD, cmpI, addI, subI, negI, eqD_int, truthD, notR, absI, lenL, List.map_cons, List.map_nil, List.length_cons, List.length_nil, List.replicate, List.cons_append, List.nil_append, List.set, decide_true, decide_false, Bool.not_true, Bool.not_false, if_true, if_false, Bool.true_and, Bool.and_true, reduceIte, Bool.false_eq_true, decide_eq_true_eq, Nat.reduceSub, Nat.reduceAdd, Nat.reduceLT, Nat.zero_add, k6]
  simp only [b7s4, u7_5, u7_6, bodyD_eq, res_nx, res_ret, res_exc, res_ite, eS1, eS2, eS3, eS4, eS5, eS6, eS7, eS8, eS9, eS10, eS11, eS12, eS13, eS14, eS15, eS16, eS17, eS18, eS19, eE1, eE2, eE3, eE4, eE5, eE6, eE7, eE8, eE9, eE10, eE11, eE12, eE13, eE14, eE15, eE16, eE17, eE18, eE19, eE20, eE21, eE22, eE23, eE24, eE25, eE26, eE27, eT1, eT2, eT3, eT4, eT5, eT6, eT7, eT8, eT9, eT10, eT11, eT12, eT13, eL1, eL2, eL3, eC1, eC2, eC3, eA1, eA2, eA3, eO1, eO2, eO3, eAV1, eAV2, eAV3, eOV1, eOV2, eOV3, out_ok, out_exc, thn_nx, thn_ret, thn_exc, thn_brk, thn_cnt, thn_ite, ok_bindN, exc_bindN, bad_bindN, pure_okN, getE0, getEs, putE, noBrw, am, noBrwM, bo, rt, mp, binD, cmpD, cmpI, addI, subI, negI, eqD_int, truthD, notR, absI, lenL, List.map_cons, List.map_nil, List.length_cons, List.length_nil, List.replicate, List.cons_append, List.nil_append, List.set, decide_true, decide_false, Bool.not_true, Bool.not_false, if_true, if_false, Bool.true_and, Bool.and_true, reduceIte, Bool.false_eq_true, decide_eq_true_eq, Nat.reduceSub, Nat.reduceAdd, Nat.reduceLT, Nat.zero_add, u1, u3]
  simp only [b7s5, u7_5, u7_6, bodyD_eq, res_nx, res_ret, res_exc, res_ite, eS1, eS2, eS3, eS4, eS5, eS6, eS7, eS8, eS9, eS10, eS11, eS12, eS13, eS14, eS15, eS16, eS17, eS18, eS19, eE1, eE2, eE3, eE4, eE5, eE6, eE7, eE8, eE9, eE10, eE11, eE12, eE13, eE14, eE15, eE16, eE17, eE18, eE19, eE20, eE21, eE22, eE23, eE24, eE25, eE26, eE27, eT1, eT2, eT3, eT4, eT5, eT6, eT7, eT8, eT9, eT10, eT11, eT12, eT13, eL1, eL2, eL3, eC1, eC2, eC3, eA1, eA2, eA3, eO1, eO2, eO3, eAV1, eAV2, eAV3, eOV1, eOV2, eOV3, out_ok, out_exc, thn_nx, thn_ret, thn_exc, thn_brk, thn_cnt, thn_ite, ok_bindN, exc_bindN, bad_bindN, pure_okN, getE0, getEs, putE, noBrw, am, noBrwM, bo, rt, mp, binD, cmpD, cmpI, addI, subI, negI, eqD_int, truthD, notR, absI, lenL, List.map_cons, List.map_nil, List.length_cons, List.length_nil, List.replicate, List.cons_append, List.nil_append, List.set, decide_true, decide_false, Bool.not_true, Bool.not_false, if_true, if_false, Bool.true_and, Bool.and_true, reduceIte, Bool.false_eq_true, decide_eq_true_eq, Nat.reduceSub, Nat.reduceAdd, Nat.reduceLT, Nat.zero_add, u2, u4]
  simp only [b7s6, u7_5, u7_6, bodyD_eq, res_nx, res_ret, res_exc, res_ite, eS1, eS2, eS3, eS4, eS5, eS6, eS7, eS8, eS9, eS10, eS11, eS12, eS13, eS14, eS15, eS16, eS17, eS18, eS19, eE1, eE2, eE3, eE4, eE5, eE6, eE7, eE8, eE9, eE10, eE11, eE12, eE13, eE14, eE15, eE16, eE17, eE18, eE19, eE20, eE21, eE22, eE23, eE24, eE25, eE26, eE27, eT1, eT2, eT3, eT4, eT5, eT6, eT7, eT8, eT9, eT10, eT11, eT12, eT13, eL1, eL2, eL3, eC1, eC2, eC3, eA1, eA2, eA3, eO1, eO2, eO3, eAV1, eAV2, eAV3, eOV1, eOV2, eOV3, out_ok, out_exc, thn_nx, thn_ret, thn_exc, thn_brk, thn_cnt, thn_ite, ok_bindN, exc_bindN, bad_bindN, pure_okN, getE0, getEs, putE, noBrw, am, noBrwM, bo, rt, mp, binD, cmpD, cmpI, addI, subI, negI, eqD_int, truthD, notR, absI, lenL, List.map_cons, List.map_nil, List.length_cons, List.length_nil, List.replicate, List.cons_append, List.nil_append, List.set, decide_true, decide_false, Bool.not_true, Bool.not_false, if_true, if_false, Bool.true_and, Bool.and_true, reduceIte, Bool.false_eq_true, decide_eq_true_eq, Nat.reduceSub, Nat.reduceAdd, Nat.reduceLT, Nat.zero_add, dd]
  rw [dd] at u6 cl ab
  simp only [b7s7, u7_5, u7_6, bodyD_eq, res_nx, res_ret, res_exc, res_ite, eS1, eS2, eS3, eS4, eS5, eS6, eS7, eS8, eS9, eS10, eS11, eS12, eS13, eS14, eS15, eS16, eS17, eS18, eS19, eE1, eE2, eE3, eE4, eE5, eE6, eE7, eE8, eE9, eE10, eE11, eE12, eE13, eE14, eE15, eE16, eE17, eE18, eE19, eE20, eE21, eE22, eE23, eE24, eE25, eE26, eE27, eT1, eT2, eT3, eT4, eT5, eT6, eT7, eT8, eT9, eT10, eT11, eT12, eT13, eL1, eL2, eL3, eC1, eC2, eC3, eA1, eA2, eA3, eO1, eO2, eO3, eAV1, eAV2, eAV3, eOV1, eOV2, eOV3, out_ok, out_exc, thn_nx, thn_ret, thn_exc, thn_brk, thn_cnt, thn_ite, ok_bindN, exc_bindN, bad_bindN, pure_okN, getE0, getEs, putE, noBrw, am, noBrwM, bo, rt, mp, binD, cmpD, cmpI, addI, subI, negI, eqD_int, truthD, notR, absI, lenL, List.map_cons, List.map_nil, List.length_cons, List.length_nil, List.replicate, List.cons_append, List.nil_append, List.set, decide_true, decide_false, Bool.not_true, Bool.not_false, if_true, if_false, Bool.true_and, Bool.and_true, reduceIte, Bool.false_eq_true, decide_eq_true_eq, Nat.reduceSub, Nat.reduceAdd, Nat.reduceLT, Nat.zero_add, u6, u5, ab, eq_true cl]
theorem cl7 (z : Str) (s m c b e : Int) (l : Lay s m c) (hb : s ≤ b) (hbe : b ≤ e) (he : e ≤ s + m) : callD f7 [layD z s m c, .int b, .int e] = .ok (.bl true) := call_ok rfl (ev7 z s m c b e l hb hbe he) rfl
theorem ev8 (z : Str) (s m c b e : Int) (h : b < s ∨ e < b ∨ s + m < e) : f8.m [layD z s m c, .int b, .int e] = .ok (.bl true) := by
  have x := cl5x z s m c b e h
  simp only [f8, b8, b8s1, u8_5, bodyD_eq, res_nx, res_ret, res_exc, res_ite, eS1, eS2, eS3, eS4, eS5, eS6, eS7, eS8, eS9, eS10, eS11, eS12, eS13, eS14, eS15, eS16, eS17, eS18, eS19, eE1, eE2, eE3, eE4, eE5, eE6, eE7, eE8, eE9, eE10, eE11, eE12, eE13, eE14, eE15, eE16, eE17, eE18, eE19, eE20, eE21, eE22, eE23, eE24, eE25, eE26, eE27, eT1, eT2, eT3, eT4, eT5, eT6, eT7, eT8, eT9, eT10, eT11, eT12, eT13, eL1, eL2, eL3, eC1, eC2, eC3, eA1, eA2, eA3, eO1, eO2, eO3, eAV1, eAV2, eAV3, eOV1, eOV2, eOV3, out_ok, out_exc, thn_nx, thn_ret, thn_exc, thn_brk, thn_cnt, thn_ite, ok_bindN, exc_bindN, bad_bindN, pure_okN, getE0, getEs, putE, noBrw, am, noBrwM, bo, rt, mp, binD, cmpD, cmpI, addI, subI, negI, eqD_int, truthD, notR, absI, lenL, List.map_cons, List.map_nil, List.length_cons, List.length_nil, List.replicate, List.cons_append, List.nil_append, List.set, decide_true, decide_false, Bool.not_true, Bool.not_false, if_true, if_false, Bool.true_and, Bool.and_true, reduceIte, Bool.false_eq_true, decide_eq_true_eq, Nat.reduceSub, Nat.reduceAdd, Nat.reduceLT, Nat.zero_add, mp_lay, x]
  rfl
theorem cl8 (z : Str) (s m c b e : Int) (h : b < s ∨ e < b ∨ s + m < e) : callD f8 [layD z s m c, .int b, .int e] = .ok (.bl true) := call_ok rfl (ev8 z s m c b e h) rfl
theorem addM (a b : List Int) (h : a.length + b.length ≤ 1000) : addD (.lst .brw (a.map .int)) (.lst .own (b.map .int)) = .ok (.lst .own ((a ++ b).map .int)) := by
  have c : (notKon .brw && notKon .own && lineOk ((a.map Pv.D.int).length + (b.map Pv.D.int).length)) = true := by
    rw [List.length_map, List.length_map, lineOk_le h]
    rfl
  show (if (notKon .brw && notKon .own && lineOk ((a.map Pv.D.int).length + (b.map Pv.D.int).length)) = true then Res.ok (Pv.D.lst .own (mpL fzM (a.map Pv.D.int) ++ mpL fzM (b.map Pv.D.int))) else .bad) = _
  rw [if_pos c, mpL_ints, mpL_ints, List.map_append]
theorem sortedL (m : Md) (ns : List Int) : bltD .sorted [.lst m (ns.map .int)] = .ok (.lst .own ((sortInt ns).map .int)) := by
  show (match intsOf (ns.map Pv.D.int) with | some ns => Res.ok (Pv.D.lst .own ((sortInt ns).map .int)) | none => .bad) = _
  rw [intsOfL]
theorem sort_pw (ns : List Int) : (sortInt ns).Pairwise (· ≤ ·) := by
  have h := List.pairwise_mergeSort (le := fun a b : Int => decide (a ≤ b)) (fun a b c h1 h2 => by simp at *; omega) (fun a b => by simp; omega) ns
  exact h.imp fun h => by simpa using h
/-- the row of cuts from lo to hi -/
structure Row (lo hi : Int) (cs : List Int) : Prop where
  b : ∀ k, k < cs.length → lo ≤ cs.getD k 0 ∧ cs.getD k 0 ≤ hi
  s : ∀ i j, i ≤ j → j < cs.length → cs.getD i 0 ≤ cs.getD j 0
  first : cs.getD 0 0 = lo
  last : cs.getD (cs.length - 1) 0 = hi
theorem getD_mem {cs : List Int} {k : Nat} (h : k < cs.length) : cs.getD k 0 ∈ cs := by
  rw [List.getD_eq_getElem?_getD, List.getElem?_eq_getElem h]
  exact List.getElem_mem h
theorem mem_getD {cs : List Int} {x : Int} (h : x ∈ cs) : ∃ k, k < cs.length ∧ cs.getD k 0 = x := by
  obtain ⟨k, hk, e⟩ := List.getElem_of_mem h
  exact ⟨k, hk, by rw [List.getD_eq_getElem?_getD, List.getElem?_eq_getElem hk]; exact e⟩
theorem row_of (lo hi : Int) (l : List Int) (hl : ∀ x ∈ l, lo ≤ x ∧ x ≤ hi) (h1 : lo ∈ l) (h2 : hi ∈ l) : Row lo hi (sortInt l) := by
  have mem : ∀ x, x ∈ sortInt l ↔ x ∈ l := fun x => by unfold sortInt; exact List.mem_mergeSort
  have b : ∀ k, k < (sortInt l).length → lo ≤ (sortInt l).getD k 0 ∧ (sortInt l).getD k 0 ≤ hi := fun k hk => hl _ ((mem _).mp (getD_mem hk))
  have s : ∀ i j, i ≤ j → j < (sortInt l).length → (sortInt l).getD i 0 ≤ (sortInt l).getD j 0 := fun i j hij hj => by
    rcases Nat.lt_or_eq_of_le hij with h | rfl
    · have q := List.pairwise_iff_getElem.mp (sort_pw l) i j (by omega) hj h
      rw [List.getD_eq_getElem?_getD, List.getD_eq_getElem?_getD, List.getElem?_eq_getElem (by omega), List.getElem?_eq_getElem hj]
      exact q
    · exact Int.le_refl _
  obtain ⟨i, hi1, hi2⟩ := mem_getD ((mem lo).mpr h1)
  obtain ⟨j, hj1, hj2⟩ := mem_getD ((mem hi).mpr h2)
  refine ⟨b, s, ?_, ?_⟩
  · have q1 := s 0 i (by omega) hi1
    have q2 := b 0 (by omega)
    omega
  · have q1 := s j ((sortInt l).length - 1) (by omega) (by omega)
    have q2 := b ((sortInt l).length - 1) (by omega)
    omega
def X (c s m : Int) (cs : List Int) (k : Nat) : Int := portS c m 0 (cs.getD k 0 - s)
def IV (a0 : Option Pv.D) (z : Str) (s m c y : Int) (cs : List Int) (o7 : Option Pv.D) (k : Nat) (env : Pv.Env) : Prop := ∃ o9, env = [a0, some (layD z s m c), some (.int c), some (.int s), some (.int (s + m)), some (.int y), some (.lst .own (cs.map Pv.D.int)), o7, some (.int (X c s m cs k)), o9, none, none, none]
theorem loop9 (a0 : Option Pv.D) (z : Str) (s m c y : Int) (l : Lay s m c) (cs : List Int) (r : Row s (s + m) cs) (o7 : Option Pv.D) (n : Nat) (hn : n + 1 = cs.length) (env : Pv.Env) (h : IV a0 z s m c y cs o7 0 env) : ∃ env', loopD (evS T9 b9w0) (fun e x => tgE e [9] x) (rngD n) env = .nx env' ∧ IV a0 z s m c y cs o7 n env' := by
  have q := loopD_inv (f := evS T9 b9w0) (t := fun e x => tgE e [9] x) (IV a0 z s m c y cs o7) (rngD n) 0 env h (by
    rintro i d env hd ⟨o9, rfl⟩
    rw [Nat.zero_add]
    obtain ⟨hi, rfl⟩ := rngD_at hd
    have x1 := ixI .brw cs i (by omega)
    have x2 := ixI .brw cs (i + 1) (by omega)
    rw [show ((i + 1 : Nat) : Int) = (i : Int) + 1 by omega] at x2
    have g1 := r.b i (by omega)
    have g2 := r.b (i + 1) (by omega)
    have g3 := r.s i (i + 1) (by omega) (by omega)
    have k7 := cl7 z s m c (cs.getD i 0) (cs.getD (i + 1) 0) l g1.1 g3 g2.2
    have k5 := cl5 z s m c (cs.getD i 0) (cs.getD (i + 1) 0) l g1.1 g3 g2.2
    have ex : X c s m cs i + portS c m (cs.getD i 0 - s) (cs.getD (i + 1) 0 - s) = X c s m cs (i + 1) := by
      unfold X portS
      omega
    refine ⟨_, _, tgE1 _ _ _ rfl (by simp), .inl ?_, ⟨some (.int i), rfl⟩⟩
    simp only [b9w0, u9_0, u9_3, u9_5, u9_7, u9_8, bodyD_eq, res_nx, res_ret, res_exc, res_ite, eS1, eS2, eS3, eS4, eS5, eS6, eS7, eS8, eS9, eS10, eS11, eS12, eS13, eS14, eS15, eS16, eS17, eS18, eS19, eE1, eE2, eE3, eE4, eE5, eE6, eE7, eE8, eE9, eE10, eE11, eE12, eE13, eE14, eE15, eE16, eE17, eE18, eE19, eE20, eE21, eE22, eE23, eE24, eE25, eE26, eE27, eT1, eT2, eT3, eT4, eT5, eT6, eT7, eT8, eT9, eT10, eT11, eT12, eT13, eL1, eL2, eL3, eC1, eC2, eC3, eA1, eA2, eA3, eO1, eO2, eO3, eAV1, eAV2, eAV3, eOV1, eOV2, eOV3, out_ok, out_exc, thn_nx, thn_ret, thn_exc, thn_brk, thn_cnt, thn_ite, ok_bindN, exc_bindN, bad_bindN, pure_okN, getE0, getEs, putE, noBrw, am, noBrwM, bo, rt, mp, binD, cmpD, cmpI, addI, subI, negI, eqD_int, truthD, notR, absI, lenL, List.map_cons, List.map_nil, List.length_cons, List.length_nil, List.replicate, List.cons_append, List.nil_append, List.set, decide_true, decide_false, Bool.not_true, Bool.not_false, if_true, if_false, Bool.true_and, Bool.and_true, reduceIte, Bool.false_eq_true, decide_eq_true_eq, Nat.reduceSub, Nat.reduceAdd, Nat.reduceLT, Nat.zero_add, mp_lay, mpL_ints, boM, x1, x2, k7, k5, ex])
  rw [rngD_length, Nat.zero_add] at q
  exact q
theorem end9 (ns : List Int) (z : Str) (s m c y : Int) (l : Lay s m c) (a6 a7 a8 a9 : Option Pv.D) : (evS T9 b9s10 [some (.lst .kon (ns.map Pv.D.int)), some (layD z s m c), some (.int c), some (.int s), some (.int (s + m)), some (.int y), a6, a7, a8, a9, none, none, none]).res = .ok (.bl true) := by
  obtain ⟨l1, l2, l3, l4, l5, l6⟩ := id l
  obtain ⟨f, hf, f0, _⟩ := cl0 ns 3 (by omega)
  rw [show ((3 : Nat) : Int) = 3 from rfl] at hf
  have ms : modD (.int f) (.int (s + m - s + 1)) = .ok (.int (f % (s + m - s + 1))) := modI (by omega)
  have g1 := Int.emod_nonneg f (show s + m - s + 1 ≠ 0 by omega)
  have g2 := Int.emod_lt_of_pos f (show 0 < s + m - s + 1 by omega)
  have d7 : fdivD (.int f) (.int 7) = .ok (.int (f / 7)) := fdivI (by omega) (by decide)
  have m3 : modD (.int (f / 7)) (.int 3) = .ok (.int (f / 7 % 3)) := modI (by omega)
  have d21 : fdivD (.int f) (.int 21) = .ok (.int (f / 21)) := fdivI (by omega) (by decide)
  have m21 : modD (.int (f / 21)) (.int 3) = .ok (.int (f / 21 % 3)) := modI (by omega)
  have p6 : powD (.int 10) (.int 6) = .ok (.int (10 ^ 6)) := powI (n := 6) (by omega) (by omega)
  have m6 : modD (.int f) (.int (10 ^ 6)) = .ok (.int (f % 10 ^ 6)) := modI (by omega)
  have fin : ∀ (p b : Int), s ≤ p → p ≤ s + m → 1 ≤ b → (evS T9 b9s14 [some (.lst .kon (ns.map Pv.D.int)), some (layD z s m c), some (.int c), some (.int s), some (.int (s + m)), some (.int y), a6, a7, a8, a9, some (.int f), some (.int p), some (.int b)]).res = .ok (.bl true) := by
    intro p b h1 h2 h3
    have r1 := cl8 z s m c (s - b) p (by omega)
    have r2 := cl8 z s m c p (s + m + b) (by omega)
    have r3 := cl8 z s m c (p + b) p (by omega)
    have t1 := cl7 z s m c s (s + m) l (by omega) (by omega) (by omega)
    have t2 := cl7 z s m c p (s + m) l (by omega) (by omega) (by omega)
    have t3 := cl7 z s m c p p l (by omega) (by omega) (by omega)
    simp only [b9s14, u9_0, u9_3, u9_5, u9_7, u9_8, bodyD_eq, res_nx, res_ret, res_exc, res_ite, eS1, eS2, eS3, eS4, eS5, eS6, eS7, eS8, eS9, eS10, eS11, eS12, eS13, eS14, eS15, eS16, eS17, eS18, eS19, eE1, eE2, eE3, eE4, eE5, eE6, eE7, eE8, eE9, eE10, eE11, eE12, eE13, eE14, eE15, eE16, eE17, eE18, eE19, eE20, eE21, eE22, eE23, eE24, eE25, eE26, eE27, eT1, eT2, eT3, eT4, eT5, eT6, eT7, eT8, eT9, eT10, eT11, eT12, eT13, eL1, eL2, eL3, eC1, eC2, eC3, eA1, eA2, eA3, eO1, eO2, eO3, eAV1, eAV2, eAV3, eOV1, eOV2, eOV3, out_ok, out_exc, thn_nx, thn_ret, thn_exc, thn_brk, thn_cnt, thn_ite, ok_bindN, exc_bindN, bad_bindN, pure_okN, getE0, getEs, putE, noBrw, am, noBrwM, bo, rt, mp, binD, cmpD, cmpI, addI, subI, negI, eqD_int, truthD, notR, absI, lenL, List.map_cons, List.map_nil, List.length_cons, List.length_nil, List.replicate, List.cons_append, List.nil_append, List.set, decide_true, decide_false, Bool.not_true, Bool.not_false, if_true, if_false, Bool.true_and, Bool.and_true, reduceIte, Bool.false_eq_true, decide_eq_true_eq, Nat.reduceSub, Nat.reduceAdd, Nat.reduceLT, Nat.zero_add, mp_lay, r1, r2]
    simp only [b9s15, u9_0, u9_3, u9_5, u9_7, u9_8, bodyD_eq, res_nx, res_ret, res_exc, res_ite, eS1, eS2, eS3, eS4, eS5, eS6, eS7, eS8, eS9, eS10, eS11, eS12, eS13, eS14, eS15, eS16, eS17, eS18, eS19, eE1, eE2, eE3, eE4, eE5, eE6, eE7, eE8, eE9, eE10, eE11, eE12, eE13, eE14, eE15, eE16, eE17, eE18, eE19, eE20, eE21, eE22, eE23, eE24, eE25, eE26, eE27, eT1, eT2, eT3, eT4, eT5, eT6, eT7, eT8, eT9, eT10, eT11, eT12, eT13, eL1, eL2, eL3, eC1, eC2, eC3, eA1, eA2, eA3, eO1, eO2, eO3, eAV1, eAV2, eAV3, eOV1, eOV2, eOV3, out_ok, out_exc, thn_nx, thn_ret, thn_exc, thn_brk, thn_cnt, thn_ite, ok_bindN, exc_bindN, bad_bindN, pure_okN, getE0, getEs, putE, noBrw, am, noBrwM, bo, rt, mp, binD, cmpD, cmpI, addI, subI, negI, eqD_int, truthD, notR, absI, lenL, List.map_cons, List.map_nil, List.length_cons, List.length_nil, List.replicate, List.cons_append, List.nil_append, List.set, decide_true, decide_false, Bool.not_true, Bool.not_false, if_true, if_false, Bool.true_and, Bool.and_true, reduceIte, Bool.false_eq_true, decide_eq_true_eq, Nat.reduceSub, Nat.reduceAdd, Nat.reduceLT, Nat.zero_add, mp_lay, r3]
    simp only [b9s16, u9_0, u9_3, u9_5, u9_7, u9_8, bodyD_eq, res_nx, res_ret, res_exc, res_ite, eS1, eS2, eS3, eS4, eS5, eS6, eS7, eS8, eS9, eS10, eS11, eS12, eS13, eS14, eS15, eS16, eS17, eS18, eS19, eE1, eE2, eE3, eE4, eE5, eE6, eE7, eE8, eE9, eE10, eE11, eE12, eE13, eE14, eE15, eE16, eE17, eE18, eE19, eE20, eE21, eE22, eE23, eE24, eE25, eE26, eE27, eT1, eT2, eT3, eT4, eT5, eT6, eT7, eT8, eT9, eT10, eT11, eT12, eT13, eL1, eL2, eL3, eC1, eC2, eC3, eA1, eA2, eA3, eO1, eO2, eO3, eAV1, eAV2, eAV3, eOV1, eOV2, eOV3, out_ok, out_exc, thn_nx, thn_ret, thn_exc, thn_brk, thn_cnt, thn_ite, ok_bindN, exc_bindN, bad_bindN, pure_okN, getE0, getEs, putE, noBrw, am, noBrwM, bo, rt, mp, binD, cmpD, cmpI, addI, subI, negI, eqD_int, truthD, notR, absI, lenL, List.map_cons, List.map_nil, List.length_cons, List.length_nil, List.replicate, List.cons_append, List.nil_append, List.set, decide_true, decide_false, Bool.not_true, Bool.not_false, if_true, if_false, Bool.true_and, Bool.and_true, reduceIte, Bool.false_eq_true, decide_eq_true_eq, Nat.reduceSub, Nat.reduceAdd, Nat.reduceLT, Nat.zero_add, mp_lay, t1, t2, t3]
  have st : (evS T9 b9s10 [some (.lst .kon (ns.map Pv.D.int)), some (layD z s m c), some (.int c), some (.int s), some (.int (s + m)), some (.int y), a6, a7, a8, a9, none, none, none]).res =
      (evS T9 b9s13 [some (.lst .kon (ns.map Pv.D.int)), some (layD z s m c), some (.int c), some (.int s), some (.int (s + m)), some (.int y), a6, a7, a8, a9, some (.int f), some (.int (s + f % (s + m - s + 1))), some (.int (1 + f / 7 % 3))]).res := by
    simp only [b9s10, u9_0, u9_3, u9_5, u9_7, u9_8, bodyD_eq, res_nx, res_ret, res_exc, res_ite, eS1, eS2, eS3, eS4, eS5, eS6, eS7, eS8, eS9, eS10, eS11, eS12, eS13, eS14, eS15, eS16, eS17, eS18, eS19, eE1, eE2, eE3, eE4, eE5, eE6, eE7, eE8, eE9, eE10, eE11, eE12, eE13, eE14, eE15, eE16, eE17, eE18, eE19, eE20, eE21, eE22, eE23, eE24, eE25, eE26, eE27, eT1, eT2, eT3, eT4, eT5, eT6, eT7, eT8, eT9, eT10, eT11, eT12, eT13, eL1, eL2, eL3, eC1, eC2, eC3, eA1, eA2, eA3, eO1, eO2, eO3, eAV1, eAV2, eAV3, eOV1, eOV2, eOV3, out_ok, out_exc, thn_nx, thn_ret, thn_exc, thn_brk, thn_cnt, thn_ite, ok_bindN, exc_bindN, bad_bindN, pure_okN, getE0, getEs, putE, noBrw, am, noBrwM, bo, rt, mp, binD, cmpD, cmpI, addI, subI, negI, eqD_int, truthD, notR, absI, lenL, List.map_cons, List.map_nil, List.length_cons, List.length_nil, List.replicate, List.cons_append, List.nil_append, List.set, decide_true, decide_false, Bool.not_true, Bool.not_false, if_true, if_false, Bool.true_and, Bool.and_true, reduceIte, Bool.false_eq_true, decide_eq_true_eq, Nat.reduceSub, Nat.reduceAdd, Nat.reduceLT, Nat.zero_add, mpL_ints, boM, hf]
    simp only [b9s11, u9_0, u9_3, u9_5, u9_7, u9_8, bodyD_eq, res_nx, res_ret, res_exc, res_ite, eS1, eS2, eS3, eS4, eS5, eS6, eS7, eS8, eS9, eS10, eS11, eS12, eS13, eS14, eS15, eS16, eS17, eS18, eS19, eE1, eE2, eE3, eE4, eE5, eE6, eE7, eE8, eE9, eE10, eE11, eE12, eE13, eE14, eE15, eE16, eE17, eE18, eE19, eE20, eE21, eE22, eE23, eE24, eE25, eE26, eE27, eT1, eT2, eT3, eT4, eT5, eT6, eT7, eT8, eT9, eT10, eT11, eT12, eT13, eL1, eL2, eL3, eC1, eC2, eC3, eA1, eA2, eA3, eO1, eO2, eO3, eAV1, eAV2, eAV3, eOV1, eOV2, eOV3, out_ok, out_exc, thn_nx, thn_ret, thn_exc, thn_brk, thn_cnt, thn_ite, ok_bindN, exc_bindN, bad_bindN, pure_okN, getE0, getEs, putE, noBrw, am, noBrwM, bo, rt, mp, binD, cmpD, cmpI, addI, subI, negI, eqD_int, truthD, notR, absI, lenL, List.map_cons, List.map_nil, List.length_cons, List.length_nil, List.replicate, List.cons_append, List.nil_append, List.set, decide_true, decide_false, Bool.not_true, Bool.not_false, if_true, if_false, Bool.true_and, Bool.and_true, reduceIte, Bool.false_eq_true, decide_eq_true_eq, Nat.reduceSub, Nat.reduceAdd, Nat.reduceLT, Nat.zero_add, ms]
    simp only [b9s12, u9_0, u9_3, u9_5, u9_7, u9_8, bodyD_eq, res_nx, res_ret, res_exc, res_ite, eS1, eS2, eS3, eS4, eS5, eS6, eS7, eS8, eS9, eS10, eS11, eS12, eS13, eS14, eS15, eS16, eS17, eS18, eS19, eE1, eE2, eE3, eE4, eE5, eE6, eE7, eE8, eE9, eE10, eE11, eE12, eE13, eE14, eE15, eE16, eE17, eE18, eE19, eE20, eE21, eE22, eE23, eE24, eE25, eE26, eE27, eT1, eT2, eT3, eT4, eT5, eT6, eT7, eT8, eT9, eT10, eT11, eT12, eT13, eL1, eL2, eL3, eC1, eC2, eC3, eA1, eA2, eA3, eO1, eO2, eO3, eAV1, eAV2, eAV3, eOV1, eOV2, eOV3, out_ok, out_exc, thn_nx, thn_ret, thn_exc, thn_brk, thn_cnt, thn_ite, ok_bindN, exc_bindN, bad_bindN, pure_okN, getE0, getEs, putE, noBrw, am, noBrwM, bo, rt, mp, binD, cmpD, cmpI, addI, subI, negI, eqD_int, truthD, notR, absI, lenL, List.map_cons, List.map_nil, List.length_cons, List.length_nil, List.replicate, List.cons_append, List.nil_append, List.set, decide_true, decide_false, Bool.not_true, Bool.not_false, if_true, if_false, Bool.true_and, Bool.and_true, reduceIte, Bool.false_eq_true, decide_eq_true_eq, Nat.reduceSub, Nat.reduceAdd, Nat.reduceLT, Nat.zero_add, d7, m3]
  rw [st]
  by_cases h : f / 21 % 3 = 1
  · have r := fin (s + f % (s + m - s + 1)) (1 + f % 10 ^ 6) (by omega) (by omega) (by omega)
    simp only [b9s13, u9_0, u9_3, u9_5, u9_7, u9_8, bodyD_eq, res_nx, res_ret, res_exc, res_ite, eS1, eS2, eS3, eS4, eS5, eS6, eS7, eS8, eS9, eS10, eS11, eS12, eS13, eS14, eS15, eS16, eS17, eS18, eS19, eE1, eE2, eE3, eE4, eE5, eE6, eE7, eE8, eE9, eE10, eE11, eE12, eE13, eE14, eE15, eE16, eE17, eE18, eE19, eE20, eE21, eE22, eE23, eE24, eE25, eE26, eE27, eT1, eT2, eT3, eT4, eT5, eT6, eT7, eT8, eT9, eT10, eT11, eT12, eT13, eL1, eL2, eL3, eC1, eC2, eC3, eA1, eA2, eA3, eO1, eO2, eO3, eAV1, eAV2, eAV3, eOV1, eOV2, eOV3, out_ok, out_exc, thn_nx, thn_ret, thn_exc, thn_brk, thn_cnt, thn_ite, ok_bindN, exc_bindN, bad_bindN, pure_okN, getE0, getEs, putE, noBrw, am, noBrwM, bo, rt, mp, binD, cmpD, cmpI, addI, subI, negI, eqD_int, truthD, notR, absI, lenL, List.map_cons, List.map_nil, List.length_cons, List.length_nil, List.replicate, List.cons_append, List.nil_append, List.set, decide_true, decide_false, Bool.not_true, Bool.not_false, if_true, if_false, Bool.true_and, Bool.and_true, reduceIte, Bool.false_eq_true, decide_eq_true_eq, Nat.reduceSub, Nat.reduceAdd, Nat.reduceLT, Nat.zero_add, d21, m21, p6, m6, eq_true h, r]
  · have r := fin (s + f % (s + m - s + 1)) (1 + f / 7 % 3) (by omega) (by omega) (by omega)
    simp only [b9s13, u9_0, u9_3, u9_5, u9_7, u9_8, bodyD_eq, res_nx, res_ret, res_exc, res_ite, eS1, eS2, eS3, eS4, eS5, eS6, eS7, eS8, eS9, eS10, eS11, eS12, eS13, eS14, eS15, eS16, eS17, eS18, eS19, eE1, eE2, eE3, eE4, eE5, eE6, eE7, eE8, eE9, eE10, eE11, eE12, eE13, eE14, eE15, eE16, eE17, eE18, eE19, eE20, eE21, eE22, eE23, eE24, eE25, eE26, eE27, eT1, eT2, eT3, eT4, eT5, eT6, eT7, eT8, eT9, eT10, eT11, eT12, eT13, eL1, eL2, eL3, eC1, eC2, eC3, eA1, eA2, eA3, eO1, eO2, eO3, eAV1, eAV2, eAV3, eOV1, eOV2, eOV3, out_ok, out_exc, thn_nx, thn_ret, thn_exc, thn_brk, thn_cnt, thn_ite, ok_bindN, exc_bindN, bad_bindN, pure_okN, getE0, getEs, putE, noBrw, am, noBrwM, bo, rt, mp, binD, cmpD, cmpI, addI, subI, negI, eqD_int, truthD, notR, absI, lenL, List.map_cons, List.map_nil, List.length_cons, List.length_nil, List.replicate, List.cons_append, List.nil_append, List.set, decide_true, decide_false, Bool.not_true, Bool.not_false, if_true, if_false, Bool.true_and, Bool.and_true, reduceIte, Bool.false_eq_true, decide_eq_true_eq, Nat.reduceSub, Nat.reduceAdd, Nat.reduceLT, Nat.zero_add, d21, m21, h, r]
section
variable (ns : List Int) (z : Str) (s m c : Int)
theorem st9a (h3 : callD f3 [.lst .kon (ns.map Pv.D.int)] = .ok (layD z s m c)) : f9.m [.lst .kon (ns.map Pv.D.int)] = (evS T9 b9s1 [some (.lst .kon (ns.map Pv.D.int)), some (layD z s m c), none, none, none, none, none, none, none, none, none, none, none]).res := by
  simp only [f9, b9, u9_0, u9_3, u9_5, u9_7, u9_8, bodyD_eq, res_nx, res_ret, res_exc, res_ite, eS1, eS2, eS3, eS4, eS5, eS6, eS7, eS8, eS9, eS10, eS11, eS12, eS13, eS14, eS15, eS16, eS17, eS18, eS19, eE1, eE2, eE3, eE4, eE5, eE6, eE7, eE8, eE9, eE10, eE11, eE12, eE13, eE14, eE15, eE16, eE17, eE18, eE19, eE20, eE21, eE22, eE23, eE24, eE25, eE26, eE27, eT1, eT2, eT3, eT4, eT5, eT6, eT7, eT8, eT9, eT10, eT11, eT12, eT13, eL1, eL2, eL3, eC1, eC2, eC3, eA1, eA2, eA3, eO1, eO2, eO3, eAV1, eAV2, eAV3, eOV1, eOV2, eOV3, out_ok, out_exc, thn_nx, thn_ret, thn_exc, thn_brk, thn_cnt, thn_ite, ok_bindN, exc_bindN, bad_bindN, pure_okN, getE0, getEs, putE, noBrw, am, noBrwM, bo, rt, mp, binD, cmpD, cmpI, addI, subI, negI, eqD_int, truthD, notR, absI, lenL, List.map_cons, List.map_nil, List.length_cons, List.length_nil, List.replicate, List.cons_append, List.nil_append, List.set, decide_true, decide_false, Bool.not_true, Bool.not_false, if_true, if_false, Bool.true_and, Bool.and_true, reduceIte, Bool.false_eq_true, decide_eq_true_eq, Nat.reduceSub, Nat.reduceAdd, Nat.reduceLT, Nat.zero_add, am_lay, mpL_ints, boM, h3]
theorem st9b : evS T9 b9s1 [some (.lst .kon (ns.map Pv.D.int)), some (layD z s m c), none, none, none, none, none, none, none, none, none, none, none] = evS T9 b9s2 [some (.lst .kon (ns.map Pv.D.int)), some (layD z s m c), some (.int c), none, none, none, none, none, none, none, none, none, none] := by
  have i1 : ixD (layD z s m c) (.int 1) = .ok (.int c) := rfl
  simp only [b9s1, bodyD_eq, res_nx, res_ret, res_exc, res_ite, eS1, eS2, eS3, eS4, eS5, eS6, eS7, eS8, eS9, eS10, eS11, eS12, eS13, eS14, eS15, eS16, eS17, eS18, eS19, eE1, eE2, eE3, eE4, eE5, eE6, eE7, eE8, eE9, eE10, eE11, eE12, eE13, eE14, eE15, eE16, eE17, eE18, eE19, eE20, eE21, eE22, eE23, eE24, eE25, eE26, eE27, eT1, eT2, eT3, eT4, eT5, eT6, eT7, eT8, eT9, eT10, eT11, eT12, eT13, eL1, eL2, eL3, eC1, eC2, eC3, eA1, eA2, eA3, eO1, eO2, eO3, eAV1, eAV2, eAV3, eOV1, eOV2, eOV3, out_ok, out_exc, thn_nx, thn_ret, thn_exc, thn_brk, thn_cnt, thn_ite, ok_bindN, exc_bindN, bad_bindN, pure_okN, getE0, getEs, putE, noBrw, am, noBrwM, bo, rt, mp, binD, cmpD, cmpI, addI, subI, negI, eqD_int, truthD, notR, absI, lenL, List.map_cons, List.map_nil, List.length_cons, List.length_nil, List.replicate, List.cons_append, List.nil_append, List.set, decide_true, decide_false, Bool.not_true, Bool.not_false, if_true, if_false, Bool.true_and, Bool.and_true, reduceIte, Bool.false_eq_true, decide_eq_true_eq, Nat.reduceSub, Nat.reduceAdd, Nat.reduceLT, Nat.zero_add, mp_lay, i1]
theorem st9c : evS T9 b9s2 [some (.lst .kon (ns.map Pv.D.int)), some (layD z s m c), some (.int c), none, none, none, none, none, none, none, none, none, none] = evS T9 b9s3 [some (.lst .kon (ns.map Pv.D.int)), some (layD z s m c), some (.int c), some (.int s), none, none, none, none, none, none, none, none, none] := by
  have i2 : ixD (layD z s m c) (.int 2) = .ok (.int s) := rfl
  simp only [b9s2, bodyD_eq, res_nx, res_ret, res_exc, res_ite, eS1, eS2, eS3, eS4, eS5, eS6, eS7, eS8, eS9, eS10, eS11, eS12, eS13, eS14, eS15, eS16, eS17, eS18, eS19, eE1, eE2, eE3, eE4, eE5, eE6, eE7, eE8, eE9, eE10, eE11, eE12, eE13, eE14, eE15, eE16, eE17, eE18, eE19, eE20, eE21, eE22, eE23, eE24, eE25, eE26, eE27, eT1, eT2, eT3, eT4, eT5, eT6, eT7, eT8, eT9, eT10, eT11, eT12, eT13, eL1, eL2, eL3, eC1, eC2, eC3, eA1, eA2, eA3, eO1, eO2, eO3, eAV1, eAV2, eAV3, eOV1, eOV2, eOV3, out_ok, out_exc, thn_nx, thn_ret, thn_exc, thn_brk, thn_cnt, thn_ite, ok_bindN, exc_bindN, bad_bindN, pure_okN, getE0, getEs, putE, noBrw, am, noBrwM, bo, rt, mp, binD, cmpD, cmpI, addI, subI, negI, eqD_int, truthD, notR, absI, lenL, List.map_cons, List.map_nil, List.length_cons, List.length_nil, List.replicate, List.cons_append, List.nil_append, List.set, decide_true, decide_false, Bool.not_true, Bool.not_false, if_true, if_false, Bool.true_and, Bool.and_true, reduceIte, Bool.false_eq_true, decide_eq_true_eq, Nat.reduceSub, Nat.reduceAdd, Nat.reduceLT, Nat.zero_add, mp_lay, i2]
theorem st9d : evS T9 b9s3 [some (.lst .kon (ns.map Pv.D.int)), some (layD z s m c), some (.int c), some (.int s), none, none, none, none, none, none, none, none, none] = evS T9 b9s5 [some (.lst .kon (ns.map Pv.D.int)), some (layD z s m c), some (.int c), some (.int s), some (.int (s + m)), some (.int (s + m - s + 1)), none, none, none, none, none, none, none] := by
  have i3 : ixD (layD z s m c) (.int 3) = .ok (.int (s + m)) := rfl
  simp only [b9s3, b9s4, bodyD_eq, res_nx, res_ret, res_exc, res_ite, eS1, eS2, eS3, eS4, eS5, eS6, eS7, eS8, eS9, eS10, eS11, eS12, eS13, eS14, eS15, eS16, eS17, eS18, eS19, eE1, eE2, eE3, eE4, eE5, eE6, eE7, eE8, eE9, eE10, eE11, eE12, eE13, eE14, eE15, eE16, eE17, eE18, eE19, eE20, eE21, eE22, eE23, eE24, eE25, eE26, eE27, eT1, eT2, eT3, eT4, eT5, eT6, eT7, eT8, eT9, eT10, eT11, eT12, eT13, eL1, eL2, eL3, eC1, eC2, eC3, eA1, eA2, eA3, eO1, eO2, eO3, eAV1, eAV2, eAV3, eOV1, eOV2, eOV3, out_ok, out_exc, thn_nx, thn_ret, thn_exc, thn_brk, thn_cnt, thn_ite, ok_bindN, exc_bindN, bad_bindN, pure_okN, getE0, getEs, putE, noBrw, am, noBrwM, bo, rt, mp, binD, cmpD, cmpI, addI, subI, negI, eqD_int, truthD, notR, absI, lenL, List.map_cons, List.map_nil, List.length_cons, List.length_nil, List.replicate, List.cons_append, List.nil_append, List.set, decide_true, decide_false, Bool.not_true, Bool.not_false, if_true, if_false, Bool.true_and, Bool.and_true, reduceIte, Bool.false_eq_true, decide_eq_true_eq, Nat.reduceSub, Nat.reduceAdd, Nat.reduceLT, Nat.zero_add, mp_lay, i3]
theorem st9 (h3 : callD f3 [.lst .kon (ns.map Pv.D.int)] = .ok (layD z s m c)) : f9.m [.lst .kon (ns.map Pv.D.int)] = (evS T9 b9s5 [some (.lst .kon (ns.map Pv.D.int)), some (layD z s m c), some (.int c), some (.int s), some (.int (s + m)), some (.int (s + m - s + 1)), none, none, none, none, none, none, none]).res := by
  rw [st9a ns z s m c h3, st9b, st9c, st9d]
theorem lc9 (hm : 1 ≤ m) (hl : ns.length ≤ 63) : ∃ cl : List Int, cl.length ≤ 63 ∧ (∀ x ∈ cl, s ≤ x ∧ x ≤ s + m) ∧ evE T9 (.lc 7 (.sl (.var 0) (.cons (.int 4) .nil) (.cons (.int 63) .nil)) .nil (.bin .Add (.var 3) (.bin .Mod (.var 7) (.var 5)))) [some (.lst .kon (ns.map Pv.D.int)), some (layD z s m c), some (.int c), some (.int s), some (.int (s + m)), some (.int (s + m - s + 1)), none, none, none, none, none, none, none] = .ok (.lst .own (cl.map Pv.D.int)) := by
  refine ⟨(cutI ns (some 4) (some 63)).map fun n => s + n % (s + m - s + 1), ?_, ?_, ?_⟩
  · rw [List.length_map]
    exact Nat.le_trans (cutI_len _ _ _) hl
  · intro x hx
    obtain ⟨n, _, rfl⟩ := List.mem_map.mp hx
    have h1 := Int.emod_nonneg n (show s + m - s + 1 ≠ 0 by omega)
    have h2 := Int.emod_lt_of_pos n (show 0 < s + m - s + 1 by omega)
    omega
  · refine lc_ints (m := .own) (fun n => s + n % (s + m - s + 1)) ?_ (fun n _ => ?_) (Nat.le_trans (cutI_len _ _ _) (by omega)) rfl
    · simp only [bodyD_eq, res_nx, res_ret, res_exc, res_ite, eS1, eS2, eS3, eS4, eS5, eS6, eS7, eS8, eS9, eS10, eS11, eS12, eS13, eS14, eS15, eS16, eS17, eS18, eS19, eE1, eE2, eE3, eE4, eE5, eE6, eE7, eE8, eE9, eE10, eE11, eE12, eE13, eE14, eE15, eE16, eE17, eE18, eE19, eE20, eE21, eE22, eE23, eE24, eE25, eE26, eE27, eT1, eT2, eT3, eT4, eT5, eT6, eT7, eT8, eT9, eT10, eT11, eT12, eT13, eL1, eL2, eL3, eC1, eC2, eC3, eA1, eA2, eA3, eO1, eO2, eO3, eAV1, eAV2, eAV3, eOV1, eOV2, eOV3, out_ok, out_exc, thn_nx, thn_ret, thn_exc, thn_brk, thn_cnt, thn_ite, ok_bindN, exc_bindN, bad_bindN, pure_okN, getE0, getEs, putE, noBrw, am, noBrwM, bo, rt, mp, binD, cmpD, cmpI, addI, subI, negI, eqD_int, truthD, notR, absI, lenL, List.map_cons, List.map_nil, List.length_cons, List.length_nil, List.replicate, List.cons_append, List.nil_append, List.set, decide_true, decide_false, Bool.not_true, Bool.not_false, if_true, if_false, Bool.true_and, Bool.and_true, reduceIte, Bool.false_eq_true, decide_eq_true_eq, Nat.reduceSub, Nat.reduceAdd, Nat.reduceLT, Nat.zero_add, oneOpt, mpL_ints, boM, slI]
    · have q : modD (.int n) (.int (s + m - s + 1)) = .ok (.int (n % (s + m - s + 1))) := modI (by omega)
      simp only [bodyD_eq, res_nx, res_ret, res_exc, res_ite, eS1, eS2, eS3, eS4, eS5, eS6, eS7, eS8, eS9, eS10, eS11, eS12, eS13, eS14, eS15, eS16, eS17, eS18, eS19, eE1, eE2, eE3, eE4, eE5, eE6, eE7, eE8, eE9, eE10, eE11, eE12, eE13, eE14, eE15, eE16, eE17, eE18, eE19, eE20, eE21, eE22, eE23, eE24, eE25, eE26, eE27, eT1, eT2, eT3, eT4, eT5, eT6, eT7, eT8, eT9, eT10, eT11, eT12, eT13, eL1, eL2, eL3, eC1, eC2, eC3, eA1, eA2, eA3, eO1, eO2, eO3, eAV1, eAV2, eAV3, eOV1, eOV2, eOV3, out_ok, out_exc, thn_nx, thn_ret, thn_exc, thn_brk, thn_cnt, thn_ite, ok_bindN, exc_bindN, bad_bindN, pure_okN, getE0, getEs, putE, noBrw, am, noBrwM, bo, rt, mp, binD, cmpD, cmpI, addI, subI, negI, eqD_int, truthD, notR, absI, lenL, List.map_cons, List.map_nil, List.length_cons, List.length_nil, List.replicate, List.cons_append, List.nil_append, List.set, decide_true, decide_false, Bool.not_true, Bool.not_false, if_true, if_false, Bool.true_and, Bool.and_true, reduceIte, Bool.false_eq_true, decide_eq_true_eq, Nat.reduceSub, Nat.reduceAdd, Nat.reduceLT, Nat.zero_add, q]
theorem so9 (cl : List Int) (h : cl.length ≤ 63) (a0 a1 a2 a5 : Option Pv.D) : evE T9 (.blt .sorted (.cons (.bin .Add (.var 6) (.lst (.cons (.var 3) (.cons (.var 4) .nil)))) .nil)) [a0, a1, a2, some (.int s), some (.int (s + m)), a5, some (.lst .own (cl.map Pv.D.int)), none, none, none, none, none, none] = .ok (.lst .own ((sortInt (cl ++ [s, s + m])).map Pv.D.int)) := by
  have ad := addM cl [s, s + m] (by simp; omega)
  have so := sortedL .own (cl ++ [s, s + m])
  simp only [bodyD_eq, res_nx, res_ret, res_exc, res_ite, eS1, eS2, eS3, eS4, eS5, eS6, eS7, eS8, eS9, eS10, eS11, eS12, eS13, eS14, eS15, eS16, eS17, eS18, eS19, eE1, eE2, eE3, eE4, eE5, eE6, eE7, eE8, eE9, eE10, eE11, eE12, eE13, eE14, eE15, eE16, eE17, eE18, eE19, eE20, eE21, eE22, eE23, eE24, eE25, eE26, eE27, eT1, eT2, eT3, eT4, eT5, eT6, eT7, eT8, eT9, eT10, eT11, eT12, eT13, eL1, eL2, eL3, eC1, eC2, eC3, eA1, eA2, eA3, eO1, eO2, eO3, eAV1, eAV2, eAV3, eOV1, eOV2, eOV3, out_ok, out_exc, thn_nx, thn_ret, thn_exc, thn_brk, thn_cnt, thn_ite, ok_bindN, exc_bindN, bad_bindN, pure_okN, getE0, getEs, putE, noBrw, am, noBrwM, bo, rt, mp, binD, cmpD, cmpI, addI, subI, negI, eqD_int, truthD, notR, absI, lenL, List.map_cons, List.map_nil, List.length_cons, List.length_nil, List.replicate, List.cons_append, List.nil_append, List.set, decide_true, decide_false, Bool.not_true, Bool.not_false, if_true, if_false, Bool.true_and, Bool.and_true, reduceIte, Bool.false_eq_true, decide_eq_true_eq, Nat.reduceSub, Nat.reduceAdd, Nat.reduceLT, Nat.zero_add, mpL_ints, mpL, boM, fzM, lo2]
  rw [show [Pv.D.int s, Pv.D.int (s + m)] = [s, s + m].map Pv.D.int from rfl, ad, ok_bind, ok_bind, so]
theorem mid9 (l : Lay s m c) (y : Int) (cs : List Int) (row : Row s (s + m) cs) (n : Nat) (hn : n + 1 = cs.length) (hn2 : n ≤ 100) : (evS T9 b9s7 [some (.lst .kon (ns.map Pv.D.int)), some (layD z s m c), some (.int c), some (.int s), some (.int (s + m)), some (.int y), some (.lst .own (cs.map Pv.D.int)), none, none, none, none, none, none]).res = .ok (.bl true) := by
  have m0 := l.m0
  obtain ⟨env', q1, o9, rfl⟩ := loop9 (some (.lst .kon (ns.map Pv.D.int))) z s m c y l cs row none n hn _ ⟨none, rfl⟩
  have x0 : X c s m cs 0 = 0 := by
    unfold X portS
    rw [row.first]
    simp
  have xn : X c s m cs n = c := by
    unfold X portS
    rw [show n = cs.length - 1 by omega, row.last, show s + m - s = m by omega, Int.mul_ediv_cancel _ (by omega)]
    simp
  rw [x0, xn] at q1
  have e9 := end9 ns z s m c y l (some (.lst .own (cs.map Pv.D.int))) none (some (.int c)) o9
  have fr := forR_eq T9 9 (.bin .Sub (.blt .len (.cons (.var 6) .nil)) (.int 1)) b9w0 [some (.lst .kon (ns.map Pv.D.int)), some (layD z s m c), some (.int c), some (.int s), some (.int (s + m)), some (.int y), some (.lst .own (cs.map Pv.D.int)), none, some (.int 0), none, none, none, none] (n : Int) (by
    simp only [bodyD_eq, res_nx, res_ret, res_exc, res_ite, eS1, eS2, eS3, eS4, eS5, eS6, eS7, eS8, eS9, eS10, eS11, eS12, eS13, eS14, eS15, eS16, eS17, eS18, eS19, eE1, eE2, eE3, eE4, eE5, eE6, eE7, eE8, eE9, eE10, eE11, eE12, eE13, eE14, eE15, eE16, eE17, eE18, eE19, eE20, eE21, eE22, eE23, eE24, eE25, eE26, eE27, eT1, eT2, eT3, eT4, eT5, eT6, eT7, eT8, eT9, eT10, eT11, eT12, eT13, eL1, eL2, eL3, eC1, eC2, eC3, eA1, eA2, eA3, eO1, eO2, eO3, eAV1, eAV2, eAV3, eOV1, eOV2, eOV3, out_ok, out_exc, thn_nx, thn_ret, thn_exc, thn_brk, thn_cnt, thn_ite, ok_bindN, exc_bindN, bad_bindN, pure_okN, getE0, getEs, putE, noBrw, am, noBrwM, bo, rt, mp, binD, cmpD, cmpI, addI, subI, negI, eqD_int, truthD, notR, absI, lenL, List.map_cons, List.map_nil, List.length_cons, List.length_nil, List.replicate, List.cons_append, List.nil_append, List.set, decide_true, decide_false, Bool.not_true, Bool.not_false, if_true, if_false, Bool.true_and, Bool.and_true, reduceIte, Bool.false_eq_true, decide_eq_true_eq, Nat.reduceSub, Nat.reduceAdd, Nat.reduceLT, Nat.zero_add, mpL_ints, boM, List.length_map]
    congr 2
    omega) (by omega)
  rw [q1] at fr
  simp only [b9s7, bodyD_eq, res_nx, res_ret, res_exc, res_ite, eS1, eS2, eS3, eS4, eS5, eS6, eS7, eS8, eS9, eS10, eS11, eS12, eS13, eS14, eS15, eS16, eS17, eS18, eS19, eE1, eE2, eE3, eE4, eE5, eE6, eE7, eE8, eE9, eE10, eE11, eE12, eE13, eE14, eE15, eE16, eE17, eE18, eE19, eE20, eE21, eE22, eE23, eE24, eE25, eE26, eE27, eT1, eT2, eT3, eT4, eT5, eT6, eT7, eT8, eT9, eT10, eT11, eT12, eT13, eL1, eL2, eL3, eC1, eC2, eC3, eA1, eA2, eA3, eO1, eO2, eO3, eAV1, eAV2, eAV3, eOV1, eOV2, eOV3, out_ok, out_exc, thn_nx, thn_ret, thn_exc, thn_brk, thn_cnt, thn_ite, ok_bindN, exc_bindN, bad_bindN, pure_okN, getE0, getEs, putE, noBrw, am, noBrwM, bo, rt, mp, binD, cmpD, cmpI, addI, subI, negI, eqD_int, truthD, notR, absI, lenL, List.map_cons, List.map_nil, List.length_cons, List.length_nil, List.replicate, List.cons_append, List.nil_append, List.set, decide_true, decide_false, Bool.not_true, Bool.not_false, if_true, if_false, Bool.true_and, Bool.and_true, reduceIte, Bool.false_eq_true, decide_eq_true_eq, Nat.reduceSub, Nat.reduceAdd, Nat.reduceLT, Nat.zero_add]
  rw [b9s8, evS, fr, thn_nx]
  simp only [b9s9, bodyD_eq, res_nx, res_ret, res_exc, res_ite, eS1, eS2, eS3, eS4, eS5, eS6, eS7, eS8, eS9, eS10, eS11, eS12, eS13, eS14, eS15, eS16, eS17, eS18, eS19, eE1, eE2, eE3, eE4, eE5, eE6, eE7, eE8, eE9, eE10, eE11, eE12, eE13, eE14, eE15, eE16, eE17, eE18, eE19, eE20, eE21, eE22, eE23, eE24, eE25, eE26, eE27, eT1, eT2, eT3, eT4, eT5, eT6, eT7, eT8, eT9, eT10, eT11, eT12, eT13, eL1, eL2, eL3, eC1, eC2, eC3, eA1, eA2, eA3, eO1, eO2, eO3, eAV1, eAV2, eAV3, eOV1, eOV2, eOV3, out_ok, out_exc, thn_nx, thn_ret, thn_exc, thn_brk, thn_cnt, thn_ite, ok_bindN, exc_bindN, bad_bindN, pure_okN, getE0, getEs, putE, noBrw, am, noBrwM, bo, rt, mp, binD, cmpD, cmpI, addI, subI, negI, eqD_int, truthD, notR, absI, lenL, List.map_cons, List.map_nil, List.length_cons, List.length_nil, List.replicate, List.cons_append, List.nil_append, List.set, decide_true, decide_false, Bool.not_true, Bool.not_false, if_true, if_false, Bool.true_and, Bool.and_true, reduceIte, Bool.false_eq_true, decide_eq_true_eq, Nat.reduceSub, Nat.reduceAdd, Nat.reduceLT, Nat.zero_add]
  exact e9
end
theorem law_plain : ∀ ns : List Int, ns.length ≤ 63 → (∀ z ∈ ns, Builtin.Int.intBits z ≤ 1048576) → f9.m [.lst .kon (ns.map Pv.D.int)] = .ok (.bl true) := by
  intro ns hl _
  obtain ⟨z, s, m, c, h3, l⟩ := cl3 ns
  obtain ⟨cl, ll, lb, lc1⟩ := lc9 ns z s m c l.m0 hl
  have m0 := l.m0
  have row := row_of s (s + m) (cl ++ [s, s + m]) (fun x hx => by
    rcases List.mem_append.mp hx with hx | hx
    · exact lb x hx
    · simp at hx
      omega) (by simp) (by simp)
  have len : (sortInt (cl ++ [s, s + m])).length = cl.length + 2 := by
    unfold sortInt
    rw [List.length_mergeSort]
    simp
  have so := so9 s m cl ll
  generalize sortInt (cl ++ [s, s + m]) = cs at *
  have mi := mid9 ns z s m c l (s + m - s + 1) cs row (cl.length + 1) (by omega) (by omega)
  rw [st9 ns z s m c h3, b9s5, evS, evS, lc1, out_ok]
  simp only [putE, noBrw, am, noBrwM, amL_ints, bodyD_eq, res_nx, res_ret, res_exc, res_ite, eS1, eS2, eS3, eS4, eS5, eS6, eS7, eS8, eS9, eS10, eS11, eS12, eS13, eS14, eS15, eS16, eS17, eS18, eS19, eE1, eE2, eE3, eE4, eE5, eE6, eE7, eE8, eE9, eE10, eE11, eE12, eE13, eE14, eE15, eE16, eE17, eE18, eE19, eE20, eE21, eE22, eE23, eE24, eE25, eE26, eE27, eT1, eT2, eT3, eT4, eT5, eT6, eT7, eT8, eT9, eT10, eT11, eT12, eT13, eL1, eL2, eL3, eC1, eC2, eC3, eA1, eA2, eA3, eO1, eO2, eO3, eAV1, eAV2, eAV3, eOV1, eOV2, eOV3, out_ok, out_exc, thn_nx, thn_ret, thn_exc, thn_brk, thn_cnt, thn_ite, ok_bindN, exc_bindN, bad_bindN, pure_okN, getE0, getEs, putE, noBrw, am, noBrwM, bo, rt, mp, binD, cmpD, cmpI, addI, subI, negI, eqD_int, truthD, notR, absI, lenL, List.map_cons, List.map_nil, List.length_cons, List.length_nil, List.replicate, List.cons_append, List.nil_append, List.set, decide_true, decide_false, Bool.not_true, Bool.not_false, if_true, if_false, Bool.true_and, Bool.and_true, reduceIte, Bool.false_eq_true, decide_eq_true_eq, Nat.reduceSub, Nat.reduceAdd, Nat.reduceLT, Nat.zero_add]
  rw [b9s6, evS, evS, so, out_ok]
  simp only [putE, noBrw, am, noBrwM, amL_ints, bodyD_eq, res_nx, res_ret, res_exc, res_ite, eS1, eS2, eS3, eS4, eS5, eS6, eS7, eS8, eS9, eS10, eS11, eS12, eS13, eS14, eS15, eS16, eS17, eS18, eS19, eE1, eE2, eE3, eE4, eE5, eE6, eE7, eE8, eE9, eE10, eE11, eE12, eE13, eE14, eE15, eE16, eE17, eE18, eE19, eE20, eE21, eE22, eE23, eE24, eE25, eE26, eE27, eT1, eT2, eT3, eT4, eT5, eT6, eT7, eT8, eT9, eT10, eT11, eT12, eT13, eL1, eL2, eL3, eC1, eC2, eC3, eA1, eA2, eA3, eO1, eO2, eO3, eAV1, eAV2, eAV3, eOV1, eOV2, eOV3, out_ok, out_exc, thn_nx, thn_ret, thn_exc, thn_brk, thn_cnt, thn_ite, ok_bindN, exc_bindN, bad_bindN, pure_okN, getE0, getEs, putE, noBrw, am, noBrwM, bo, rt, mp, binD, cmpD, cmpI, addI, subI, negI, eqD_int, truthD, notR, absI, lenL, List.map_cons, List.map_nil, List.length_cons, List.length_nil, List.replicate, List.cons_append, List.nil_append, List.set, decide_true, decide_false, Bool.not_true, Bool.not_false, if_true, if_false, Bool.true_and, Bool.and_true, reduceIte, Bool.false_eq_true, decide_eq_true_eq, Nat.reduceSub, Nat.reduceAdd, Nat.reduceLT, Nat.zero_add]
  exact mi
theorem all_mk (law : ∀ ns : List Int, ns.length ≤ 63 → (∀ z ∈ ns, Builtin.Int.intBits z ≤ 1048576) → f9.m [.lst .kon (ns.map Pv.D.int)] = .ok (.bl true)) {P : Program} {w : World} {K : PySem.W.Frag} {h : Heap} {mg : Str → Option Value} {fa : Addr} (X : K.In h) (G : h.Ns mainGlobals mg) (hfa : mg "law" = some (.ref fa))
    {a0_ : Addr} {oc0 kV0 dc0 pm0 cd0 ct0 : Value} {od0 an0 : Option Addr} {sl0 : Array (Option Value)}
    {a1_ : Addr} {oc1 kV1 dc1 pm1 cd1 ct1 : Value} {od1 an1 : Option Addr} {sl1 : Array (Option Value)}
    {a2_ : Addr} {oc2 kV2 dc2 pm2 cd2 ct2 : Value} {od2 an2 : Option Addr} {sl2 : Array (Option Value)}
    {a3_ : Addr} {oc3 kV3 dc3 pm3 cd3 ct3 : Value} {od3 an3 : Option Addr} {sl3 : Array (Option Value)}
    {a4_ : Addr} {oc4 kV4 dc4 pm4 cd4 ct4 : Value} {od4 an4 : Option Addr} {sl4 : Array (Option Value)}
    {a5_ : Addr} {oc5 kV5 dc5 pm5 cd5 ct5 : Value} {od5 an5 : Option Addr} {sl5 : Array (Option Value)}
    {a6_ : Addr} {oc6 kV6 dc6 pm6 cd6 ct6 : Value} {od6 an6 : Option Addr} {sl6 : Array (Option Value)}
    {a7_ : Addr} {oc7 kV7 dc7 pm7 cd7 ct7 : Value} {od7 an7 : Option Addr} {sl7 : Array (Option Value)}
    {a8_ : Addr} {oc8 kV8 dc8 pm8 cd8 ct8 : Value} {od8 an8 : Option Addr} {sl8 : Array (Option Value)}
    {a9_ : Addr} {oc9 kV9 dc9 pm9 cd9 ct9 : Value} {od9 an9 : Option Addr} {sl9 : Array (Option Value)}
    {C0 : Addr}
    {C1 : Addr}
    {C2 : Addr}
    {C3 : Addr}
    {C4 : Addr}
    (a0 : PySem.W.nsIn K mainGlobals "_law_cell" = some (some (.ref a0_)))
    (l0 : K.lookup a0_ = some ⟨oc0, od0, .func (PySem.W.fnOf "_law_cell" "_law_cell" (defArgs (top 11)) (defBody (top 11)) (defScope (top 11)) .none kV0 dc0 pm0 an0 cd0 ct0), sl0⟩)
    (c0_ : PySem.W.codeIn K cd0 "_law_cell" = true)
    (k0_ : PySem.W.keepIn K (.ref a0_) = true)
    (a1 : PySem.W.nsIn K mainGlobals "_law_draw" = some (some (.ref a1_)))
    (l1 : K.lookup a1_ = some ⟨oc1, od1, .func (PySem.W.fnOf "_law_draw" "_law_draw" (defArgs (top 12)) (defBody (top 12)) (defScope (top 12)) .none kV1 dc1 pm1 an1 cd1 ct1), sl1⟩)
    (c1_ : PySem.W.codeIn K cd1 "_law_draw" = true)
    (k1_ : PySem.W.keepIn K (.ref a1_) = true)
    (a2 : PySem.W.nsIn K mainGlobals "_law_names" = some (some (.ref a2_)))
    (l2 : K.lookup a2_ = some ⟨oc2, od2, .func (PySem.W.fnOf "_law_names" "_law_names" (defArgs (top 13)) (defBody (top 13)) (defScope (top 13)) .none kV2 dc2 pm2 an2 cd2 ct2), sl2⟩)
    (c2_ : PySem.W.codeIn K cd2 "_law_names" = true)
    (k2_ : PySem.W.keepIn K (.ref a2_) = true)
    (a3 : PySem.W.nsIn K mainGlobals "_law_layer" = some (some (.ref a3_)))
    (l3 : K.lookup a3_ = some ⟨oc3, od3, .func (PySem.W.fnOf "_law_layer" "_law_layer" (defArgs (top 15)) (defBody (top 15)) (defScope (top 15)) .none kV3 dc3 pm3 an3 cd3 ct3), sl3⟩)
    (c3_ : PySem.W.codeIn K cd3 "_law_layer" = true)
    (k3_ : PySem.W.keepIn K (.ref a3_) = true)
    (a4 : PySem.W.nsIn K mainGlobals "portion" = some (some (.ref a4_)))
    (l4 : K.lookup a4_ = some ⟨oc4, od4, .func (PySem.W.fnOf "portion" "portion" (defArgs (top 7)) (defBody (top 7)) (defScope (top 7)) .none kV4 dc4 pm4 an4 cd4 ct4), sl4⟩)
    (c4_ : PySem.W.codeIn K cd4 "portion" = true)
    (k4_ : PySem.W.keepIn K (.ref a4_) = true)
    (a5 : PySem.W.nsIn K mainGlobals "layer_cost" = some (some (.ref a5_)))
    (l5 : K.lookup a5_ = some ⟨oc5, od5, .func (PySem.W.fnOf "layer_cost" "layer_cost" (defArgs (top 9)) (defBody (top 9)) (defScope (top 9)) .none kV5 dc5 pm5 an5 cd5 ct5), sl5⟩)
    (c5_ : PySem.W.codeIn K cd5 "layer_cost" = true)
    (k5_ : PySem.W.keepIn K (.ref a5_) = true)
    (a6 : PySem.W.nsIn K mainGlobals "_law_whole" = some (some (.ref a6_)))
    (l6 : K.lookup a6_ = some ⟨oc6, od6, .func (PySem.W.fnOf "_law_whole" "_law_whole" (defArgs (top 14)) (defBody (top 14)) (defScope (top 14)) .none kV6 dc6 pm6 an6 cd6 ct6), sl6⟩)
    (c6_ : PySem.W.codeIn K cd6 "_law_whole" = true)
    (k6_ : PySem.W.keepIn K (.ref a6_) = true)
    (a7 : PySem.W.nsIn K mainGlobals "_law_fits" = some (some (.ref a7_)))
    (l7 : K.lookup a7_ = some ⟨oc7, od7, .func (PySem.W.fnOf "_law_fits" "_law_fits" (defArgs (top 16)) (defBody (top 16)) (defScope (top 16)) .none kV7 dc7 pm7 an7 cd7 ct7), sl7⟩)
    (c7_ : PySem.W.codeIn K cd7 "_law_fits" = true)
    (k7_ : PySem.W.keepIn K (.ref a7_) = true)
    (a8 : PySem.W.nsIn K mainGlobals "_law_refused" = some (some (.ref a8_)))
    (l8 : K.lookup a8_ = some ⟨oc8, od8, .func (PySem.W.fnOf "_law_refused" "_law_refused" (defArgs (top 17)) (defBody (top 17)) (defScope (top 17)) .none kV8 dc8 pm8 an8 cd8 ct8), sl8⟩)
    (c8_ : PySem.W.codeIn K cd8 "_law_refused" = true)
    (k8_ : PySem.W.keepIn K (.ref a8_) = true)
    (a9 : PySem.W.nsIn K mainGlobals "law" = some (some (.ref a9_)))
    (l9 : K.lookup a9_ = some ⟨oc9, od9, .func (PySem.W.fnOf "law" "law" (defArgs (top 18)) (defBody (top 18)) (defScope (top 18)) .none kV9 dc9 pm9 an9 cd9 ct9), sl9⟩)
    (c9_ : PySem.W.codeIn K cd9 "law" = true)
    (k9_ : PySem.W.keepIn K (.ref a9_) = true)
    (m0 : PySem.W.nsIn K mainGlobals "NoNumber" = some (some (.ref C0)))
    (s0 : PySem.W.subIn K (.ref C0) (.type "BaseException") = some true)
    (v0 : PySem.W.typeIn K (.ref C0) = some (.type "type"))
    (w0 : PySem.W.hasDictIn K C0 = true)
    (y0 : PySem.W.keepIn K (.ref C0) = true)
    (g0 : PySem.W.findIn K (.ref C0) "__getattribute__" = some (some (.builtin "BaseException.__getattribute__")))
    (q0 : PySem.W.findIn K (.ref C0) "__getattr__" = some none)
    (ve0 : PySem.W.subIn K (.ref C0) (.type "ValueError") = some true)
    (x0 : PySem.W.findIn K (.ref C0) "__class__" = some (some (.builtin "object.__class__")))
    (r0 : PySem.W.mroIn K C0 (.type "object") = some true)
    (e0 : PySem.W.excIn K C0 veT "ValueError.__new__" = true)
    (p0_0 : PySem.W.subIn K (.ref C0) (.ref C0) = some true)
    (p0_1 : PySem.W.subIn K (.ref C0) (.ref C1) = some false)
    (o0_1 : (C0 == C1) = false)
    (p0_2 : PySem.W.subIn K (.ref C0) (.ref C2) = some false)
    (o0_2 : (C0 == C2) = false)
    (p0_3 : PySem.W.subIn K (.ref C0) (.ref C3) = some false)
    (o0_3 : (C0 == C3) = false)
    (p0_4 : PySem.W.subIn K (.ref C0) (.ref C4) = some true)
    (m1 : PySem.W.nsIn K mainGlobals "BadAmount" = some (some (.ref C1)))
    (s1 : PySem.W.subIn K (.ref C1) (.type "BaseException") = some true)
    (v1 : PySem.W.typeIn K (.ref C1) = some (.type "type"))
    (w1 : PySem.W.hasDictIn K C1 = true)
    (m2 : PySem.W.nsIn K mainGlobals "TooFew" = some (some (.ref C2)))
    (s2 : PySem.W.subIn K (.ref C2) (.type "BaseException") = some true)
    (v2 : PySem.W.typeIn K (.ref C2) = some (.type "type"))
    (w2 : PySem.W.hasDictIn K C2 = true)
    (m3 : PySem.W.nsIn K mainGlobals "NoGoods" = some (some (.ref C3)))
    (s3 : PySem.W.subIn K (.ref C3) (.type "BaseException") = some true)
    (v3 : PySem.W.typeIn K (.ref C3) = some (.type "type"))
    (w3 : PySem.W.hasDictIn K C3 = true)
    (m4 : PySem.W.nsIn K mainGlobals "BooksError" = some (some (.ref C4)))
    (s4 : PySem.W.subIn K (.ref C4) (.type "BaseException") = some true)
    (v4 : PySem.W.typeIn K (.ref C4) = some (.type "type"))
    (w4 : PySem.W.hasDictIn K C4 = true)
    (hn : PySem.W.specialIn K (.builtin "object.__class__") "__get__" = some (some (.builtin "getset_descriptor.__get__")))
    (ht : PySem.W.takesIn K (.builtin "object.__class__") = some true)
    (z_len : PySem.W.nsIn K mainGlobals "len" = some none)
    (z_abs : PySem.W.nsIn K mainGlobals "abs" = some none)
    (z_sum : PySem.W.nsIn K mainGlobals "sum" = some none)
    (z_sorted : PySem.W.nsIn K mainGlobals "sorted" = some none)
    (z_list : PySem.W.nsIn K mainGlobals "list" = some none)
    (z_int : PySem.W.nsIn K mainGlobals "int" = some none)
    (z_str : PySem.W.nsIn K mainGlobals "str" = some none)
    (z_max : PySem.W.nsIn K mainGlobals "max" = some none)
    (z_min : PySem.W.nsIn K mainGlobals "min" = some none)
    (z_isinstance : PySem.W.nsIn K mainGlobals "isinstance" = some none)
    (z_range : PySem.W.nsIn K mainGlobals "range" = some none)
    (z_bool : PySem.W.nsIn K mainGlobals "bool" = some none)
    (z_tuple : PySem.W.nsIn K mainGlobals "tuple" = some none)
    (z_dict : PySem.W.nsIn K mainGlobals "dict" = some none)
    (z_ValueError : PySem.W.nsIn K mainGlobals "ValueError" = some none)
    : ∃ fd : FuncData, (∀ (s : Shared) (v : Value), BindsTo s fd ⟨[v], []⟩ [("_law_script", v)]) ∧ ∀ base : Heap, K.In base → base.Ns mainGlobals mg → FnOk P w K mg base (L2N.CX P w) 4 fa fd ["_law_script"] (spLawB K) := by
  have e := hfa.symm.trans (PySem.W.mg_of X G a9)
  cases e
  let cl : Nat → Addr := fun n => match n with | 0 => C0 | 1 => C1 | 2 => C2 | 3 => C3 | 4 => C4 | _ => 0
  have W : Wd lw K mg cl :=
    { one := List.forall_mem_cons.mpr ⟨⟨PySem.W.mg_of X G m0, s0, v0, w0⟩, List.forall_mem_cons.mpr ⟨⟨PySem.W.mg_of X G m1, s1, v1, w1⟩, List.forall_mem_cons.mpr ⟨⟨PySem.W.mg_of X G m2, s2, v2, w2⟩, List.forall_mem_cons.mpr ⟨⟨PySem.W.mg_of X G m3, s3, v3, w3⟩, List.forall_mem_cons.mpr ⟨⟨PySem.W.mg_of X G m4, s4, v4, w4⟩, fun _ z => (List.not_mem_nil z).elim⟩⟩⟩⟩⟩
      rd := List.forall_mem_cons.mpr ⟨⟨by decide, y0, ⟨g0, q0, s0, w0, x0, hn, ht, r0⟩, ve0, e0⟩, fun _ z => (List.not_mem_nil z).elim⟩
      pr := List.forall_mem_cons.mpr ⟨List.forall_mem_cons.mpr ⟨p0_0, List.forall_mem_cons.mpr ⟨p0_1, List.forall_mem_cons.mpr ⟨p0_2, List.forall_mem_cons.mpr ⟨p0_3, List.forall_mem_cons.mpr ⟨p0_4, fun _ z => (List.not_mem_nil z).elim⟩⟩⟩⟩⟩, fun _ z => (List.not_mem_nil z).elim⟩
      rf := List.forall_mem_cons.mpr ⟨List.forall_mem_cons.mpr ⟨fun _ => rfl, List.forall_mem_cons.mpr ⟨fun z => absurd z (ne_of_beq_false o0_1), List.forall_mem_cons.mpr ⟨fun z => absurd z (ne_of_beq_false o0_2), List.forall_mem_cons.mpr ⟨fun z => absurd z (ne_of_beq_false o0_3), List.forall_mem_cons.mpr ⟨fun _ => rfl, fun _ z => (List.not_mem_nil z).elim⟩⟩⟩⟩⟩, fun _ z => (List.not_mem_nil z).elim⟩
      blt := List.forall_mem_cons.mpr ⟨PySem.W.mg_none_of X G z_len, List.forall_mem_cons.mpr ⟨PySem.W.mg_none_of X G z_abs, List.forall_mem_cons.mpr ⟨PySem.W.mg_none_of X G z_sum, List.forall_mem_cons.mpr ⟨PySem.W.mg_none_of X G z_sorted, List.forall_mem_cons.mpr ⟨PySem.W.mg_none_of X G z_list, List.forall_mem_cons.mpr ⟨PySem.W.mg_none_of X G z_int, List.forall_mem_cons.mpr ⟨PySem.W.mg_none_of X G z_str, List.forall_mem_cons.mpr ⟨PySem.W.mg_none_of X G z_max, List.forall_mem_cons.mpr ⟨PySem.W.mg_none_of X G z_min, List.forall_mem_cons.mpr ⟨PySem.W.mg_none_of X G z_isinstance, List.forall_mem_cons.mpr ⟨PySem.W.mg_none_of X G z_range, List.forall_mem_cons.mpr ⟨PySem.W.mg_none_of X G z_bool, List.forall_mem_cons.mpr ⟨PySem.W.mg_none_of X G z_tuple, List.forall_mem_cons.mpr ⟨PySem.W.mg_none_of X G z_dict, List.forall_mem_cons.mpr ⟨PySem.W.mg_none_of X G z_ValueError, fun _ z => (List.not_mem_nil z).elim⟩⟩⟩⟩⟩⟩⟩⟩⟩⟩⟩⟩⟩⟩⟩ }
  have F0 := FunD.ofN l0 c0_ k0_
  have B0 : Binds K _ ["_law_script", "_law_k"] [] := F0.bindsN (ps := ["_law_script", "_law_k"]) fun _ _ _ _ _ _ us hl => match us, hl with | [_, _], _ => rfl
  have F1 := FunD.ofN l1 c1_ k1_
  have B1 : Binds K _ ["_law_cell_here", "_law_at"] [] := F1.bindsN (ps := ["_law_cell_here", "_law_at"]) fun _ _ _ _ _ _ us hl => match us, hl with | [_, _], _ => rfl
  have F2 := FunD.ofN l2 c2_ k2_
  have B2 : Binds K _ ["_law_cell_here", "_law_many"] [] := F2.bindsN (ps := ["_law_cell_here", "_law_many"]) fun _ _ _ _ _ _ us hl => match us, hl with | [_, _], _ => rfl
  have F3 := FunD.ofN l3 c3_ k3_
  have B3 : Binds K _ ["_law_script"] [] := F3.bindsN (ps := ["_law_script"]) fun _ _ _ _ _ _ us hl => match us, hl with | [_], _ => rfl
  have F4 := FunD.ofN l4 c4_ k4_
  have B4 : Binds K _ ["amount", "many", "start", "stop"] [] := F4.bindsN (ps := ["amount", "many", "start", "stop"]) fun _ _ _ _ _ _ us hl => match us, hl with | [_, _, _, _], _ => rfl
  have F5 := FunD.ofN l5 c5_ k5_
  have B5 : Binds K _ ["layer", "start", "stop"] [] := F5.bindsN (ps := ["layer", "start", "stop"]) fun _ _ _ _ _ _ us hl => match us, hl with | [_, _, _], _ => rfl
  have F6 := FunD.ofN l6 c6_ k6_
  have B6 : Binds K _ ["_law_found"] [] := F6.bindsN (ps := ["_law_found"]) fun _ _ _ _ _ _ us hl => match us, hl with | [_], _ => rfl
  have F7 := FunD.ofN l7 c7_ k7_
  have B7 : Binds K _ ["_law_layer_here", "_law_begin", "_law_end"] [] := F7.bindsN (ps := ["_law_layer_here", "_law_begin", "_law_end"]) fun _ _ _ _ _ _ us hl => match us, hl with | [_, _, _], _ => rfl
  have F8 := FunD.ofN l8 c8_ k8_
  have B8 : Binds K _ ["_law_layer_here", "_law_begin", "_law_end"] [] := F8.bindsN (ps := ["_law_layer_here", "_law_begin", "_law_end"]) fun _ _ _ _ _ _ us hl => match us, hl with | [_, _, _], _ => rfl
  have F9 := FunD.ofN l9 c9_ k9_
  have B9 : Binds K _ ["_law_script"] [] := F9.bindsN (ps := ["_law_script"]) fun _ _ _ _ _ _ us hl => match us, hl with | [_], _ => rfl
  refine ⟨_, fun s v => F9.bindsA (ps := ["_law_script"]) (fun _ _ _ _ _ _ us hl => match us, hl with | [_], _ => rfl) s [v] rfl, fun base hk hn => ?_⟩
  have H0 := k0 (P := P) (w := w) (base := base) W F0 (PySem.W.mg_of X G a0) (bind0 B0) 
  have H1 := k1 (P := P) (w := w) (base := base) W F1 (PySem.W.mg_of X G a1) (bind0 B1) 
  have H2 := k2 (P := P) (w := w) (base := base) W F2 (PySem.W.mg_of X G a2) (bind0 B2) 
  have H3 := k3 (P := P) (w := w) (base := base) W F3 (PySem.W.mg_of X G a3) (bind0 B3) H0 H1 H2
  have H4 := k4 (P := P) (w := w) (base := base) W F4 (PySem.W.mg_of X G a4) (bind0 B4) 
  have H5 := k5 (P := P) (w := w) (base := base) W F5 (PySem.W.mg_of X G a5) (bind0 B5) H4
  have H6 := k6 (P := P) (w := w) (base := base) W F6 (PySem.W.mg_of X G a6) (bind0 B6) 
  have H7 := k7 (P := P) (w := w) (base := base) W F7 (PySem.W.mg_of X G a7) (bind0 B7) H5 H6
  have H8 := k8 (P := P) (w := w) (base := base) W F8 (PySem.W.mg_of X G a8) (bind0 B8) H5
  exact law_ok (G := gx lw t9 P w K mg base cl) (F := f9) (kL W F9 H0 H3 H5 H7 H8) rfl law
end K51
open PySem PySem.W PyProof.Rows
set_option maxRecDepth 100000 in
set_option maxHeartbeats 0 in
theorem PySem.Challenge.cw_groupbooks_k51_layer_costs_holds : PySem.Challenge.rw_groupbooks_k51_layer_costs.Holds := by
  w_on; o_law; k_head; (case hw => w_witness2)
  k_fill
  refine Pv.walk_k (l := PySem.Challenge.rw_groupbooks_k51_layer_costs) (k := 4) "_law_script" rfl rfl ⟨rfl, by decide, by decide⟩ (fun w h Y => PySem.W.kIn_of Y) ?F
  case F =>
    intro w mg fa h KX G hmg
    refine' K51.all_mk K51.law_plain KX G hmg ?ff_a0 ?ff_l0 ?ff_c0_ ?ff_k0_ ?ff_a1 ?ff_l1 ?ff_c1_ ?ff_k1_ ?ff_a2 ?ff_l2 ?ff_c2_ ?ff_k2_ ?ff_a3 ?ff_l3 ?ff_c3_ ?ff_k3_ ?ff_a4 ?ff_l4 ?ff_c4_ ?ff_k4_ ?ff_a5 ?ff_l5 ?ff_c5_ ?ff_k5_ ?ff_a6 ?ff_l6 ?ff_c6_ ?ff_k6_ ?ff_a7 ?ff_l7 ?ff_c7_ ?ff_k7_ ?ff_a8 ?ff_l8 ?ff_c8_ ?ff_k8_ ?ff_a9 ?ff_l9 ?ff_c9_ ?ff_k9_ ?ff_m0 ?ff_s0 ?ff_v0 ?ff_w0 ?ff_y0 ?ff_g0 ?ff_q0 ?ff_ve0 ?ff_x0 ?ff_r0 ?ff_e0 ?ff_p0_0 ?ff_p0_1 ?ff_o0_1 ?ff_p0_2 ?ff_o0_2 ?ff_p0_3 ?ff_o0_3 ?ff_p0_4 ?ff_m1 ?ff_s1 ?ff_v1 ?ff_w1 ?ff_m2 ?ff_s2 ?ff_v2 ?ff_w2 ?ff_m3 ?ff_s3 ?ff_v3 ?ff_w3 ?ff_m4 ?ff_s4 ?ff_v4 ?ff_w4 ?ff_hn ?ff_ht ?ff_z_len ?ff_z_abs ?ff_z_sum ?ff_z_sorted ?ff_z_list ?ff_z_int ?ff_z_str ?ff_z_max ?ff_z_min ?ff_z_isinstance ?ff_z_range ?ff_z_bool ?ff_z_tuple ?ff_z_dict ?ff_z_ValueError
    (case ff_m0 => k_is)
    (case ff_m1 => k_is)
    (case ff_m2 => k_is)
    (case ff_m3 => k_is)
    (case ff_m4 => k_is)
    (case ff_a0 => k_is)
    (case ff_l0 => k_is)
    (case ff_c0_ => k_is)
    (case ff_k0_ => k_is)
    (case ff_a1 => k_is)
    (case ff_l1 => k_is)
    (case ff_c1_ => k_is)
    (case ff_k1_ => k_is)
    (case ff_a2 => k_is)
    (case ff_l2 => k_is)
    (case ff_c2_ => k_is)
    (case ff_k2_ => k_is)
    (case ff_a3 => k_is)
    (case ff_l3 => k_is)
    (case ff_c3_ => k_is)
    (case ff_k3_ => k_is)
    (case ff_a4 => k_is)
    (case ff_l4 => k_is)
    (case ff_c4_ => k_is)
    (case ff_k4_ => k_is)
    (case ff_a5 => k_is)
    (case ff_l5 => k_is)
    (case ff_c5_ => k_is)
    (case ff_k5_ => k_is)
    (case ff_a6 => k_is)
    (case ff_l6 => k_is)
    (case ff_c6_ => k_is)
    (case ff_k6_ => k_is)
    (case ff_a7 => k_is)
    (case ff_l7 => k_is)
    (case ff_c7_ => k_is)
    (case ff_k7_ => k_is)
    (case ff_a8 => k_is)
    (case ff_l8 => k_is)
    (case ff_c8_ => k_is)
    (case ff_k8_ => k_is)
    (case ff_a9 => k_is)
    (case ff_l9 => k_is)
    (case ff_c9_ => k_is)
    (case ff_k9_ => k_is)
    (case ff_s0 => k_is)
    (case ff_v0 => k_is)
    (case ff_w0 => k_is)
    (case ff_y0 => k_is)
    (case ff_g0 => k_is)
    (case ff_q0 => k_is)
    (case ff_ve0 => k_is)
    (case ff_x0 => k_is)
    (case ff_r0 => k_is)
    (case ff_e0 => k_exc)
    (case ff_p0_0 => first | rfl | k_is)
    (case ff_p0_1 => k_is)
    (case ff_o0_1 => rfl)
    (case ff_p0_2 => k_is)
    (case ff_o0_2 => rfl)
    (case ff_p0_3 => k_is)
    (case ff_o0_3 => rfl)
    (case ff_p0_4 => k_is)
    (case ff_s1 => k_is)
    (case ff_v1 => k_is)
    (case ff_w1 => k_is)
    (case ff_s2 => k_is)
    (case ff_v2 => k_is)
    (case ff_w2 => k_is)
    (case ff_s3 => k_is)
    (case ff_v3 => k_is)
    (case ff_w3 => k_is)
    (case ff_s4 => k_is)
    (case ff_v4 => k_is)
    (case ff_w4 => k_is)
    (case ff_hn => k_is)
    (case ff_ht => k_is)
    (case ff_z_len => k_is)
    (case ff_z_abs => k_is)
    (case ff_z_sum => k_is)
    (case ff_z_sorted => k_is)
    (case ff_z_list => k_is)
    (case ff_z_int => k_is)
    (case ff_z_str => k_is)
    (case ff_z_max => k_is)
    (case ff_z_min => k_is)
    (case ff_z_isinstance => k_is)
    (case ff_z_range => k_is)
    (case ff_z_bool => k_is)
    (case ff_z_tuple => k_is)
    (case ff_z_dict => k_is)
    (case ff_z_ValueError => k_is)
