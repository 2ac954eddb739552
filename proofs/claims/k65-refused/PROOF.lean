import PyProof.Rows.All
import Wide.All
import OpenK.AllK
import Wide.FinOn
import HandS.ForMost
import HandS.Exc
import HandS.ExcOwn
import HandS.WordsExc
import HandS.TryOnly
import HandS.TryMany
import HandS.IsInst
import HandS.Lambda
import HandS.Nested
import HandS.EndTab
import HandS.Star
import HandS.TupMul
import HandS.TupAny
import HandS.Zip
import HandS.Conv
import HandS.SetFor
import HandS.Wide
import HandS.OwnEq
import KE.DataMinMax
import PySem.Challenge.RW_copylots_k65_whole_refused_more
import KE.GoesEnum
import KE.KDictZip
import KE.KLam
set_option Elab.async false
set_option linter.all false
set_option maxRecDepth 900000
set_option maxHeartbeats 0
/-! An abstract state (values, objects by number) and Boolean runs over it; a run that says yes answers a reading of the hand layer. -/
namespace AIx
open PySem L2

/-- an abstract value; refs are places in the abstract heap -/
inductive AV where
  | non | bl (b : Bool) | int (i : Int) | str (n : Nat) | ref (n : Nat) | any
  deriving DecidableEq
/-- an abstract object -/
inductive AO where
  | lst (xs : List AV) | tup (xs : List AV) | ptup (xs : List AV) | ins (c : Nat) (v : Option AV) | draw | lam (j : Nat) | gone
  deriving DecidableEq
abbrev AH := List AO
abbrev AS := List (Option AV)
abbrev KV := AV → AH → Bool
abbrev KX := Nat → AH → Bool
abbrev FM (α : Type) := AS → AH → (α → AH → Bool) → KX → Bool
abbrev FE := FM AV
abbrev FA := FM (List AV)
abbrev FT := FM Bool
abbrev FF := List AV → AH → KV → KX → Bool

/-- the texts that may come up -/
def strT : Nat → Str
  | 0 => "none" | 1 => "rooms" | 2 => "starts" | 3 => "not possible" | 4 => "index" | 5 => "many" | 6 => "servers" | 7 => "capacities" | 8 => "other" | _ => "3"
/-- a lambda's words -/
structure LamD where
  q : Str
  params : Arguments
  body : Expr
  scope : Scope
  cl : List (Str × Addr)
def LamO (f : Addr) (D : LamD) (c : Addr) : HO := .ext fun h => ∃ (pm ctv : Value), h.get? f = some (PySem.W.kla_obj "<lambda>" D.q D.params D.body D.scope D.cl pm c ctv)
theorem lamO_ne {f c : Addr} {D : LamD} (ps : Array Value) : LamO f D c ≠ .tbl ps := fun z => by
  unfold LamO at z
  cases z
/-- what a run leans on -/
structure GE where
  K : PySem.W.Frag
  cls : Nat → Addr
  exc : Nat → Addr
  scr : Addr
  ns : List Int
  T : List (Addr × Str)
  lam : Nat → Option LamD
def fldN : Nat → Str
  | 0 => "passes"
  | _ => "counts"

def VRel (ι : Nat → Addr) (N : Nat) : AV → V → Prop
  | .any, _ => True
  | .non, c => c = .non
  | .bl b, c => c = .bl b
  | .int i, c => c = .int i
  | .str n, c => c = .str (strT n)
  | .ref n, c => n < N ∧ c = .ref (ι n)
theorem VRel.up {ι ι' : Nat → Addr} {N N' : Nat} {v : AV} {c : V} (h : VRel ι N v c) (a : ∀ n, n < N → ι' n = ι n) (l : N ≤ N') : VRel ι' N' v c := by
  cases v with
  | ref n =>
    obtain ⟨h1, h2⟩ := h
    exact ⟨Nat.lt_of_lt_of_le h1 l, by rw [a n h1]; exact h2⟩
  | _ => exact h
abbrev VsRel (ι : Nat → Addr) (N : Nat) : List AV → List V → Prop := Paired (VRel ι N)
theorem VsRel.up {ι ι' : Nat → Addr} {N N' : Nat} {v : List AV} {c : List V} (h : VsRel ι N v c) (a : ∀ n, n < N → ι' n = ι n) (l : N ≤ N') : VsRel ι' N' v c := Paired.mapP h fun _ _ q => q.up a l
def SRel (ι : Nat → Addr) (N : Nat) (σ : AS) (σc : St) : Prop := σ.length = σc.length ∧ ∀ (i : Nat) (v : AV), σ[i]? = some (some v) → ∃ c, σc[i]? = some (some c) ∧ VRel ι N v c
theorem SRel.up {ι ι' : Nat → Addr} {N N' : Nat} {σ : AS} {σc : St} (h : SRel ι N σ σc) (a : ∀ n, n < N → ι' n = ι n) (l : N ≤ N') : SRel ι' N' σ σc :=
  ⟨h.1, fun i v e => let ⟨c, e1, r⟩ := h.2 i v e; ⟨c, e1, r.up a l⟩⟩
def FldRel (ι : Nat → Addr) (N : Nat) (c : Nat) : Option AV → List (Str × V) → Prop
  | none, fs => fs = []
  | some v, fs => ∃ z, fs = [(fldN c, z)] ∧ VRel ι N v z
def ORel (G : GE) (ι : Nat → Addr) (N : Nat) (H : Hp) (a : Addr) : AO → Prop
  | .lst xs => ∃ cs, H a = some (.lst cs) ∧ VsRel ι N xs cs
  | .tup xs => ∃ cs, H a = some (.tup cs) ∧ VsRel ι N xs cs
  | .ptup xs => ∃ cs o, H a = some (.frz o (.tup cs)) ∧ o.dict = none ∧ VsRel ι N xs cs
  | .ins c v => ∃ dx fs, H a = some (.ins (G.cls c) dx fs) ∧ FldRel ι N c v fs
  | .draw => ∃ k : Int, H a = some (.lst [.ref G.scr, .int k])
  | .lam j => ∃ D c', G.lam j = some D ∧ H a = some (LamO a D c') ∧ H c' = some (LamX.CodeO c' D.q)
  | .gone => H a ≠ none
theorem ORel.there {G : GE} {ι : Nat → Addr} {N : Nat} {H : Hp} {a : Addr} {o : AO} (h : ORel G ι N H a o) : H a ≠ none := by
  cases o with
  | lst xs => obtain ⟨_, e, _⟩ := h; rw [e]; simp
  | tup xs => obtain ⟨_, e, _⟩ := h; rw [e]; simp
  | ptup xs => obtain ⟨_, _, e, _⟩ := h; rw [e]; simp
  | ins c v => obtain ⟨_, _, e, _⟩ := h; rw [e]; simp
  | draw => obtain ⟨_, e⟩ := h; rw [e]; simp
  | lam j => obtain ⟨_, _, _, e, _⟩ := h; rw [e]; simp
  | gone => exact h
def KScr (K : PySem.W.Frag) (a : Addr) (xs : List V) : Prop := ∃ (o : Obj) (its : Array Value) (n : Nat), K.lookup a = some o ∧ o.cls = .type "list" ∧ o.dict = none ∧ o.data = .seq its n ∧ its.size ≤ sizeLine ∧ Vals xs its.toList
structure HRel (G : GE) (ι : Nat → Addr) (h : AH) (H : Hp) : Prop where
  inj : ∀ n m, n < h.length → m < h.length → ι n = ι m → n = m
  obj : ∀ n o, h[n]? = some o → ORel G ι h.length H (ι n) o
  scr : (H G.scr = some (.lst (G.ns.map V.int)) ∧ ∀ n, n < h.length → ι n ≠ G.scr) ∨ (∃ o, H G.scr = some (.frz o (.lst (G.ns.map V.int)))) ∨ KScr G.K G.scr (G.ns.map V.int)
  tab : LamX.Tabs G.T H
def Imm : HO → Prop
  | .tup _ => True
  | .frz _ _ => True
  | .ext _ => True
  | _ => False
structure Stp (G : GE) (ι : Nat → Addr) (h : AH) (H : Hp) (ι' : Nat → Addr) (h' : AH) (H' : Hp) : Prop where
  le : h.length ≤ h'.length
  agr : ∀ n, n < h.length → ι' n = ι n
  rel : HRel G ι' h' H'
  kp : ∀ a o, H a = some o → (∀ n, n < h.length → ι n ≠ a) → (∀ ps, o ≠ .tbl ps) → H' a = some o
  new : ∀ n, h.length ≤ n → n < h'.length → H (ι' n) = none
  mono : ∀ a, H a ≠ none → H' a ≠ none
  im : ∀ a o, H a = some o → Imm o → H' a = some o
section
variable {G : GE} {ι ι' ι1 ι2 : Nat → Addr} {h h' h1 h2 : AH} {H H' H1 H2 : Hp} {σ : AS} {σc : St} {v : AV} {c : V}
theorem Stp.refl (r : HRel G ι h H) : Stp G ι h H ι h H := ⟨Nat.le_refl _, fun _ _ => rfl, r, fun _ _ e _ _ => e, fun n a b => absurd b (Nat.not_lt.mpr a), fun _ e => e, fun _ _ e _ => e⟩
theorem Stp.trans (a : Stp G ι h H ι1 h1 H1) (b : Stp G ι1 h1 H1 ι2 h2 H2) : Stp G ι h H ι2 h2 H2 := by
  refine ⟨Nat.le_trans a.le b.le, fun n q => (b.agr n (Nat.lt_of_lt_of_le q a.le)).trans (a.agr n q), b.rel, fun d o e q t => ?_, fun n q1 q2 => ?_, fun d e => b.mono d (a.mono d e), fun d o e m => b.im d o (a.im d o e m) m⟩
  · refine b.kp d o (a.kp d o e q t) (fun n hn => ?_) t
    by_cases hl : n < h.length
    · rw [a.agr n hl]; exact q n hl
    · intro z
      have := a.new n (Nat.le_of_not_lt hl) hn
      rw [z, e] at this
      cases this
  · by_cases hl : n < h1.length
    · rw [b.agr n hl]; exact a.new n q1 hl
    · have z := b.new n (Nat.le_of_not_lt hl) q2
      cases e : H (ι2 n) with
      | none => rfl
      | some o => exact absurd z (a.mono _ (by rw [e]; simp))
theorem Stp.vr (a : Stp G ι h H ι1 h1 H1) (r : VRel ι h.length v c) : VRel ι1 h1.length v c := r.up a.agr a.le
theorem Stp.vsr {vs : List AV} {cs : List V} (a : Stp G ι h H ι1 h1 H1) (r : VsRel ι h.length vs cs) : VsRel ι1 h1.length vs cs := r.up a.agr a.le
theorem Stp.sr (a : Stp G ι h H ι1 h1 H1) (r : SRel ι h.length σ σc) : SRel ι1 h1.length σ σc := r.up a.agr a.le
theorem HRel.lt (r : HRel G ι h H) {n : Nat} (e : n < h.length) : H (ι n) ≠ none := (r.obj n _ (List.getElem?_eq_getElem e)).there
/-- what stays where only lists and instances change and new things come -/
theorem tab_keep {T : List (Addr × Str)} (t : LamX.Tabs T H) (k : ∀ b o, H b = some o → (∀ xs, o ≠ .lst xs) → (∀ C d f, o ≠ .ins C d f) → H' b = some o) : LamX.Tabs T H' := fun p hp => by
  obtain ⟨ps, e1, e2, e3⟩ := t p hp
  refine ⟨ps, k _ _ e1 (fun _ z => by cases z) (fun _ _ _ z => by cases z), e2, fun pos cv hc => ?_⟩
  obtain ⟨c, a, b⟩ := e3 pos cv hc
  exact ⟨c, a, k _ _ b (fun _ z => by unfold LamX.CodeO at z; cases z) (fun _ _ _ z => by unfold LamX.CodeO at z; cases z)⟩
theorem HRel.sq (r : HRel G ι h H) : SqL G.K H G.scr (G.ns.map V.int) := by
  rcases r.scr with t | t | t
  · exact .inl (.inl t.1)
  · exact .inl (.inr t)
  · exact .inr t
end
def updI (ι : Nat → Addr) (n : Nat) (p : Addr) : Nat → Addr := fun m => if m = n then p else ι m
theorem updI_same {ι : Nat → Addr} {n : Nat} {p : Addr} : updI ι n p n = p := if_pos rfl
theorem updI_ne {ι : Nat → Addr} {n m : Nat} {p : Addr} (h : m ≠ n) : updI ι n p m = ι m := if_neg h
theorem updI_lt {ι : Nat → Addr} {n : Nat} {p : Addr} : ∀ m, m < n → updI ι n p m = ι m := fun m h => updI_ne (Nat.ne_of_lt h)
/-- what an abstract object says stays where its own places stay -/
theorem ORel.keep {G : GE} {ι ι' : Nat → Addr} {N N' : Nat} {H H' : Hp} {a : Addr} {o : AO} (r : ORel G ι N H a o) (ag : ∀ n, n < N → ι' n = ι n) (l : N ≤ N')
    (k : ∀ u, H a = some u → H' a = some u) (kc : ∀ b q, H b = some (LamX.CodeO b q) → H' b = some (LamX.CodeO b q)) (m : H a ≠ none → H' a ≠ none) : ORel G ι' N' H' a o := by
  cases o with
  | lst xs => obtain ⟨cs, e, q⟩ := r; exact ⟨cs, k _ e, VsRel.up q ag l⟩
  | tup xs => obtain ⟨cs, e, q⟩ := r; exact ⟨cs, k _ e, VsRel.up q ag l⟩
  | ptup xs => obtain ⟨cs, o, e, d, q⟩ := r; exact ⟨cs, o, k _ e, d, VsRel.up q ag l⟩
  | ins c v =>
    obtain ⟨dx, fs, e, q⟩ := r
    refine ⟨dx, fs, k _ e, ?_⟩
    cases v with
    | none => exact q
    | some v => obtain ⟨z, e1, q1⟩ := q; exact ⟨z, e1, q1.up ag l⟩
  | draw => obtain ⟨n, e⟩ := r; exact ⟨n, k _ e⟩
  | lam j => obtain ⟨D, c', e1, e2, e3⟩ := r; exact ⟨D, c', e1, k _ e2, kc _ _ e3⟩
  | gone => exact m r
section
variable {G : GE} {ι : Nat → Addr} {h : AH} {H : Hp}
/-- a new object -/
theorem Stp.alloc {p : Addr} {o : AO} {oc : HO} (r : HRel G ι h H) (hp : H p = none) (ho : ORel G (updI ι h.length p) (h.length + 1) (upd H p oc) p o) : Stp G ι h H (updI ι h.length p) (h ++ [o]) (upd H p oc) := by
  have ex : ∀ b u, H b = some u → upd H p oc b = some u := fun b u e => by rw [upd_ne (ne_of_none e hp)]; exact e
  have ll : (h ++ [o]).length = h.length + 1 := by simp
  have nn : ∀ n, n < h.length → ι n ≠ p := fun n hn z => r.lt hn (by rw [z]; exact hp)
  refine ⟨by omega, updI_lt, ⟨fun n m q1 q2 e => ?_, fun n u e => ?_, r.scr.imp (fun t => ⟨ex _ _ t.1, fun n q z => ?_⟩) (Or.imp_left fun ⟨o, t⟩ => ⟨o, ex _ _ t⟩), tab_keep r.tab fun b u e _ _ => ex b u e⟩, fun a u e _ _ => ex a u e, fun n q1 q2 => ?_, fun a e => ?_, fun a u e _ => ex a u e⟩
  · rw [ll] at q1 q2
    by_cases e1 : n = h.length
    · by_cases e2 : m = h.length
      · omega
      · rw [e1, updI_same, updI_ne e2] at e
        exact absurd e.symm (nn m (by omega))
    · by_cases e2 : m = h.length
      · rw [e2, updI_same, updI_ne e1] at e
        exact absurd e (nn n (by omega))
      · rw [updI_ne e1, updI_ne e2] at e
        exact r.inj n m (by omega) (by omega) e
  · rw [ll]
    by_cases e1 : n < h.length
    · rw [List.getElem?_append_left e1] at e
      rw [updI_ne (Nat.ne_of_lt e1)]
      exact (r.obj n u e).keep updI_lt (Nat.le_succ _) (fun u e => ex _ u e) (fun b q e => ex _ _ e) fun z => by
        cases q : H (ι n) with
        | none => exact absurd q z
        | some u => rw [ex _ _ q]; simp
    · have e2 : n = h.length := by
        have := (List.getElem?_eq_some_iff.mp e).1
        rw [ll] at this
        omega
      subst e2
      rw [updI_same]
      rw [List.getElem?_append_right (Nat.le_refl _), Nat.sub_self] at e
      cases e
      exact ho
  · rw [ll] at q
    by_cases e1 : n = h.length
    · rw [e1, updI_same] at z
      rw [z, t.1] at hp
      cases hp
    · rw [updI_ne e1] at z
      exact t.2 n (by omega) z
  · rw [ll] at q2
    have : n = h.length := by omega
    rw [this, updI_same]
    exact hp
  · cases q : H a with
    | none => exact absurd q e
    | some u => rw [ex _ _ q]; simp
theorem Stp.newL {p : Addr} {xs : List AV} {cs : List V} (r : HRel G ι h H) (hp : H p = none) (q : VsRel ι h.length xs cs) : Stp G ι h H (updI ι h.length p) (h ++ [.lst xs]) (upd H p (.lst cs)) :=
  .alloc r hp ⟨cs, upd_same, q.up updI_lt (Nat.le_succ _)⟩
theorem Stp.newT {p : Addr} {xs : List AV} {cs : List V} (r : HRel G ι h H) (hp : H p = none) (q : VsRel ι h.length xs cs) : Stp G ι h H (updI ι h.length p) (h ++ [.tup xs]) (upd H p (.tup cs)) :=
  .alloc r hp ⟨cs, upd_same, q.up updI_lt (Nat.le_succ _)⟩
theorem Stp.newP {p : Addr} {xs : List AV} {cs : List V} {o : Obj} (r : HRel G ι h H) (hp : H p = none) (q : VsRel ι h.length xs cs) (d : o.dict = none) : Stp G ι h H (updI ι h.length p) (h ++ [.ptup xs]) (upd H p (.frz o (.tup cs))) :=
  .alloc r hp ⟨cs, o, upd_same, d, q.up updI_lt (Nat.le_succ _)⟩
theorem VRel.new {p : Addr} {o : AO} : VRel (updI ι h.length p) (h ++ [o]).length (.ref h.length) (.ref p) := ⟨by simp, by rw [updI_same]⟩
/-- a list or an instance changed -/
theorem Stp.change {n : Nat} {o o' : AO} {u u' : HO} (r : HRel G ι h H) (hn : h[n]? = some o) (hu : H (ι n) = some u) (hk : (∃ xs, u = .lst xs) ∨ ∃ C d f, u = .ins C d f) (ho : ORel G ι h.length (upd H (ι n) u') (ι n) o') : Stp G ι h H ι (h.set n o') (upd H (ι n) u') := by
  have ex : ∀ b w, H b = some w → b ≠ ι n → upd H (ι n) u' b = some w := fun b w e q => by rw [upd_ne q]; exact e
  have ll : (h.set n o').length = h.length := by simp
  have hl := (List.getElem?_eq_some_iff.mp hn).1
  have nk : ∀ b w, H b = some w → (∀ xs, w ≠ .lst xs) → (∀ C d f, w ≠ .ins C d f) → b ≠ ι n := fun b w e q1 q2 z => by
    rw [z, hu] at e
    cases e
    rcases hk with ⟨xs, e⟩ | ⟨C, d, f, e⟩
    · exact q1 xs e
    · exact q2 C d f e
  have ex2 : ∀ a, H a ≠ none → upd H (ι n) u' a ≠ none := fun a e => by
    by_cases z : a = ι n
    · rw [z, upd_same]; simp
    · rw [upd_ne z]; exact e
  have co : ∀ b q, H b = some (LamX.CodeO b q) → upd H (ι n) u' b = some (LamX.CodeO b q) := fun b q e => ex _ _ e (nk _ _ e (fun _ z => by unfold LamX.CodeO at z; cases z) (fun _ _ _ z => by unfold LamX.CodeO at z; cases z))
  refine ⟨by omega, fun _ _ => rfl, ⟨fun a b q1 q2 e => r.inj a b (by omega) (by omega) e, fun m w e => ?_, ?_, tab_keep r.tab fun b w e q1 q2 => ex b w e (nk b w e q1 q2)⟩, fun a w e q _ => ex a w e fun z => q n hl z.symm, fun m q1 q2 => by omega, ex2, fun a w e m => ex a w e (nk a w e (fun _ z => by rw [z] at m; exact m) fun _ _ _ z => by rw [z] at m; exact m)⟩
  · rw [ll]
    by_cases e1 : m = n
    · subst e1
      rw [List.getElem?_set_self hl] at e
      cases e
      exact ho
    · rw [List.getElem?_set_ne (Ne.symm e1)] at e
      have hm := (List.getElem?_eq_some_iff.mp e).1
      exact (r.obj m w e).keep (fun _ _ => rfl) (Nat.le_refl _) (fun v e2 => ex _ v e2 fun z => e1 (r.inj m n hm hl z)) co (ex2 _)
  · rcases r.scr with t | ⟨ob, t⟩ | t
    · exact .inl ⟨ex _ _ t.1 fun z => t.2 n hl z.symm, fun m q => t.2 m (by omega)⟩
    · exact .inr (.inl ⟨ob, ex _ _ t (nk _ _ t (fun _ z => by cases z) (fun _ _ _ z => by cases z))⟩)
    · exact .inr (.inr t)
end
end AIx
namespace AIx
open PySem L2
/-! ### lists and numbers, for the kernel -/
def lenN {α : Type} : List α → Nat
  | [] => 0
  | _ :: r => lenN r + 1
theorem lenN_eq {α : Type} : ∀ l : List α, lenN l = l.length
  | [] => rfl
  | _ :: r => by rw [lenN, lenN_eq r]; rfl
def getO {α : Type} : List α → Nat → Option α
  | [], _ => none
  | x :: _, 0 => some x
  | _ :: r, n + 1 => getO r n
theorem getO_eq {α : Type} : ∀ (l : List α) (n : Nat), getO l n = l[n]?
  | [], _ => by simp [getO]
  | x :: _, 0 => by simp [getO]
  | _ :: r, n + 1 => by rw [getO, getO_eq r n]; simp
def setK {α : Type} : List α → Nat → α → (List α → Bool) → Bool
  | [], _, _, k => k []
  | _ :: r, 0, a, k => k (a :: r)
  | x :: r, n + 1, a, k => setK r n a fun r' => k (x :: r')
theorem setK_eq {α : Type} : ∀ (l : List α) (n : Nat) (a : α) (k : List α → Bool), setK l n a k = k (l.set n a)
  | [], _, _, _ => rfl
  | _ :: _, 0, _, _ => rfl
  | x :: r, n + 1, a, k => by rw [setK, setK_eq r n a]; rfl
def appK {α : Type} : List α → List α → (List α → Bool) → Bool
  | [], b, k => k b
  | x :: r, b, k => appK r b fun r' => k (x :: r')
theorem appK_eq {α : Type} : ∀ (l b : List α) (k : List α → Bool), appK l b k = k (l ++ b)
  | [], _, _ => rfl
  | x :: r, b, k => by rw [appK, appK_eq r b]; rfl
def mapK {α β : Type} (f : α → β) : List α → (List β → Bool) → Bool
  | [], k => k []
  | x :: r, k => mapK f r fun r' => k (f x :: r')
theorem mapK_eq {α β : Type} (f : α → β) : ∀ (l : List α) (k : List β → Bool), mapK f l k = k (l.map f)
  | [], _ => rfl
  | x :: r, k => by rw [mapK, mapK_eq f r]; rfl
def nfN (n : Nat) (k : Nat → Bool) : Bool := match n with | 0 => k 0 | m + 1 => k (m + 1)
theorem nfN_eq (n : Nat) (k : Nat → Bool) : nfN n k = k n := by cases n <;> rfl
def nfI (i : Int) (k : Int → Bool) : Bool := match i with | .ofNat n => nfN n fun n => k (.ofNat n) | .negSucc n => nfN n fun n => k (.negSucc n)
theorem nfI_eq (i : Int) (k : Int → Bool) : nfI i k = k i := by cases i <;> simp [nfI, nfN_eq]
/-! ### what is no longer needed is forgotten -/
def cleanV (m : Nat) : AV → AV
  | .ref n => match Nat.blt n m with | true => .ref n | false => .any
  | v => v
def cleanO (m : Nat) : AO → AO
  | .lst xs => .lst (xs.map (cleanV m))
  | .tup xs => .tup (xs.map (cleanV m))
  | .ptup xs => .ptup (xs.map (cleanV m))
  | .ins c (some v) => .ins c (some (cleanV m v))
  | o => o
def okVs (m : Nat) : List AV → Bool
  | [] => true
  | .ref n :: r => match Nat.blt n m with | true => okVs m r | false => false
  | _ :: r => okVs m r
def okO (m : Nat) : AO → Bool
  | .lst xs => okVs m xs
  | .tup xs => okVs m xs
  | .ptup xs => okVs m xs
  | .ins _ (some v) => okVs m [v]
  | _ => true
def trunc (m : Nat) (h : AH) : AH := (h.take m).map (cleanO m)
def truncG (m : Nat) : Nat → AH → (AH → Bool) → Bool
  | 0, _, k => k []
  | _ + 1, [], k => k []
  | n + 1, o :: r, k => truncG m n r fun r' => match okO m o with | true => k (o :: r') | false => k (cleanO m o :: r')
theorem cleanV_t {m n : Nat} (e : Nat.blt n m = true) : cleanV m (.ref n) = .ref n := by
  show (match Nat.blt n m with | true => AV.ref n | false => .any) = _
  rw [e]
theorem cleanV_f {m n : Nat} (e : Nat.blt n m = false) : cleanV m (.ref n) = .any := by
  show (match Nat.blt n m with | true => AV.ref n | false => .any) = _
  rw [e]
theorem cleanV_ok {m : Nat} {v : AV} {r : List AV} (h : okVs m (v :: r) = true) : cleanV m v = v ∧ okVs m r = true := by
  cases v with
  | ref n =>
    unfold okVs at h
    cases e : Nat.blt n m with
    | true => rw [e] at h; exact ⟨cleanV_t e, h⟩
    | false => rw [e] at h; cases h
  | _ => exact ⟨rfl, h⟩
theorem clean_ok {m : Nat} : ∀ {xs : List AV}, okVs m xs = true → xs.map (cleanV m) = xs
  | [], _ => rfl
  | v :: r, h => by
    obtain ⟨a, b⟩ := cleanV_ok h
    rw [List.map_cons, a, clean_ok b]
theorem cleanO_ok {m : Nat} {o : AO} (h : okO m o = true) : cleanO m o = o := by
  cases o with
  | lst xs => show AO.lst _ = _; rw [clean_ok h]
  | tup xs => show AO.tup _ = _; rw [clean_ok h]
  | ptup xs => show AO.ptup _ = _; rw [clean_ok h]
  | ins c v =>
    cases v with
    | none => rfl
    | some v => show AO.ins c (some _) = _; rw [(cleanV_ok h).1]
  | _ => rfl
theorem truncG_eq {m : Nat} : ∀ (n : Nat) (h : AH) (k : AH → Bool), truncG m n h k = k ((h.take n).map (cleanO m))
  | 0, h, k => by simp [truncG]
  | n + 1, [], k => by simp [truncG]
  | n + 1, o :: r, k => by
    rw [truncG, truncG_eq n r]
    cases e : okO m o with
    | true => simp [cleanO_ok e]
    | false => simp
def truncK (m : Nat) (h : AH) (k : AH → Bool) : Bool := truncG m m h k
theorem truncK_eq (m : Nat) (h : AH) (k : AH → Bool) : truncK m h k = k (trunc m h) := truncG_eq m h k
theorem VRel.clean {ι : Nat → Addr} {N m : Nat} {v : AV} {c : V} (r : VRel ι N v c) : VRel ι m (cleanV m v) c := by
  cases v with
  | ref n =>
    cases e : Nat.blt n m with
    | true => rw [cleanV_t e]; exact ⟨Nat.le_of_ble_eq_true e, r.2⟩
    | false => rw [cleanV_f e]; exact True.intro
  | _ => exact r
theorem VsRel.clean {ι : Nat → Addr} {N m : Nat} : ∀ {v : List AV} {c : List V}, VsRel ι N v c → VsRel ι m (v.map (cleanV m)) c
  | _, _, .nil => .nil
  | _, _, .cons a r => .cons a.clean (VsRel.clean r)
theorem ORel.clean {G : GE} {ι : Nat → Addr} {N m : Nat} {H : Hp} {a : Addr} {o : AO} (r : ORel G ι N H a o) : ORel G ι m H a (cleanO m o) := by
  cases o with
  | lst xs => obtain ⟨cs, e, q⟩ := r; exact ⟨cs, e, q.clean⟩
  | tup xs => obtain ⟨cs, e, q⟩ := r; exact ⟨cs, e, q.clean⟩
  | ptup xs => obtain ⟨cs, o, e, d, q⟩ := r; exact ⟨cs, o, e, d, q.clean⟩
  | ins c v =>
    obtain ⟨dx, fs, e, q⟩ := r
    cases v with
    | none => exact ⟨dx, fs, e, q⟩
    | some v => obtain ⟨z, e1, q1⟩ := q; exact ⟨dx, fs, e, z, e1, q1.clean⟩
  | draw => exact r
  | lam j => exact r
  | gone => exact r
section
variable {G : GE} {ι ι' : Nat → Addr} {h h' : AH} {H H' : Hp}
theorem trunc_len {m : Nat} (e : m ≤ h.length) : (trunc m h).length = m := by unfold trunc; rw [List.length_map, List.length_take]; omega
theorem HRel.trunc {m : Nat} (r : HRel G ι h H) (e : m ≤ h.length) : HRel G ι (AIx.trunc m h) H := by
  have ll : (AIx.trunc m h).length = m := trunc_len e
  refine ⟨fun a b q1 q2 z => r.inj a b (by omega) (by omega) z, fun n o z => ?_, r.scr.imp_left fun t => ⟨t.1, fun n q => t.2 n (by omega)⟩, r.tab⟩
  rw [ll]
  have hn : n < m := by
    have := (List.getElem?_eq_some_iff.mp z).1
    omega
  unfold AIx.trunc at z
  rw [List.getElem?_map, List.getElem?_take_of_lt hn] at z
  cases e1 : h[n]? with
  | none => rw [e1] at z; cases z
  | some u =>
    rw [e1] at z
    cases z
    exact (r.obj n u e1).clean
theorem Stp.trunc (s : Stp G ι h H ι' h' H') : Stp G ι h H ι' (AIx.trunc h.length h') H' := by
  have ll : (AIx.trunc h.length h').length = h.length := trunc_len s.le
  exact ⟨by omega, s.agr, s.rel.trunc s.le, s.kp, fun n a b => by omega, s.mono, s.im⟩
/-- a run from the empty abstract heap leaves all that was tracked -/
theorem HRel.empty (r : HRel G ι h H) : HRel G ι [] H := ⟨fun _ _ q => absurd q (Nat.not_lt_zero _), fun n o e => by simp at e, r.scr.imp_left fun t => ⟨t.1, fun _ q => absurd q (Nat.not_lt_zero _)⟩, r.tab⟩
theorem Stp.iso (r : HRel G ι h H) (s : Stp G ι [] H ι' h' H') : Stp G ι h H ι h H' := by
  have kp : ∀ b u, H b = some u → (∀ ps, u ≠ .tbl ps) → H' b = some u := fun b u e t => s.kp b u e (fun n q => absurd q (Nat.not_lt_zero _)) t
  refine ⟨Nat.le_refl _, fun _ _ => rfl, ⟨r.inj, fun n o e => ?_, ?_, s.rel.tab⟩, fun a u e _ t => kp a u e t, fun n a b => absurd b (Nat.not_lt.mpr a), s.mono, s.im⟩
  · have q := r.obj n o e
    cases o with
    | lst xs => obtain ⟨cs, e1, q1⟩ := q; exact ⟨cs, kp _ _ e1 (fun _ z => by cases z), q1⟩
    | tup xs => obtain ⟨cs, e1, q1⟩ := q; exact ⟨cs, kp _ _ e1 (fun _ z => by cases z), q1⟩
    | ptup xs => obtain ⟨cs, o, e1, d, q1⟩ := q; exact ⟨cs, o, kp _ _ e1 (fun _ z => by cases z), d, q1⟩
    | ins c v => obtain ⟨dx, fs, e1, q1⟩ := q; exact ⟨dx, fs, kp _ _ e1 (fun _ z => by cases z), q1⟩
    | draw => obtain ⟨z, e1⟩ := q; exact ⟨z, kp _ _ e1 (fun _ z => by cases z)⟩
    | lam j => obtain ⟨D, c', e1, e2, e3⟩ := q; exact ⟨D, c', e1, kp _ _ e2 lamO_ne, kp _ _ e3 (fun _ z => by unfold LamX.CodeO at z; cases z)⟩
    | gone => exact s.mono _ q
  · rcases r.scr with t | ⟨o, t⟩ | t
    · exact .inl ⟨kp _ _ t.1 (fun _ z => by cases z), t.2⟩
    · exact .inr (.inl ⟨o, kp _ _ t (fun _ z => by cases z)⟩)
    · exact .inr (.inr t)
end
/-! ### runs -/
abbrev VRelT (α β : Type) := (Nat → Addr) → Nat → α → β → Prop
structure Pst {α β : Type} (G : GE) (VR : VRelT α β) (E : XK) (ι : Nat → Addr) (h : AH) (H : Hp) (k : α → AH → Bool) (x : KX) (Q : β → Hp → Prop) : Prop where
  ok : ∀ ι' h' H' a b, Stp G ι h H ι' h' H' → VR ι' h'.length a b → k a h' = true → Q b H'
  ex : ∀ ι' h' H' c, Stp G ι h H ι' h' H' → x c h' = true → E (.ref (G.exc c)) none H'
structure At {α β : Type} (G : GE) (E : XK) (VR : VRelT α β) (f : FM α) (ι : Nat → Addr) (σ : AS) (h : AH) (σc : St) (H : Hp) (Q : β → Hp → Prop) : Prop where
  s : SRel ι h.length σ σc
  r : HRel G ι h H
  run : ∃ k x, f σ h k x = true ∧ Pst G VR E ι h H k x Q
def rd {α β : Type} (G : GE) (E : XK) (VR : VRelT α β) (f : FM α) : St → Hp → (β → Hp → Prop) → Prop := fun σc H Q => ∃ ι σ h, At G E VR f ι σ h σc H Q
abbrev BRel : VRelT Bool Bool := fun _ _ a b => b = a
abbrev rdE (G : GE) (E : XK) (f : FE) : TE := rd G E VRel f
abbrev rdA (G : GE) (E : XK) (f : FA) : TA := rd G E VsRel f
abbrev rdT (G : GE) (E : XK) (f : FT) : TT := rd G E BRel f
section
variable {α β α' β' : Type} {G : GE} {E : XK} {VR : VRelT α β} {VR' : VRelT α' β'} {ι : Nat → Addr} {σ : AS} {h : AH} {σc : St} {H : Hp} {Q : β → Hp → Prop} {Q' : β' → Hp → Prop}
theorem Pst.later {k : α → AH → Bool} {x : KX} {ι' : Nat → Addr} {h' : AH} {H' : Hp} (P : Pst G VR E ι h H k x Q) (s : Stp G ι h H ι' h' H') : Pst G VR E ι' h' H' k x Q :=
  ⟨fun _ _ _ _ _ t => P.ok _ _ _ _ _ (s.trans t), fun _ _ _ _ t => P.ex _ _ _ _ (s.trans t)⟩
theorem At.bind {f : FM α'} {g : α' → FM α} (A : At G E VR (fun σ h k x => f σ h (fun a h => g a σ h k x) x) ι σ h σc H Q)
    (q : ∀ ι' h' H' a b, Stp G ι h H ι' h' H' → VR' ι' h'.length a b → At G E VR (g a) ι' σ h' σc H' Q → Q' b H') : At G E VR' f ι σ h σc H Q' := by
  obtain ⟨s, r, k, x, e, P⟩ := A
  exact ⟨s, r, fun a h => g a σ h k x, x, e, ⟨fun ι' h' H' a b st vr e' => q ι' h' H' a b st vr ⟨st.sr s, st.rel, k, x, e', P.later st⟩, P.ex⟩⟩
theorem At.ret {a : α} {b : β} (A : At G E VR (fun _ h k _ => k a h) ι σ h σc H Q) (v : VR ι h.length a b) : Q b H := by
  obtain ⟨s, r, k, x, e, P⟩ := A
  exact P.ok _ _ _ _ _ (.refl r) v e
theorem At.no {P : Prop} (A : At G E VR (fun _ _ _ _ => false) ι σ h σc H Q) : P := by
  obtain ⟨s, r, k, x, e, P⟩ := A
  cases e
/-- the same run at a later state, by equation of the run -/
theorem At.eq {f f' : FM α} (A : At G E VR f ι σ h σc H Q) (e : ∀ k x, f σ h k x = f' σ h k x) : At G E VR f' ι σ h σc H Q := by
  obtain ⟨s, r, k, x, q, P⟩ := A
  exact ⟨s, r, k, x, by rw [← e]; exact q, P⟩
theorem At.step {f f' : FM α} {ι' : Nat → Addr} {h' : AH} {H' : Hp} (A : At G E VR f ι σ h σc H Q) (s : Stp G ι h H ι' h' H') (e : ∀ k x, f σ h k x = f' σ h' k x) : At G E VR f' ι' σ h' σc H' Q := by
  obtain ⟨s0, r, k, x, q, P⟩ := A
  exact ⟨s.sr s0, s.rel, k, x, by rw [← e]; exact q, P.later s⟩
end
theorem PE.imp {X : Cx} {e : Expr} {t t' : TE} (p : PE X e t) (h : ∀ σ H Q, t' σ H Q → t σ H Q) : PE X e t' := ⟨fun pins s σ H Q I q => p.run pins s σ H Q I (h σ H Q q)⟩
theorem PT.imp {X : Cx} {e : Expr} {t t' : TT} (p : PT X e t) (h : ∀ σ H Q, t' σ H Q → t σ H Q) : PT X e t' := ⟨fun pins s σ H Q I q => p.run pins s σ H Q I (h σ H Q q)⟩
theorem PW.imp {X : Cx} {e : Expr} {t t' : TT} (p : PW X e t) (h : ∀ σ H Q, t' σ H Q → t σ H Q) : PW X e t' := ⟨fun wh pins s σ H Q I q => p.run wh pins s σ H Q I (h σ H Q q)⟩
theorem PA.imp {X : Cx} {e : List Expr} {t t' : TA} (p : PA X e t) (h : ∀ σ H Q, t' σ H Q → t σ H Q) : PA X e t' := ⟨fun pos pins s σ H Q I q => p.run pos pins s σ H Q I (h σ H Q q)⟩
theorem PS.imp {X : Cx} {e : Stmt} {t t' : TS} (p : PS X e t) (h : ∀ D σ H, t' D σ H → t D σ H) : PS X e t' := ⟨fun pins s σ H D I q => p.run pins s σ H D I (h D σ H q)⟩
theorem PSs.imp {X : Cx} {e : List Stmt} {t t' : TS} (p : PSs X e t) (h : ∀ D σ H, t' D σ H → t D σ H) : PSs X e t' := ⟨fun pins s σ H D I q => p.run pins s σ H D I (h D σ H q)⟩
/-! ### expressions -/
def fVar (i : Nat) : FE := fun σ h k _ => match getO σ i with | some (some v) => k v h | _ => false
def fC (v : AV) : FE := fun _ h k _ => k v h
/-- two operands, by values and objects -/
def fOpH (g : AV → AV → AH → KV → Bool) (a b : FE) : FE := fun σ h k x => a σ h (fun v h => b σ h (fun u h => g v u h k) x) x
def fUn (g : AV → (AV → Bool) → Bool) (a : FE) : FE := fun σ h k x => a σ h (fun v h => g v fun w => k w h) x
def fNil : FA := fun _ h k _ => k [] h
def fCons (a : FE) (r : FA) : FA := fun σ h k x => a σ h (fun v h => r σ h (fun vs h => k (v :: vs) h) x) x
/-- a call by values and objects -/
def fBlt (g : List AV → AH → KV → Bool) (r : FA) : FE := fun σ h k x => r σ h (fun vs h => g vs h k) x
/-- the value-level function g is right by the reading r -/
def HOk (G : GE) (g : AV → AV → AH → KV → Bool) (r : R2) : Prop := ∀ ι h H v u c d (Q : VK) (k : KV), HRel G ι h H → VRel ι h.length v c → VRel ι h.length u d → g v u h k = true →
  (∀ ι' h' H' w z, Stp G ι h H ι' h' H' → VRel ι' h'.length w z → k w h' = true → Q z H') → r c d H Q
def lift2 (g : AV → AV → (AV → Bool) → Bool) : AV → AV → AH → KV → Bool := fun v u h k => g v u fun w => k w h
def GOk (g : AV → AV → (AV → Bool) → Bool) (r : R2) : Prop := ∀ ι N v u c d H (Q : VK) (k : AV → Bool), VRel ι N v c → VRel ι N u d → g v u k = true → (∀ w z, VRel ι N w z → k w = true → Q z H) → r c d H Q
theorem GOk.h {G : GE} {g : AV → AV → (AV → Bool) → Bool} {r : R2} (q : GOk g r) : HOk G (lift2 g) r := fun ι h H v u c d Q k hr r1 r2 e p => q ι h.length v u c d H Q (fun w => k w h) r1 r2 e fun w z vr kw => p _ _ _ _ _ (.refl hr) vr kw
section
variable {X : Cx} {G : GE} {E : XK} {a b : Expr} {fa fb : FE} {pos : Pos}
abbrev SE (X : Cx) (G : GE) (E : XK) (e : Expr) (f : FE) : Prop := PE X e (rdE G E f)
abbrev SA (X : Cx) (G : GE) (E : XK) (e : List Expr) (f : FA) : Prop := PA X e (rdA G E f)
abbrev ST (X : Cx) (G : GE) (E : XK) (e : Expr) (f : FT) : Prop := PT X e (rdT G E f)
abbrev SW (X : Cx) (G : GE) (E : XK) (e : Expr) (f : FT) : Prop := PW X e (rdT G E f)
theorem s_const {v : AV} {c : V} {e : Expr} (p : PE X e (tC c)) (r : ∀ ι N, VRel ι N v c) : SE X G E e (fC v) := PE.imp p fun σc H Q ⟨ι, σ, h, A⟩ => A.ret (r _ _)
theorem s_varP {i : Nat} {e : Expr} (p : PE X e (tVar i)) : SE X G E e (fVar i) := PE.imp p fun σc H Q ⟨ι, σ, h, A⟩ => by
  obtain ⟨s, r, k, x, e, P⟩ := A
  unfold fVar at e
  rw [getO_eq] at e
  split at e
  · rename_i v hv
    obtain ⟨c, hc, vr⟩ := s.2 i v hv
    exact ⟨c, hc, P.ok _ _ _ _ _ (.refl r) vr e⟩
  · cases e
theorem opH_imp {r : R2} {g : AV → AV → AH → KV → Bool} (hg : HOk G g r) {σc : St} {H : Hp} {Q : VK} (h : rdE G E (fOpH g fa fb) σc H Q) : tOp r (rdE G E fa) (rdE G E fb) σc H Q := by
  obtain ⟨ι, σ, h, A⟩ := h
  refine ⟨ι, σ, h, A.bind (f := fa) (g := fun v σ h k x => fb σ h (fun u h => g v u h k) x) fun ι1 h1 H1 v c s1 v1 A1 => ⟨ι1, σ, h1, A1.bind (f := fb) (g := fun u σ h k x => g v u h k) fun ι2 h2 H2 u d s2 v2 A2 => ?_⟩⟩
  obtain ⟨s, r, k, x, e, P⟩ := A2
  exact hg ι2 h2 H2 v u c d Q k r (s2.vr v1) v2 e fun ι' h' H' w z st vr kw => P.ok _ _ _ _ _ st vr kw
theorem s_opH {r : R2} {g : AV → AV → AH → KV → Bool} {e : Expr} (p : ∀ ta tb, PE X a ta → PE X b tb → PE X e (tOp r ta tb)) (ha : SE X G E a fa) (hb : SE X G E b fb) (hg : HOk G g r) : SE X G E e (fOpH g fa fb) := PE.imp (p _ _ ha hb) fun σc H Q h => opH_imp hg h
/-- the same as a test -/
def fTest (f : FE) : FT := fun σ h k x => f σ h (fun v h => match v with | .bl b => k b h | _ => false) x
theorem test_imp {f : FE} {σc : St} {H : Hp} {Q : Bool → Hp → Prop} (h : rdT G E (fTest f) σc H Q) : rdE G E f σc H fun x H' => ∃ k, x = .bl k ∧ Q k H' := by
  obtain ⟨ι, σ, h, A⟩ := h
  refine ⟨ι, σ, h, A.bind (f := f) (g := fun v σ h k x => match v with | .bl b => k b h | _ => false) fun ι1 h1 H1 v c s1 v1 A1 => ?_⟩
  cases v with
  | bl b => exact ⟨b, v1, A1.ret rfl⟩
  | _ => exact A1.no
theorem s_testH {r : R2} {g : AV → AV → AH → KV → Bool} {e : Expr} (p : ∀ ta tb, PE X a ta → PE X b tb → PT X e (tTest (tOp r ta tb))) (ha : SE X G E a fa) (hb : SE X G E b fb) (hg : HOk G g r) : ST X G E e (fTest (fOpH g fa fb)) :=
  PT.imp (p _ _ ha hb) fun σc H Q h => opH_imp hg (test_imp h)
/-- an expression that gives True or False, as a test -/
theorem s_val {e : Expr} {f : FE} (p : SE X G E e f) (he : ∀ whole, isTrue e X.env whole = (do let v ← whole; standAt e.pos; holding [v] (truthy v)) := by intro _; rfl) : ST X G E e (fTest f) := PT.imp (pt_val p he) fun σc H Q h => test_imp h
theorem s_un {r : V → Hp → VK → Prop} {g : AV → (AV → Bool) → Bool} {e : Expr} (p : ∀ ta, PE X a ta → PE X e (tUn r ta)) (ha : SE X G E a fa)
    (hg : ∀ ι N v c H (Q : VK) (k : AV → Bool), VRel ι N v c → g v k = true → (∀ w z, VRel ι N w z → k w = true → Q z H) → r c H Q) : SE X G E e (fUn g fa) := PE.imp (p _ ha) fun σc H Q ⟨ι, σ, h, A⟩ => by
  refine ⟨ι, σ, h, A.bind (f := fa) (g := fun v σ h k x => g v fun w => k w h) fun ι1 h1 H1 v c s1 v1 A1 => ?_⟩
  obtain ⟨s, r, k, x, e, P⟩ := A1
  exact hg ι1 h1.length v c H1 Q (fun w => k w h1) v1 e fun w z vr kw => P.ok _ _ _ _ _ (.refl r) vr kw
theorem s_nil : SA X G E [] fNil := PA.imp pa_nil fun σc H Q ⟨ι, σ, h, A⟩ => A.ret .nil
theorem s_cons {e : Expr} {es : List Expr} {f : FE} {r : FA} (ha : SE X G E e f) (hr : SA X G E es r) (hs : starEach (e :: es) X.env = (false, eval e X.env) :: starEach es X.env := by rfl) : SA X G E (e :: es) (fCons f r) := PA.imp (pa_cons ha hr hs) fun σc H Q ⟨ι, σ, h, A⟩ =>
  ⟨ι, σ, h, A.bind (f := f) (g := fun v σ h k x => r σ h (fun vs h => k (v :: vs) h) x) fun ι1 h1 H1 v c s1 v1 A1 => ⟨ι1, σ, h1, A1.bind (f := r) (g := fun vs σ h k x => k (v :: vs) h) fun ι2 h2 H2 vs cs s2 v2 A2 => A2.ret (.cons (s2.vr v1) v2)⟩⟩
theorem s_blt {r : List V → Hp → VK → Prop} {g : List AV → AH → KV → Bool} {es : List Expr} {fr : FA} {e : Expr} (p : ∀ t, PA X es t → PE X e (tCB r t)) (ha : SA X G E es fr)
    (hg : ∀ ι h H vs cs (Q : VK) (k : KV), HRel G ι h H → VsRel ι h.length vs cs → g vs h k = true → (∀ ι' h' H' w z, Stp G ι h H ι' h' H' → VRel ι' h'.length w z → k w h' = true → Q z H') → r cs H Q) : SE X G E e (fBlt g fr) := PE.imp (p _ ha) fun σc H Q ⟨ι, σ, h, A⟩ => by
  refine ⟨ι, σ, h, A.bind (f := fr) (g := fun vs σ h k x => g vs h k) fun ι1 h1 H1 v c s1 v1 A1 => ?_⟩
  obtain ⟨s, r, k, x, e, P⟩ := A1
  exact hg ι1 h1 H1 v c Q k r v1 e fun ι' h' H' w z st vr kw => P.ok _ _ _ _ _ st vr kw
end
end AIx
namespace AIx
open PySem L2
/-! ### numbers -/
def smallI : Int → Bool
  | .ofNat n => Nat.blt n 18446744073709551616
  | .negSucc n => Nat.blt n 18446744073709551614
theorem blt_lt {m n : Nat} (h : Nat.blt m n = true) : m < n := Nat.le_of_ble_eq_true h
theorem smallI_ok {i : Int} (h : smallI i = true) : -(2 ^ 64) < i ∧ i < 2 ^ 64 := by
  cases i with
  | ofNat n =>
    have := blt_lt h
    show -(2 ^ 64) < (n : Int) ∧ (n : Int) < 2 ^ 64
    constructor <;> omega
  | negSucc n =>
    have := blt_lt h
    constructor <;> omega
def posI : Int → Bool
  | .ofNat n => Nat.blt 0 n && Nat.blt n 18446744073709551616
  | _ => false
theorem posI_ok {i : Int} (h : posI i = true) : 0 < i ∧ i < 2 ^ 64 := by
  cases i with
  | ofNat n =>
    unfold posI at h
    rw [Bool.and_eq_true] at h
    have h1 := blt_lt h.1
    have h2 := blt_lt h.2
    show 0 < (n : Int) ∧ (n : Int) < 2 ^ 64
    constructor <;> omega
  | negSucc n => cases h
def iLt (a b : Int) : Bool := match a, b with
  | .ofNat i, .ofNat j => Nat.blt i j
  | .negSucc i, .negSucc j => Nat.blt j i
  | .negSucc _, _ => true
  | _, .negSucc _ => false
theorem iLt_eq (a b : Int) : iLt a b = decide (a < b) := by
  rw [Bool.eq_iff_iff, decide_eq_true_iff]
  cases a with
  | ofNat m => cases b with
    | ofNat n => exact ⟨fun h => (by have := blt_lt h; show (m : Int) < (n : Int); omega), fun h => Nat.ble_eq_true_of_le (by have : (m : Int) < (n : Int) := h; omega)⟩
    | negSucc n => exact ⟨fun h => (nomatch h), fun h => by have : (m : Int) < Int.negSucc n := h; omega⟩
  | negSucc m => cases b with
    | ofNat n => exact ⟨fun _ => (by show Int.negSucc m < (n : Int); omega), fun _ => rfl⟩
    | negSucc n => exact ⟨fun h => (by have := blt_lt h; omega), fun h => Nat.ble_eq_true_of_le (by omega)⟩
def iEq (a b : Int) : Bool := match a, b with
  | .ofNat i, .ofNat j => Nat.beq i j
  | .negSucc i, .negSucc j => Nat.beq i j
  | _, _ => false
theorem iEq_eq (a b : Int) : iEq a b = decide (a = b) := by
  rw [Bool.eq_iff_iff, decide_eq_true_iff]
  cases a with
  | ofNat m => cases b with
    | ofNat n => exact ⟨fun h => (by rw [Nat.eq_of_beq_eq_true h]), fun h => (by cases h; exact Nat.beq_refl m)⟩
    | negSucc n => exact ⟨fun h => (nomatch h), fun h => (nomatch h)⟩
  | negSucc m => cases b with
    | ofNat n => exact ⟨fun h => (nomatch h), fun h => (nomatch h)⟩
    | negSucc n => exact ⟨fun h => (by rw [Nat.eq_of_beq_eq_true h]), fun h => (by cases h; exact Nat.beq_refl m)⟩
abbrev G2 := AV → AV → (AV → Bool) → Bool
def gI (g : Int → Int → (AV → Bool) → Bool) : G2 := fun v u k => match v, u with | .int i, .int j => g i j k | _, _ => false
def gAdd : G2 := gI fun i j k => nfI (i + j) fun n => k (.int n)
def gSub : G2 := gI fun i j k => nfI (i - j) fun n => k (.int n)
def gMul : G2 := gI fun i j k => match smallI i with | true => nfI (i * j) fun n => k (.int n) | false => match smallI j with | true => nfI (i * j) fun n => k (.int n) | false => false
def gDiv : G2 := gI fun i j k => match posI j with | true => nfI (i / j) fun n => k (.int n) | false => false
def gMod : G2 := gI fun i j k => match posI j with | true => nfI (i % j) fun n => k (.int n) | false => false
def gLt : G2 := gI fun i j k => k (.bl (iLt i j))
def gGt : G2 := gI fun i j k => k (.bl (iLt j i))
def gLe : G2 := gI fun i j k => k (.bl (!iLt j i))
def gGe : G2 := gI fun i j k => k (.bl (!iLt i j))
theorem gI_ok {C : Int → Int → Prop} {g : Int → Int → (AV → Bool) → Bool} {f : Int → Int → AV} {fc : Int → Int → V} (h : ∀ i j k, g i j k = true → C i j ∧ k (f i j) = true) (hf : ∀ ι N i j, VRel ι N (f i j) (fc i j)) : GOk (gI g) (rI C fc) := fun ι N v u c d H Q k r1 r2 e p => by
  cases v with
  | int i => cases u with
    | int j =>
      obtain ⟨h1, h2⟩ := h i j k e
      exact ⟨i, j, r1, r2, h1, p _ _ (hf ι N i j) h2⟩
    | _ => cases e
  | _ => cases e
theorem gI0_ok {g : Int → Int → (AV → Bool) → Bool} {f : Int → Int → AV} {fc : Int → Int → V} (h : ∀ i j k, g i j k = true → k (f i j) = true) (hf : ∀ ι N i j, VRel ι N (f i j) (fc i j)) : GOk (gI g) (rI0 fc) := fun ι N v u c d H Q k r1 r2 e p => by
  cases v with
  | int i => cases u with
    | int j => exact ⟨i, j, r1, r2, p _ _ (hf ι N i j) (h i j k e)⟩
    | _ => cases e
  | _ => cases e
theorem ok_add : GOk gAdd (rI0 fun i j => .int (i + j)) := gI0_ok (f := fun i j => .int (i + j)) (fun i j k h => by rw [nfI_eq] at h; exact h) fun _ _ _ _ => rfl
theorem ok_sub : GOk gSub (rI0 fun i j => .int (i - j)) := gI0_ok (f := fun i j => .int (i - j)) (fun i j k h => by rw [nfI_eq] at h; exact h) fun _ _ _ _ => rfl
theorem ok_mul : GOk gMul (rI CMul fun i j => .int (i * j)) := gI_ok (f := fun i j => .int (i * j)) (fun i j k h => by
  split at h
  · rename_i q
    rw [nfI_eq] at h
    exact ⟨.inl (smallI_ok q), h⟩
  · split at h
    · rename_i q
      rw [nfI_eq] at h
      exact ⟨.inr (smallI_ok q), h⟩
    · cases h) fun _ _ _ _ => rfl
theorem ok_div : GOk gDiv (rI CDivW fun i j => .int (i / j)) := gI_ok (f := fun i j => .int (i / j)) (fun i j k h => by
  split at h
  · rename_i q
    rw [nfI_eq] at h
    obtain ⟨q1, q2⟩ := posI_ok q
    exact ⟨wide_div (b := 64) q1 (by omega) (by decide) (by decide), h⟩
  · cases h) fun _ _ _ _ => rfl
theorem ok_mod : GOk gMod (rI (fun _ j => 0 < j) fun i j => .int (i % j)) := gI_ok (f := fun i j => .int (i % j)) (fun i j k h => by
  split at h
  · rename_i q
    rw [nfI_eq] at h
    exact ⟨(posI_ok q).1, h⟩
  · cases h) fun _ _ _ _ => rfl
theorem ok_lt : GOk gLt (rI0 fun i j => .bl (decide (i < j))) := gI0_ok (f := fun i j => .bl (iLt i j)) (fun i j k h => h) fun _ _ i j => by show V.bl _ = V.bl _; rw [iLt_eq]
theorem ok_gt : GOk gGt (rI0 fun i j => .bl (decide (j < i))) := gI0_ok (f := fun i j => .bl (iLt j i)) (fun i j k h => h) fun _ _ i j => by show V.bl _ = V.bl _; rw [iLt_eq]
theorem not_lt_dec (i j : Int) : (!decide (j < i)) = decide (i ≤ j) := by
  rw [Bool.eq_iff_iff]
  simp
theorem ok_le : GOk gLe (rI0 fun i j => .bl (decide (i ≤ j))) := gI0_ok (f := fun i j => .bl (!iLt j i)) (fun i j k h => h) fun _ _ i j => by show V.bl _ = V.bl _; rw [iLt_eq, not_lt_dec]
theorem ok_ge : GOk gGe (rI0 fun i j => .bl (decide (j ≤ i))) := gI0_ok (f := fun i j => .bl (!iLt i j)) (fun i j k h => h) fun _ _ i j => by show V.bl _ = V.bl _; rw [iLt_eq, not_lt_dec]
/-! ### == of numbers and texts -/
theorem strT_inj : ∀ n, n < 10 → ∀ m, m < 10 → (strT n = strT m ↔ n = m) := by decide +kernel
def gEqB (b : Bool → Bool) : G2 := fun v u k => match v, u with
  | .int i, .int j => k (.bl (b (iEq i j)))
  | .str n, .str m => match Nat.blt n 10 with
    | true => match Nat.blt m 10 with
      | true => k (.bl (b (Nat.beq n m)))
      | false => false
    | false => false
  | _, _ => false
def gEq : G2 := gEqB id
def gNe : G2 := gEqB not
theorem gEqB_ok (b : Bool → Bool) : GOk (gEqB b) (fun x y H Q => scal x y = true ∧ Q (.bl (b (decide (x = y)))) H) := fun ι N v u c d H Q k r1 r2 e p => by
  cases v with
  | int i => cases u with
    | int j =>
      cases (show c = .int i from r1)
      cases (show d = .int j from r2)
      refine ⟨rfl, p (.bl (b (iEq i j))) _ ?_ e⟩
      show V.bl _ = V.bl _
      rw [iEq_eq]
      congr 2
      rw [Bool.eq_iff_iff]
      simp
    | _ => cases e
  | str n => cases u with
    | str m =>
      cases (show c = .str (strT n) from r1)
      cases (show d = .str (strT m) from r2)
      unfold gEqB at e
      simp only at e
      split at e
      · rename_i h1
        split at e
        · rename_i h2
          refine ⟨rfl, p (.bl (b (Nat.beq n m))) _ ?_ e⟩
          show V.bl _ = V.bl _
          congr 2
          rw [Bool.eq_iff_iff, decide_eq_true_iff]
          have z := strT_inj n (blt_lt h1) m (blt_lt h2)
          exact ⟨fun q => (by rw [z.mp (V.str.inj q)]; exact Nat.beq_refl m), fun q => (by rw [Nat.eq_of_beq_eq_true q])⟩
        · cases e
      · cases e
    | _ => cases e
  | _ => cases e
theorem ok_eq : GOk gEq rEq := gEqB_ok id
theorem ok_ne : GOk gNe rNe := gEqB_ok not
/-! ### objects -/
def atO (h : AH) (v : AV) (k : AO → Bool) : Bool := match v with
  | .ref n => match getO h n with | some o => k o | none => false
  | _ => false
/-- the items of a list or a tuple -/
def seqO (h : AH) (v : AV) (k : List AV → Bool) : Bool := match v with
  | .ref n => match getO h n with | some (.lst xs) => k xs | some (.tup xs) => k xs | some (.ptup xs) => k xs | _ => false
  | _ => false
theorem seqO_ok {G : GE} {ι : Nat → Addr} {h : AH} {H : Hp} {v : AV} {c : V} {k : List AV → Bool} (r : HRel G ι h H) (vr : VRel ι h.length v c) (e : seqO h v k = true) :
    ∃ n xs cs, v = .ref n ∧ c = .ref (ι n) ∧ VsRel ι h.length xs cs ∧ k xs = true ∧ ((h[n]? = some (.lst xs) ∧ H (ι n) = some (.lst cs)) ∨ (h[n]? ≠ some (.lst xs) ∧ Rd H (ι n) (.tup cs))) := by
  cases v with
  | ref n =>
    unfold seqO at e
    simp only [getO_eq] at e
    split at e
    · rename_i xs q
      obtain ⟨cs, e1, e2⟩ := r.obj n _ q
      exact ⟨n, xs, cs, rfl, vr.2, e2, e, .inl ⟨q, e1⟩⟩
    · rename_i xs q
      obtain ⟨cs, e1, e2⟩ := r.obj n _ q
      exact ⟨n, xs, cs, rfl, vr.2, e2, e, .inr ⟨by rw [q]; simp, .inl e1⟩⟩
    · rename_i xs q
      obtain ⟨cs, o, e1, d, e2⟩ := r.obj n _ q
      exact ⟨n, xs, cs, rfl, vr.2, e2, e, .inr ⟨by rw [q]; simp, .inr ⟨o, e1⟩⟩⟩
    · cases e
  | _ => cases e
theorem sq_or {K : PySem.W.Frag} {H : Hp} {a : Addr} {cs : List V} {P R : Prop} (h : (P ∧ H a = some (.lst cs)) ∨ (R ∧ Rd H a (.tup cs))) : SqL K H a cs ∨ SqT K H a cs := h.imp (fun q => SqL.of q.2) fun q => .inl q.2
def newK (o : AO) (h : AH) (k : KV) : Bool := appK h [o] fun h' => nfN (lenN h) fun n => k (.ref n) h'
theorem newK_eq (o : AO) (h : AH) (k : KV) : newK o h k = k (.ref h.length) (h ++ [o]) := by unfold newK; rw [appK_eq, nfN_eq, lenN_eq]
def newL (xs : List AV) (h : AH) (k : KV) : Bool := match Nat.ble (lenN xs) 1000 with | true => newK (.lst xs) h k | false => false
def newP (xs : List AV) (h : AH) (k : KV) : Bool := match Nat.ble (lenN xs) 1000 with | true => newK (.ptup xs) h k | false => false
def newT (xs : List AV) (h : AH) (k : KV) : Bool := match Nat.ble (lenN xs) 1000 with | true => newK (.tup xs) h k | false => false
theorem line1000 {n : Nat} (h : n ≤ 1000) : n ≤ sizeLine := Nat.le_trans h (by decide)
theorem newL_ok {xs : List AV} {h : AH} {k : KV} (e : newL xs h k = true) : xs.length ≤ 1000 ∧ k (.ref h.length) (h ++ [.lst xs]) = true := by
  unfold newL at e
  split at e
  · rename_i q
    rw [lenN_eq] at q
    rw [newK_eq] at e
    exact ⟨Nat.le_of_ble_eq_true q, e⟩
  · cases e
theorem newP_ok {xs : List AV} {h : AH} {k : KV} (e : newP xs h k = true) : xs.length ≤ 1000 ∧ k (.ref h.length) (h ++ [.ptup xs]) = true := by
  unfold newP at e
  split at e
  · rename_i q
    rw [lenN_eq] at q
    rw [newK_eq] at e
    exact ⟨Nat.le_of_ble_eq_true q, e⟩
  · cases e
theorem newT_ok {xs : List AV} {h : AH} {k : KV} (e : newT xs h k = true) : xs.length ≤ 1000 ∧ k (.ref h.length) (h ++ [.tup xs]) = true := by
  unfold newT at e
  split at e
  · rename_i q
    rw [lenN_eq] at q
    rw [newK_eq] at e
    exact ⟨Nat.le_of_ble_eq_true q, e⟩
  · cases e
/-- what follows a new list, a new tuple -/
theorem after_newL {G : GE} {ι : Nat → Addr} {h : AH} {H : Hp} {xs : List AV} {cs : List V} {k : KV} {Q : VK} (r : HRel G ι h H) (q : VsRel ι h.length xs cs) (e : newL xs h k = true) (p : ∀ ι' h' H' w z, Stp G ι h H ι' h' H' → VRel ι' h'.length w z → k w h' = true → Q z H') :
    cs.length ≤ 1000 ∧ ∀ a, H a = none → Q (.ref a) (upd H a (.lst cs)) := by
  obtain ⟨e1, e2⟩ := newL_ok e
  exact ⟨by rw [← q.length]; exact e1, fun a ha => p _ _ _ _ _ (Stp.newL r ha q) VRel.new e2⟩
theorem after_newT {G : GE} {ι : Nat → Addr} {h : AH} {H : Hp} {xs : List AV} {cs : List V} {k : KV} {Q : VK} (r : HRel G ι h H) (q : VsRel ι h.length xs cs) (e : newT xs h k = true) (p : ∀ ι' h' H' w z, Stp G ι h H ι' h' H' → VRel ι' h'.length w z → k w h' = true → Q z H') :
    cs.length ≤ 1000 ∧ ∀ a, H a = none → Q (.ref a) (upd H a (.tup cs)) := by
  obtain ⟨e1, e2⟩ := newT_ok e
  exact ⟨by rw [← q.length]; exact e1, fun a ha => p _ _ _ _ _ (Stp.newT r ha q) VRel.new e2⟩
theorem after_newP {G : GE} {ι : Nat → Addr} {h : AH} {H : Hp} {xs : List AV} {cs : List V} {k : KV} {Q : VK} (r : HRel G ι h H) (q : VsRel ι h.length xs cs) (e : newP xs h k = true) (p : ∀ ι' h' H' w z, Stp G ι h H ι' h' H' → VRel ι' h'.length w z → k w h' = true → Q z H') :
    cs.length ≤ 1000 ∧ ∀ a (o : Obj), H a = none → o.dict = none → Q (.ref a) (upd H a (.frz o (.tup cs))) := by
  obtain ⟨e1, e2⟩ := newP_ok e
  exact ⟨by rw [← q.length]; exact e1, fun a o ha d => p _ _ _ _ _ (Stp.newP r ha q d) VRel.new e2⟩
theorem VsRel.get {ι : Nat → Addr} {N : Nat} : ∀ {xs : List AV} {cs : List V} {n : Nat} {v : AV}, VsRel ι N xs cs → xs[n]? = some v → ∃ c, cs[n]? = some c ∧ VRel ι N v c
  | _, _, _, _, .nil, q => by simp at q
  | _, _, 0, _, .cons r _, e => by simp at e; subst e; exact ⟨_, by simp, r⟩
  | _, _, n + 1, v, .cons _ t, e => by
    obtain ⟨c, e1, e2⟩ := VsRel.get (n := n) (v := v) t (by simpa using e)
    exact ⟨c, by simpa using e1, e2⟩
theorem VsRel.app {ι : Nat → Addr} {N : Nat} : ∀ {xs ys : List AV} {cs ds : List V}, VsRel ι N xs cs → VsRel ι N ys ds → VsRel ι N (xs ++ ys) (cs ++ ds)
  | _, _, _, _, .nil, q => q
  | _, _, _, _, .cons r t, q => .cons r (VsRel.app t q)
theorem VsRel.set {ι : Nat → Addr} {N : Nat} {v : AV} {c : V} (q : VRel ι N v c) : ∀ {xs : List AV} {cs : List V} (n : Nat), VsRel ι N xs cs → VsRel ι N (xs.set n v) (cs.set n c)
  | _, _, _, .nil => .nil
  | _, _, 0, .cons _ t => .cons q t
  | _, _, n + 1, .cons r t => .cons r (VsRel.set q n t)
theorem VsRel.take {ι : Nat → Addr} {N : Nat} : ∀ {xs : List AV} {cs : List V} (n : Nat), VsRel ι N xs cs → VsRel ι N (xs.take n) (cs.take n)
  | _, _, 0, _ => by simp; exact .nil
  | _, _, _ + 1, .nil => .nil
  | _, _, n + 1, .cons r t => .cons r (VsRel.take n t)
theorem VsRel.drop {ι : Nat → Addr} {N : Nat} : ∀ {xs : List AV} {cs : List V} (n : Nat), VsRel ι N xs cs → VsRel ι N (xs.drop n) (cs.drop n)
  | _, _, 0, r => by simpa using r
  | _, _, _ + 1, .nil => .nil
  | _, _, n + 1, .cons _ t => by simpa using VsRel.drop n t
theorem VsRel.rev {ι : Nat → Addr} {N : Nat} : ∀ {xs : List AV} {cs : List V}, VsRel ι N xs cs → VsRel ι N xs.reverse cs.reverse
  | _, _, .nil => .nil
  | _, _, .cons r t => by rw [List.reverse_cons, List.reverse_cons]; exact VsRel.app (VsRel.rev t) (.cons r .nil)
/-! ### [a, b], (a, b) -/
def fLst (r : FA) : FE := fun σ h k x => r σ h (fun vs h => newL vs h k) x
def fTup (r : FA) : FE := fun σ h k x => r σ h (fun vs h => newP vs h k) x
/-- a written tuple, its object told -/
def tTupP (t : TA) : TE := fun σ H Q => t σ H fun xs H1 => xs.length ≤ sizeLine ∧ ∀ (p : Addr) (o : Obj), H1 p = none → o.dict = none → Q (.ref p) (upd H1 p (.frz o (.tup xs)))
theorem pe_tupP {X : Cx} {es : List Expr} {t : TA} {n : Nat} {pos : Pos} (ht : PA X es t) : PE X (.Tuple es n pos) (tTupP t) := ⟨fun pins s σ H Q I hq => by
  have main := ht.run pos pins s σ H _ I hq
  refine wpAny_Tuple_spliced (wpAny_mono main (fun us s1 w => ?_) fun _ _ x => x)
  obtain ⟨xs, H1, I1, r, z, q⟩ := w
  refine ⟨(by have := r.length; omega), V.ref s1.heap.objs.size, upd H1 s1.heap.objs.size (.frz { cls := .type "tuple", data := .seq us.toArray } (.tup xs)), ?_, rfl, q _ _ (I1.hok.fresh (Nat.le_refl _)) rfl⟩
  have new := Heap.get?_push_size s1.heap (o := { cls := .type "tuple", data := .seq us.toArray }) rfl
  exact I1.laid (t' := s1.toks) (fun b u e => Heap.get?_push_of_some _ e) (Nat.le_refl _) ⟨new, z, us, r, _, new, rfl, _, rfl⟩⟩
section
variable {X : Cx} {G : GE} {E : XK} {a b : Expr} {fa fb : FE} {pos : Pos} {es : List Expr} {fr : FA}
theorem s_lst (ha : SA X G E es fr) : SE X G E (.List es pos) (fLst fr) := PE.imp (pe_lst ha) fun σc H Q ⟨ι, σ, h, A⟩ => ⟨ι, σ, h, A.bind (f := fr) (g := fun vs σ h k x => newL vs h k) fun ι1 h1 H1 vs cs s1 v1 A1 => by
  obtain ⟨s, r, k, x, e, P⟩ := A1
  obtain ⟨q1, q2⟩ := after_newL r v1 e P.ok
  exact ⟨line1000 q1, q2⟩⟩
theorem s_tup {x1} (ha : SA X G E es fr) : SE X G E (.Tuple es x1 pos) (fTup fr) := PE.imp (pe_tupP ha) fun σc H Q ⟨ι, σ, h, A⟩ => ⟨ι, σ, h, A.bind (f := fr) (g := fun vs σ h k x => newP vs h k) fun ι1 h1 H1 vs cs s1 v1 A1 => by
  obtain ⟨s, r, k, x, e, P⟩ := A1
  obtain ⟨q1, q2⟩ := after_newP r v1 e P.ok
  exact ⟨line1000 q1, q2⟩⟩
/-- *e -/
def fStar (f : FE) (r : FA) : FA := fun σ h k x => f σ h (fun v h => seqO h v fun ys => r σ h (fun vs h => appK ys vs fun zs => k zs h) x) x
theorem s_star {e : Expr} {p : Pos} {f : FE} (hK : X.K = G.K) (ha : SE X G E e f) (hr : SA X G E es fr) (hs : starEach (.Starred e p :: es) X.env = (true, eval e X.env) :: starEach es X.env := by rfl) : SA X G E (.Starred e p :: es) (fStar f fr) := PA.imp (StX.pa_star ha hr hs) fun σc H Q ⟨ι, σ, h, A⟩ =>
  ⟨ι, σ, h, A.bind (f := f) (g := fun v σ h k x => seqO h v fun ys => fr σ h (fun vs h => appK ys vs fun zs => k zs h) x) fun ι1 h1 H1 v c s1 v1 A1 => by
    obtain ⟨s, r, k, x, e, P⟩ := A1
    obtain ⟨n, xs, cs, rfl, rfl, q1, q2, q3⟩ := seqO_ok r v1 e
    refine ⟨ι1 n, cs, rfl, (sq_or q3).symm, ι1, σ, h1, At.bind (f := fr) (g := fun vs σ h k x => appK xs vs fun zs => k zs h) ⟨s, r, k, x, q2, P⟩ fun ι2 h2 H2 vs ds s2 v2 A2 => ?_⟩
    exact (A2.eq (f' := fun _ h k _ => k (xs ++ vs) h) fun k x => appK_eq _ _ _).ret (VsRel.app (s2.vsr q1) v2)⟩
/-! ### names, constants -/
theorem s_var (i : Nat) {x : Str} (hN : X.N[i]? = some x := by rfl) (hv : Vis X.env.scope x := by first | exact Or.inl rfl | exact Or.inr (Or.inl rfl) | exact Or.inr (Or.inr rfl)) (hd : (x == ("__debug__" : Str)) = false := by decide)
    (hcd : (x == ("__classdict__" : Str)) = false := by decide) : SE X G E (.Name x pos) (fVar i) := s_varP (pe_var hN hv hd hcd)
theorem s_int {i : Int} {j : Nat} : SE X G E (.Constant (.int i) j pos) (fC (.int i)) := s_const pe_int fun _ _ => rfl
theorem s_bl {b : Bool} {j : Nat} : SE X G E (.Constant (.bool b) j pos) (fC (.bl b)) := s_const pe_bl fun _ _ => rfl
theorem s_non {j : Nat} : SE X G E (.Constant .none j pos) (fC .non) := s_const pe_non fun _ _ => rfl
theorem s_str (n : Nat) {x : Str} {j : Nat} (hx : x = strT n := by rfl) : SE X G E (.Constant (.str x) j pos) (fC (.str n)) := s_const pe_str fun _ _ => by rw [hx]; rfl
theorem s_glob (i : Int) {x : Str} {t : Tok} (hm : X.mg x = some (.int i t)) (hg : Gl X x := by rfl) (hd : (x == ("__debug__" : Str)) = false := by decide) : SE X G E (.Name x pos) (fC (.int i)) := s_const (pe_glob (v := .int i) hg hm ⟨_, rfl⟩ hd) fun _ _ => rfl
/-! ### operators -/
theorem s_add (ha : SE X G E a fa) (hb : SE X G E b fb) : SE X G E (.BinOp a .Add b pos) (fOpH (lift2 gAdd) fa fb) := s_opH (fun _ _ p q => pe_op op_add p q) ha hb ok_add.h
theorem s_sub (ha : SE X G E a fa) (hb : SE X G E b fb) : SE X G E (.BinOp a .Sub b pos) (fOpH (lift2 gSub) fa fb) := s_opH (fun _ _ p q => pe_op op_sub p q) ha hb ok_sub.h
theorem s_mul (ha : SE X G E a fa) (hb : SE X G E b fb) : SE X G E (.BinOp a .Mult b pos) (fOpH (lift2 gMul) fa fb) := s_opH (fun _ _ p q => pe_op op_mul p q) ha hb ok_mul.h
theorem s_div (ha : SE X G E a fa) (hb : SE X G E b fb) : SE X G E (.BinOp a .FloorDiv b pos) (fOpH (lift2 gDiv) fa fb) := s_opH (fun _ _ p q => pe_op op_fdivW p q) ha hb ok_div.h
theorem s_mod (ha : SE X G E a fa) (hb : SE X G E b fb) : SE X G E (.BinOp a .Mod b pos) (fOpH (lift2 gMod) fa fb) := s_opH (fun _ _ p q => pe_op op_mod p q) ha hb ok_mod.h
def gNeg : AV → (AV → Bool) → Bool := fun v k => match v with | .int i => nfI (-i) fun n => k (.int n) | _ => false
theorem s_neg (ha : SE X G E a fa) : SE X G E (.UnaryOp .USub a pos) (fUn gNeg fa) := s_un (fun _ p => pe_un un_neg p) ha fun ι N v c H Q k r e p => by
  cases v with
  | int i =>
    unfold gNeg at e
    simp only [nfI_eq] at e
    exact ⟨i, r, p (.int (-i)) _ rfl e⟩
  | _ => cases e
/-- the comparisons by their operator -/
structure CmpR (X : Cx) (G : GE) (op : CmpOp) (g : AV → AV → AH → KV → Bool) : Prop where
  ex : ∃ r, OpR X (compareOp op) r ∧ HOk G g r
theorem c_lt : CmpR X G .Lt (lift2 gLt) := ⟨_, op_lt, ok_lt.h⟩
theorem c_le : CmpR X G .LtE (lift2 gLe) := ⟨_, op_le, ok_le.h⟩
theorem c_gt : CmpR X G .Gt (lift2 gGt) := ⟨_, op_gt, ok_gt.h⟩
theorem c_ge : CmpR X G .GtE (lift2 gGe) := ⟨_, op_ge, ok_ge.h⟩
theorem c_eq : CmpR X G .Eq (lift2 gEq) := ⟨_, op_eq, ok_eq.h⟩
theorem c_ne : CmpR X G .NotEq (lift2 gNe) := ⟨_, op_ne, ok_ne.h⟩
theorem s_cmp {op : CmpOp} {g : AV → AV → AH → KV → Bool} (c : CmpR X G op g) (ha : SE X G E a fa) (hb : SE X G E b fb) (hm : behindInMarks op b = false := by exact nomark _) : SE X G E (.Compare a [op] [b] pos) (fOpH g fa fb) := by
  obtain ⟨r, h1, h2⟩ := c.ex
  exact s_opH (fun _ _ p q => pe_cmpR h1 p q hm) ha hb h2
theorem t_cmp {op : CmpOp} {g : AV → AV → AH → KV → Bool} (c : CmpR X G op g) (ha : SE X G E a fa) (hb : SE X G E b fb) (hm : behindInMarks op b = false := by exact nomark _) : ST X G E (.Compare a [op] [b] pos) (fTest (fOpH g fa fb)) := by
  obtain ⟨r, h1, h2⟩ := c.ex
  exact s_testH (fun _ _ p q => pt_cmpR h1 p q hm) ha hb h2
/-- a <= b <= c -/
def fChain (g g' : G2) (a b c : FE) : FE := fun σ h k x => a σ h (fun v h => b σ h (fun u h => g v u fun w => match w with
  | .bl true => c σ h (fun z h => g' u z fun w => k w h) x
  | .bl false => k (.bl false) h
  | _ => false) x) x
end
end AIx
namespace AIx
open PySem L2
/-! ### and, or, not, if-else, chains -/
def fAndV (a b : FE) : FE := fun σ h k x => a σ h (fun v h => match v with | .bl true => b σ h k x | .bl false => k (.bl false) h | _ => false) x
def fOrV (a b : FE) : FE := fun σ h k x => a σ h (fun v h => match v with | .bl false => b σ h k x | .bl true => k (.bl true) h | _ => false) x
def fNotV (a : FE) : FE := fun σ h k x => a σ h (fun v h => match v with | .bl b => k (.bl (!b)) h | _ => false) x
def fAndT (a b : FT) : FT := fun σ h k x => a σ h (fun v h => match v with | true => b σ h k x | false => k false h) x
def fOrT (a b : FT) : FT := fun σ h k x => a σ h (fun v h => match v with | true => k true h | false => b σ h k x) x
def fNotT (a : FT) : FT := fun σ h k x => a σ h (fun v h => k (!v) h) x
def fIf (t : FT) (a b : FE) : FE := fun σ h k x => t σ h (fun v h => match v with | true => a σ h k x | false => b σ h k x) x
section
variable {X : Cx} {G : GE} {E : XK} {a b c : Expr} {fa fb fc : FE} {ta tb : FT} {pos : Pos} {rest : List Expr}
theorem s_one {op} (h : SE X G E a fa) : SE X G E (.BoolOp op [a] pos) fa := pe_one h
theorem s_and (ha : SE X G E a fa) (hb : SE X G E (.BoolOp .And (b :: rest) pos) fb) : SE X G E (.BoolOp .And (a :: b :: rest) pos) (fAndV fa fb) := PE.imp (pe_and ha hb) fun σc H Q ⟨ι, σ, h, A⟩ =>
  ⟨ι, σ, h, A.bind (f := fa) (g := fun (v : AV) σ h k x => match v with | .bl true => fb σ h k x | .bl false => k (.bl false) h | _ => false) fun ι1 h1 H1 v c s1 v1 A1 => by
    cases v with
    | bl b =>
      refine ⟨b, v1, ?_⟩
      cases b with
      | true => exact ⟨ι1, σ, h1, A1⟩
      | false => exact A1.ret (VR := VRel) (a := AV.bl false) rfl
    | _ => exact A1.no⟩
theorem s_or (ha : SE X G E a fa) (hb : SE X G E (.BoolOp .Or (b :: rest) pos) fb) : SE X G E (.BoolOp .Or (a :: b :: rest) pos) (fOrV fa fb) := PE.imp (pe_or ha hb) fun σc H Q ⟨ι, σ, h, A⟩ =>
  ⟨ι, σ, h, A.bind (f := fa) (g := fun (v : AV) σ h k x => match v with | .bl false => fb σ h k x | .bl true => k (.bl true) h | _ => false) fun ι1 h1 H1 v c s1 v1 A1 => by
    cases v with
    | bl b =>
      refine ⟨b, v1, ?_⟩
      cases b with
      | true => exact A1.ret (VR := VRel) (a := AV.bl true) rfl
      | false => exact ⟨ι1, σ, h1, A1⟩
    | _ => exact A1.no⟩
theorem s_not (ha : SE X G E a fa) : SE X G E (.UnaryOp .Not a pos) (fNotV fa) := PE.imp (pe_not ha) fun σc H Q ⟨ι, σ, h, A⟩ =>
  ⟨ι, σ, h, A.bind (f := fa) (g := fun (v : AV) (σ : AS) (h : AH) (k : KV) (x : KX) => match v with | .bl b => k (.bl (!b)) h | _ => false) fun ι1 h1 H1 v c s1 v1 A1 => by
    cases v with
    | bl b => exact ⟨b, v1, A1.ret (VR := VRel) (a := AV.bl (!b)) rfl⟩
    | _ => exact A1.no⟩
theorem w_and1 (h : ST X G E a ta) : SW X G E (.BoolOp .And [a] pos) ta := pw_and1 h
theorem w_or1 (h : ST X G E a ta) : SW X G E (.BoolOp .Or [a] pos) ta := pw_or1 h
theorem w_and (ha : ST X G E a ta) (hb : SW X G E (.BoolOp .And (b :: rest) pos) tb) : SW X G E (.BoolOp .And (a :: b :: rest) pos) (fAndT ta tb) := PW.imp (pw_and ha hb) fun σc H Q ⟨ι, σ, h, A⟩ =>
  ⟨ι, σ, h, A.bind (f := ta) (g := fun v σ h k x => match v with | true => tb σ h k x | false => k false h) fun ι1 h1 H1 v c s1 v1 A1 => by
    cases v1
    cases v with
    | true => exact ⟨ι1, σ, h1, A1⟩
    | false => exact A1.ret rfl⟩
theorem w_or (ha : ST X G E a ta) (hb : SW X G E (.BoolOp .Or (b :: rest) pos) tb) : SW X G E (.BoolOp .Or (a :: b :: rest) pos) (fOrT ta tb) := PW.imp (pw_or ha hb) fun σc H Q ⟨ι, σ, h, A⟩ =>
  ⟨ι, σ, h, A.bind (f := ta) (g := fun v σ h k x => match v with | true => k true h | false => tb σ h k x) fun ι1 h1 H1 v c s1 v1 A1 => by
    cases v1
    cases v with
    | true => exact A1.ret rfl
    | false => exact ⟨ι1, σ, h1, A1⟩⟩
theorem t_w {e : Expr} (h : SW X G E e ta) : ST X G E e ta := PW.pt h
theorem t_not (ha : ST X G E a ta) : ST X G E (.UnaryOp .Not a pos) (fNotT ta) := PT.imp (pt_not ha) fun σc H Q ⟨ι, σ, h, A⟩ =>
  ⟨ι, σ, h, A.bind (f := ta) (g := fun v σ h k x => k (!v) h) fun ι1 h1 H1 v c s1 v1 A1 => by
    cases v1
    exact A1.ret rfl⟩
theorem s_if (ht : ST X G E c ta) (ha : SE X G E a fa) (hb : SE X G E b fb) : SE X G E (.IfExp c a b pos) (fIf ta fa fb) := PE.imp (pe_ifExp ht ha hb) fun σc H Q ⟨ι, σ, h, A⟩ =>
  ⟨ι, σ, h, A.bind (f := ta) (g := fun v σ h k x => match v with | true => fa σ h k x | false => fb σ h k x) fun ι1 h1 H1 v c s1 v1 A1 => by
    cases v1
    cases v with
    | true => exact ⟨ι1, σ, h1, A1⟩
    | false => exact ⟨ι1, σ, h1, A1⟩⟩
theorem gOk_bl {g : G2} {r : R2} (h : GOk g r) {ι : Nat → Addr} {N : Nat} {v u : AV} {c d : V} {H : Hp} {Q : VK} {k : AV → Bool} (r1 : VRel ι N v c) (r2 : VRel ι N u d) (e : g v u k = true) (p : ∀ w z, VRel ι N w z → k w = true → Q z H) : r c d H Q := h ι N v u c d H Q k r1 r2 e p
theorem chain_imp {g g' : G2} {r r' : R2} (h : GOk g r) (h' : GOk g' r') {σc : St} {H : Hp} {Q : VK} (q : rdE G E (fChain g g' fa fb fc) σc H Q) : tChain r r' (rdE G E fa) (rdE G E fb) (rdE G E fc) σc H Q := by
  obtain ⟨ι, σ, hh, A⟩ := q
  refine ⟨ι, σ, hh, A.bind (f := fa) (g := fun v σ h k x => fb σ h (fun u h => g v u fun w => match w with
    | .bl true => fc σ h (fun z h => g' u z fun w => k w h) x
    | .bl false => k (.bl false) h
    | _ => false) x) fun ι1 h1 H1 v c s1 v1 A1 => ⟨ι1, σ, h1, A1.bind (f := fb) (g := fun u σ h k x => g v u fun w => match w with
    | .bl true => fc σ h (fun z h => g' u z fun w => k w h) x
    | .bl false => k (.bl false) h
    | _ => false) fun ι2 h2 H2 u d s2 v2 A2 => ?_⟩⟩
  obtain ⟨s, rr, k, x, e, P⟩ := A2
  refine h ι2 h2.length v u c d H2 _ _ (s2.vr v1) v2 e fun w z vr kw => ?_
  cases w with
  | bl b =>
    refine ⟨b, vr, ?_⟩
    cases b with
    | false => exact P.ok _ _ _ (AV.bl false) _ (.refl rr) rfl kw
    | true =>
      show rdE G E fc σc H2 _
      refine ⟨ι2, σ, h2, At.bind (f := fc) (g := fun z σ h k x => g' u z fun w => k w h) ⟨s, rr, k, x, kw, P⟩ fun ι3 h3 H3 y t s3 v3 A3 => ?_⟩
      obtain ⟨s', rr', k', x', e', P'⟩ := A3
      exact h' ι3 h3.length u y d t H3 Q _ (s3.vr v2) v3 e' fun w z vr kw => P'.ok _ _ _ _ _ (.refl rr') vr kw
  | _ => cases kw
theorem s_chain {op op' : CmpOp} {g g' : G2} (h : ∃ r, OpR X (compareOp op) r ∧ GOk g r) (h' : ∃ r, OpR X (compareOp op') r ∧ GOk g' r) (ha : SE X G E a fa) (hb : SE X G E b fb) (hc : SE X G E c fc)
    (hm : lastMarks [op, op'] [b, c] = false := by with_unfolding_all rfl) : SE X G E (.Compare a [op, op'] [b, c] pos) (fChain g g' fa fb fc) := by
  obtain ⟨r, o1, o2⟩ := h
  obtain ⟨r', o3, o4⟩ := h'
  exact PE.imp (pe_chain o1 o3 ha hb hc hm) fun σc H Q q => chain_imp o2 o4 q
theorem t_chain {op op' : CmpOp} {g g' : G2} (h : ∃ r, OpR X (compareOp op) r ∧ GOk g r) (h' : ∃ r, OpR X (compareOp op') r ∧ GOk g' r) (ha : SE X G E a fa) (hb : SE X G E b fb) (hc : SE X G E c fc)
    (hm : lastMarks [op, op'] [b, c] = false := by with_unfolding_all rfl) : ST X G E (.Compare a [op, op'] [b, c] pos) (fTest (fChain g g' fa fb fc)) := by
  obtain ⟨r, o1, o2⟩ := h
  obtain ⟨r', o3, o4⟩ := h'
  exact PT.imp (pt_chain o1 o3 ha hb hc hm) fun σc H Q q => chain_imp o2 o4 (test_imp q)
theorem x_le : ∃ r, OpR X (compareOp .LtE) r ∧ GOk gLe r := ⟨_, op_le, ok_le⟩
end
/-! ### built-ins -/
def intsOf : List AV → Option (List Int)
  | [] => some []
  | .int i :: r => match intsOf r with | some l => some (i :: l) | none => none
  | _ => none
theorem intsOf_ok {ι : Nat → Addr} {N : Nat} : ∀ {xs : List AV} {cs : List V} {l : List Int}, VsRel ι N xs cs → intsOf xs = some l → cs = l.map V.int
  | [], _, _, .nil, e => by cases e; rfl
  | x :: r, _, _, .cons a b, e => by
    unfold intsOf at e
    split at e
    · rename_i h; cases h
    · rename_i i r' h
      cases h
      split at e
      · rename_i l' h2
        cases e
        have := intsOf_ok b h2
        rw [this, show _ = V.int i from a]
        rfl
      · cases e
    · cases e
def blsOf : List AV → Option (List Bool)
  | [] => some []
  | .bl i :: r => match blsOf r with | some l => some (i :: l) | none => none
  | _ => none
theorem blsOf_ok {ι : Nat → Addr} {N : Nat} : ∀ {xs : List AV} {cs : List V} {l : List Bool}, VsRel ι N xs cs → blsOf xs = some l → cs = l.map V.bl
  | [], _, _, .nil, e => by cases e; rfl
  | x :: r, _, _, .cons a b, e => by
    unfold blsOf at e
    split at e
    · rename_i h; cases h
    · rename_i i r' h
      cases h
      split at e
      · rename_i l' h2
        cases e
        have := blsOf_ok b h2
        rw [this, show _ = V.bl i from a]
        rfl
      · cases e
    · cases e
def sumK : List Int → Int → (Int → Bool) → Bool
  | [], a, k => k a
  | i :: r, a, k => nfI (a + i) fun a => sumK r a k
theorem sumK_eq : ∀ (l : List Int) (a : Int) (k : Int → Bool), sumK l a k = k (a + l.sum)
  | [], a, k => by simp [sumK]
  | i :: r, a, k => by
    rw [sumK, nfI_eq, sumK_eq r, List.sum_cons]
    congr 1
    omega
/-- a call of one argument -/
def one (g : AV → AH → KV → Bool) : List AV → AH → KV → Bool := fun vs h k => match vs with | [v] => g v h k | _ => false
def two (g : AV → AV → AH → KV → Bool) : List AV → AH → KV → Bool := fun vs h k => match vs with | [v, u] => g v u h k | _ => false
def bLen : AV → AH → KV → Bool := fun v h k => seqO h v fun xs => nfN (lenN xs) fun n => k (.int (.ofNat n)) h
def bSum : AV → AH → KV → Bool := fun v h k => seqO h v fun xs => match intsOf xs with | some l => sumK l 0 fun n => k (.int n) h | none => false
def bAll : AV → AH → KV → Bool := fun v h k => seqO h v fun xs => match blsOf xs with | some l => k (.bl (l.all id)) h | none => false
def bAny : AV → AH → KV → Bool := fun v h k => seqO h v fun xs => match blsOf xs with | some l => k (.bl (l.any id)) h | none => false
def bMax : AV → AV → AH → KV → Bool := fun v u h k => match v, u with | .int i, .int j => (match iLt i j with | true => k (.int j) h | false => k (.int i) h) | _, _ => false
def bMin : AV → AV → AH → KV → Bool := fun v u h k => match v, u with | .int i, .int j => (match iLt j i with | true => k (.int j) h | false => k (.int i) h) | _, _ => false
def bAbs : AV → AH → KV → Bool := fun v h k => match v with | .int i => (match iLt i 0 with | true => nfI (-i) fun n => k (.int n) h | false => k (.int i) h) | _ => false
def bInt : AV → AH → KV → Bool := fun v h k => match v with | .int i => k (.int i) h | _ => false
def bTup : AV → AH → KV → Bool := fun v h k => match v with
  | .ref n => match getO h n with | some (.lst xs) => newT xs h k | some (.tup _) => k v h | some (.ptup _) => k v h | _ => false
  | _ => false
/-- what a built-in's rule asks, from what the run says -/
abbrev BOk (G : GE) (g : List AV → AH → KV → Bool) (r : List V → Hp → VK → Prop) : Prop := ∀ ι h H vs cs (Q : VK) (k : KV), HRel G ι h H → VsRel ι h.length vs cs → g vs h k = true → (∀ ι' h' H' w z, Stp G ι h H ι' h' H' → VRel ι' h'.length w z → k w h' = true → Q z H') → r cs H Q
theorem bok_one {G : GE} {g : AV → AH → KV → Bool} {r : List V → Hp → VK → Prop} (q : ∀ ι h H v c (Q : VK) (k : KV), HRel G ι h H → VRel ι h.length v c → g v h k = true → (∀ ι' h' H' w z, Stp G ι h H ι' h' H' → VRel ι' h'.length w z → k w h' = true → Q z H') → r [c] H Q) : BOk G (one g) r := fun ι h H vs cs Q k hr vr e p => by
  unfold one at e
  split at e
  · cases vr with
    | cons a b => cases b; exact q ι h H _ _ Q k hr a e p
  · cases e
theorem bok_two {G : GE} {g : AV → AV → AH → KV → Bool} {r : List V → Hp → VK → Prop} (q : ∀ ι h H v u c d (Q : VK) (k : KV), HRel G ι h H → VRel ι h.length v c → VRel ι h.length u d → g v u h k = true → (∀ ι' h' H' w z, Stp G ι h H ι' h' H' → VRel ι' h'.length w z → k w h' = true → Q z H') → r [c, d] H Q) : BOk G (two g) r := fun ι h H vs cs Q k hr vr e p => by
  unfold two at e
  split at e
  · cases vr with
    | cons a b =>
      cases b with
      | cons a2 b => cases b; exact q ι h H _ _ _ _ Q k hr a a2 e p
  · cases e
section
variable {X : Cx} {G : GE}
/-- sum of a list or a tuple of ints -/
def rSumA (K : PySem.W.Frag) : List V → Hp → VK → Prop := fun vs H Q => ∃ (a : Addr) (ns : List Int), vs = [V.ref a] ∧ (SqL K H a (ns.map V.int) ∨ SqT K H a (ns.map V.int)) ∧ Q (.int ns.sum) H
theorem cr_sumA (hc : X.calm = true) : CallR X (.builtin "sum") (rSumA X.K) := fun pins s σ H vs us Q I r w => by
  obtain ⟨a, ns, rfl, ho, q⟩ := w
  rcases ho with ho | ho
  · exact cr_sum hc pins s σ H _ us Q I r ⟨a, ns, rfl, ho, q⟩
  · obtain ⟨its, rv, ht, -⟩ := I.tuple ho
    rw [Vals.ref1 r]
    have hi := rv.ints
    obtain ⟨xs, hx⟩ := hi.allInts.items; have hn : numsOf (intItems xs).toList = ns := by rw [← hx]; exact hi.numsOf
    rw [nums_intItems] at hn
    rw [hx] at ht
    refine PySem.W.ktm_sumG (I.ok.hd hc) (show s.heap.IsTuple a (intItems xs) from ht) fun h' tk t' hk => ?_
    have e : preSum (numAt xs) xs.size = ns.sum := by rw [preSum_eq, List.take_of_length_le (by simp), hn]
    rw [e]
    exact ⟨.int ns.sum, H, I.kept hk, ⟨_, rfl⟩, q⟩
theorem o_len : BOk G (one bLen) (fun xs H Q => ∃ p ys, xs = [.ref p] ∧ (SqL G.K H p ys ∨ SqT G.K H p ys) ∧ Q (.int ys.length) H) := bok_one fun ι h H v c Q k hr vr e p => by
  obtain ⟨n, xs, cs, rfl, rfl, q1, q2, q3⟩ := seqO_ok hr vr e
  rw [nfN_eq, lenN_eq] at q2
  exact ⟨_, cs, rfl, sq_or q3, p _ _ _ _ _ (.refl hr) (by show V.int _ = V.int _; rw [← q1.length]; rfl) q2⟩
theorem o_sum : BOk G (one bSum) (rSumA G.K) := bok_one fun ι h H v c Q k hr vr e p => by
  obtain ⟨n, xs, cs, rfl, rfl, q1, q2, q3⟩ := seqO_ok hr vr e
  split at q2
  · rename_i l hl
    rw [sumK_eq, Int.zero_add] at q2
    have ec := intsOf_ok q1 hl
    subst ec
    exact ⟨_, l, rfl, sq_or q3, p _ _ _ (.int l.sum) _ (.refl hr) rfl q2⟩
  · cases q2
def isLst (h : AH) (v : AV) : Bool := match v with | .ref n => (match getO h n with | some (.lst _) => true | _ => false) | _ => false
def bAllL : AV → AH → KV → Bool := fun v h k => match isLst h v with | true => bAll v h k | false => false
def bAnyL : AV → AH → KV → Bool := fun v h k => match isLst h v with | true => bAny v h k | false => false
theorem isLst_ok {ι : Nat → Addr} {h : AH} {H : Hp} {v : AV} (e : isLst h v = true) : ∃ n xs, v = .ref n ∧ h[n]? = some (.lst xs) := by
  unfold isLst at e
  split at e
  · rename_i n
    rw [getO_eq] at e
    split at e
    · rename_i xs q
      exact ⟨n, xs, rfl, q⟩
    · cases e
  · cases e
theorem lst_only {G : GE} {ι : Nat → Addr} {h : AH} {H : Hp} {v : AV} {c : V} {k : List AV → Bool} (r : HRel G ι h H) (vr : VRel ι h.length v c) (e0 : isLst h v = true) (e : seqO h v k = true) : ∃ n xs cs, v = .ref n ∧ c = .ref (ι n) ∧ VsRel ι h.length xs cs ∧ k xs = true ∧ h[n]? = some (.lst xs) ∧ H (ι n) = some (.lst cs) := by
  obtain ⟨n, xs, e1, e2⟩ := isLst_ok (ι := ι) (H := H) e0
  subst e1
  obtain ⟨cs, q1, q2⟩ := r.obj n _ e2
  unfold seqO at e
  simp only [getO_eq, e2] at e
  exact ⟨n, xs, cs, rfl, vr.2, q2, e, e2, q1⟩
theorem o_all : BOk G (one bAllL) (rAll G.K) := bok_one fun ι h H v c Q k hr vr e p => by
  unfold bAllL at e
  split at e
  · rename_i hl
    obtain ⟨n, xs, cs, rfl, rfl, q1, q2, q3, q4⟩ := lst_only hr vr hl e
    split at q2
    · rename_i l hl
      have ec := blsOf_ok q1 hl
      subst ec
      exact ⟨_, l, rfl, SqL.of q4, p _ _ _ (.bl (l.all id)) _ (.refl hr) rfl q2⟩
    · cases q2
  · cases e
theorem o_any : BOk G (one bAnyL) (rAny G.K) := bok_one fun ι h H v c Q k hr vr e p => by
  unfold bAnyL at e
  split at e
  · rename_i hl
    obtain ⟨n, xs, cs, rfl, rfl, q1, q2, q3, q4⟩ := lst_only hr vr hl e
    split at q2
    · rename_i l hl
      have ec := blsOf_ok q1 hl
      subst ec
      exact ⟨_, l, rfl, SqL.of q4, p _ _ _ (.bl (l.any id)) _ (.refl hr) rfl q2⟩
    · cases q2
  · cases e
theorem o_max : BOk G (two bMax) (fun xs H Q => ∃ i j, xs = [.int i, .int j] ∧ Q (.int (if j > i then j else i)) H) := bok_two fun ι h H v u c d Q k hr v1 v2 e p => by
  unfold bMax at e
  split at e
  · rename_i i j
    cases (show c = .int i from v1)
    cases (show d = .int j from v2)
    refine ⟨i, j, rfl, ?_⟩
    split at e
    · rename_i q
      rw [iLt_eq, decide_eq_true_iff] at q
      rw [if_pos (show j > i from q)]
      exact p _ _ _ (.int j) _ (.refl hr) rfl e
    · rename_i q
      rw [iLt_eq, decide_eq_false_iff_not] at q
      rw [if_neg (show ¬ j > i from q)]
      exact p _ _ _ (.int i) _ (.refl hr) rfl e
  · cases e
theorem o_min : BOk G (two bMin) (fun xs H Q => ∃ i j, xs = [.int i, .int j] ∧ Q (.int (if j < i then j else i)) H) := bok_two fun ι h H v u c d Q k hr v1 v2 e p => by
  unfold bMin at e
  split at e
  · rename_i i j
    cases (show c = .int i from v1)
    cases (show d = .int j from v2)
    refine ⟨i, j, rfl, ?_⟩
    split at e
    · rename_i q
      rw [iLt_eq, decide_eq_true_iff] at q
      rw [if_pos q]
      exact p _ _ _ (.int j) _ (.refl hr) rfl e
    · rename_i q
      rw [iLt_eq, decide_eq_false_iff_not] at q
      rw [if_neg q]
      exact p _ _ _ (.int i) _ (.refl hr) rfl e
  · cases e
theorem o_abs : BOk G (one bAbs) (fun xs H Q => ∃ i, xs = [.int i] ∧ Q (.int (if i < 0 then -i else i)) H) := bok_one fun ι h H v c Q k hr v1 e p => by
  unfold bAbs at e
  split at e
  · rename_i i
    cases (show c = .int i from v1)
    refine ⟨i, rfl, ?_⟩
    split at e
    · rename_i q
      rw [iLt_eq, decide_eq_true_iff] at q
      rw [if_pos q]
      rw [nfI_eq] at e
      exact p _ _ _ (.int (-i)) _ (.refl hr) rfl e
    · rename_i q
      rw [iLt_eq, decide_eq_false_iff_not] at q
      rw [if_neg q]
      exact p _ _ _ (.int i) _ (.refl hr) rfl e
  · cases e
theorem o_tup : BOk G (one bTup) (fun xs H Q => ∃ p ys, xs = [.ref p] ∧ ((SqL G.K H p ys ∧ ∀ l, H l = none → Q (.ref l) (upd H l (.tup ys))) ∨ (SqT G.K H p ys ∧ Q (.ref p) H))) := bok_one fun ι h H v c Q k hr v1 e p => by
  unfold bTup at e
  split at e
  · rename_i n
    rw [getO_eq] at e
    cases (show c = .ref (ι n) from v1.2)
    split at e
    · rename_i xs q
      obtain ⟨cs, e1, e2⟩ := hr.obj n _ q
      exact ⟨_, cs, rfl, .inl ⟨SqL.of e1, (after_newT hr e2 e p).2⟩⟩
    · rename_i xs q
      obtain ⟨cs, e1, e2⟩ := hr.obj n _ q
      exact ⟨_, cs, rfl, .inr ⟨SqT.of e1, p _ _ _ (.ref n) _ (.refl hr) v1 e⟩⟩
    · rename_i xs q
      obtain ⟨cs, o, e1, d, e2⟩ := hr.obj n _ q
      exact ⟨_, cs, rfl, .inr ⟨.inl (.inr ⟨o, e1⟩), p _ _ _ (.ref n) _ (.refl hr) v1 e⟩⟩
    · cases e
  · cases e
end
end AIx
namespace AIx
open PySem L2
/-! ### items -/
def ixK (xs : List AV) (i : Int) (k : AV → Bool) : Bool := match i with
  | .ofNat n => match getO xs n with | some v => k v | none => false
  | .negSucc m => match Nat.blt m (lenN xs) with
    | true => match getO xs (lenN xs - (m + 1)) with | some v => k v | none => false
    | false => false
theorem ixK_ok {xs : List AV} {i : Int} {k : AV → Bool} (e : ixK xs i k = true) : ∃ j v, ixN xs.length i = some j ∧ xs[j]? = some v ∧ k v = true := by
  cases i with
  | ofNat n =>
    unfold ixK at e
    simp only [getO_eq] at e
    split at e
    · rename_i v hv
      have hl := (List.getElem?_eq_some_iff.mp hv).1
      refine ⟨n, v, ?_, hv, e⟩
      unfold ixN
      rw [if_pos (by show (0 : Int) ≤ (n : Int); omega), if_pos (by show (n : Int) < (xs.length : Int); omega)]
      rfl
    · cases e
  | negSucc m =>
    unfold ixK at e
    simp only [getO_eq, lenN_eq] at e
    split at e
    · rename_i q
      have q := blt_lt q
      split at e
      · rename_i v hv
        refine ⟨_, v, ?_, hv, e⟩
        unfold ixN
        rw [if_neg (by omega), if_pos (by omega)]
        congr 1
        omega
      · cases e
    · cases e
theorem ixK_at {ι : Nat → Addr} {N : Nat} {xs : List AV} {cs : List V} {i : Int} {k : AV → Bool} (r : VsRel ι N xs cs) (e : ixK xs i k = true) : ∃ v c, atI cs i = some c ∧ VRel ι N v c ∧ k v = true := by
  obtain ⟨j, v, e1, e2, e3⟩ := ixK_ok e
  obtain ⟨c, q1, q2⟩ := VsRel.get r e2
  refine ⟨v, c, ?_, q2, e3⟩
  unfold atI
  rw [← r.length, e1]
  exact q1
def gIx : AV → AV → AH → KV → Bool := fun v u h k => seqO h v fun xs => match u with | .int i => ixK xs i fun w => k w h | _ => false
theorem ok_ix {G : GE} : HOk G gIx (rIx G.K) := fun ι h H v u c d Q k hr v1 v2 e p => by
  obtain ⟨n, xs, cs, rfl, rfl, q1, q2, q3⟩ := seqO_ok hr v1 e
  split at q2
  · rename_i i
    cases (show d = .int i from v2)
    obtain ⟨w, z, a1, a2, a3⟩ := ixK_at q1 q2
    have fin := p _ _ _ w z (.refl hr) a2 a3
    rcases sq_or q3 (K := G.K) with q | q
    · exact .inl ⟨_, cs, i, z, rfl, rfl, q, a1, fin⟩
    · exact .inr (.inl ⟨_, cs, i, z, rfl, rfl, q, a1, fin⟩)
  · cases q2
section
variable {X : Cx} {G : GE} {E : XK} {a b c : Expr} {fa fb fc : FE} {pos : Pos}
theorem s_ix (hK : X.K = G.K) (ha : SE X G E a fa) (hb : SE X G E b fb) (hs : PlainIx b := by exact fun _ _ => rfl) : SE X G E (.Subscript a b pos) (fOpH gIx fa fb) := s_opH (fun _ _ p q => pe_ix (X := X) ix_seq p q hs) ha hb (by rw [hK]; exact ok_ix)
/-! ### classes of values -/
def tagOf (h : AH) (v : AV) : Option Nat := match v with
  | .int _ => some 0 | .bl _ => some 1 | .non => some 2 | .str _ => some 3
  | .ref n => match getO h n with | some (.lst _) => some 4 | some (.tup _) => some 5 | some (.ptup _) => some 5 | _ => none
  | .any => none
def tagN : Nat → String
  | 0 => "int" | 1 => "bool" | 2 => "NoneType" | 3 => "str" | 4 => "list" | _ => "tuple"
def isTab : Nat → Nat → Bool
  | 0, 0 => true | 1, 0 => true | 1, 1 => true | 5, 5 => true | _, _ => false
theorem isTab_ok : ∀ t, t < 6 → ∀ T, (T = 0 ∨ T = 1 ∨ T = 5) → kitB (tagN t) (tagN T) = some (isTab t T) := by
  intro t ht T hT
  have h0 : ∀ t, t < 6 → kitB (tagN t) (tagN 0) = some (isTab t 0) := by decide +kernel
  have h1 : ∀ t, t < 6 → kitB (tagN t) (tagN 1) = some (isTab t 1) := by decide +kernel
  have h5 : ∀ t, t < 6 → kitB (tagN t) (tagN 5) = some (isTab t 5) := by decide +kernel
  rcases hT with rfl | rfl | rfl
  · exact h0 t ht
  · exact h1 t ht
  · exact h5 t ht
theorem tag_ok {ι : Nat → Addr} {h : AH} {H : Hp} {v : AV} {z : V} {t : Nat} (hr : HRel G ι h H) (vr : VRel ι h.length v z) (e : tagOf h v = some t) : t < 6 ∧ TyX G.K H z (.type (tagN t)) := by
  unfold tagOf at e
  split at e
  · cases e; cases (show z = _ from vr); exact ⟨by decide, .base (.int _)⟩
  · cases e; cases (show z = _ from vr); exact ⟨by decide, .base (.bl _)⟩
  · cases e; cases (show z = _ from vr); exact ⟨by decide, .base .non⟩
  · cases e; cases (show z = _ from vr); exact ⟨by decide, .base (.str _)⟩
  · rename_i n
    rw [getO_eq] at e
    cases (show z = _ from vr.2)
    split at e
    · rename_i xs q
      cases e
      obtain ⟨cs, e1, _⟩ := hr.obj n _ q
      exact ⟨by decide, .base (.lst e1)⟩
    · rename_i xs q
      cases e
      obtain ⟨cs, e1, _⟩ := hr.obj n _ q
      exact ⟨by decide, .base (.tup e1)⟩
    · rename_i xs q
      cases e
      obtain ⟨cs, o, e1, _⟩ := hr.obj n _ q
      exact ⟨by decide, .fTuple e1⟩
    · cases e
  · cases e
/-- a one-place operation by value and objects -/
def fUnH (g : AV → AH → KV → Bool) (a : FE) : FE := fun σ h k x => a σ h (fun v h => g v h k) x
theorem s_unH {r : V → Hp → VK → Prop} {g : AV → AH → KV → Bool} {e : Expr} (p : ∀ ta, PE X a ta → PE X e (fun σ H Q => ta σ H fun x H1 => r x H1 Q)) (ha : SE X G E a fa)
    (hg : ∀ ι h H v c (Q : VK) (k : KV), HRel G ι h H → VRel ι h.length v c → g v h k = true → (∀ ι' h' H' w z, Stp G ι h H ι' h' H' → VRel ι' h'.length w z → k w h' = true → Q z H') → r c H Q) : SE X G E e (fUnH g fa) := PE.imp (p _ ha) fun σc H Q ⟨ι, σ, h, A⟩ => by
  refine ⟨ι, σ, h, A.bind (f := fa) (g := fun v σ h k x => g v h k) fun ι1 h1 H1 v c s1 v1 A1 => ?_⟩
  obtain ⟨s, r, k, x, e, P⟩ := A1
  exact hg ι1 h1 H1 v c Q k r v1 e fun ι' h' H' w z st vr kw => P.ok _ _ _ _ _ st vr kw
def bIs (T : Nat) : AV → AH → KV → Bool := fun v h k => match tagOf h v with | some t => k (.bl (isTab t T)) h | none => false
/-- isinstance(x, int), bool, tuple -/
theorem s_isTy (T : Nat) {nm : Str} {p p2 : Pos} (hT : T = 0 ∨ T = 1 ∨ T = 5) (hK : X.K = G.K) (hm : X.mg "isinstance" = none) (hmT : X.mg nm = none) (hvT : bootBuiltins nm = some (.type (tagN T))) (ha : SE X G E a fa) (hg : Gl X "isinstance" := by rfl) (hgT : Gl X nm := by rfl)
    (hnT : nm ≠ "__name__" := by decide) (hdT : (nm == ("__debug__" : Str)) = false := by decide)
    (he : starEach [a, .Name nm p2] X.env = (false, eval a X.env) :: starEach [.Name nm p2] X.env := by rfl) : SE X G E (.Call (.Name "isinstance" p) [a, .Name nm p2] [] pos) (fUnH (bIs T) fa) :=
  s_unH (r := fun x H Q => rIsi G.K [x, .ty (tagN T)] H Q) (fun ta q0 => by
    have q := pe_callB (X := X) (pos := pos) (p := p) (call_isi (X := X)) hg hm (by decide +kernel) (pa_cons q0 (pa_cons (pe_bltn (v := .ty (tagN T)) hgT hmT hvT rfl hnT hdT) pa_nil) he) (by decide) (by decide) he
    rw [hK] at q
    exact q) ha fun ι h H v c Q k hr vr e p => by
    unfold bIs at e
    split at e
    · rename_i t ht
      obtain ⟨h1, h2⟩ := tag_ok hr vr ht
      exact ⟨c, _, _, _, isTab t T, rfl, .ty _, h2, kit_ty (isTab_ok t h1 T hT), p _ _ _ (.bl (isTab t T)) _ (.refl hr) rfl e⟩
    · cases e
end
/-! ### what a class must be known for -/
structure ClsF (K : PySem.W.Frag) (C : Addr) (f : Str) : Prop where
  cl : Cls K C
  no : NoAttr K C f
  ca : PySem.W.findIn K (.ref C) "__class__" = .some (.some (.builtin "object.__class__"))
  sg : PySem.W.specialIn K (.builtin "object.__class__") "__get__" = some (some (.builtin "getset_descriptor.__get__"))
  tk : PySem.W.takesIn K (.builtin "object.__class__") = some true
  mo : PySem.W.mroIn K C (.type "object") = some true
def bIsC (c : Nat) : AV → AH → KV → Bool := fun v h k => match v with
  | .ref n => match getO h n with | some (.ins d _) => (match Nat.blt d 2 with | true => k (.bl (Nat.beq d c)) h | false => false) | _ => false
  | _ => false
def fFld : AV → AH → KV → Bool := fun v h k => match v with
  | .ref n => match getO h n with | some (.ins d (some w)) => k w h | _ => false
  | _ => false
section
variable {X : Cx} {G : GE} {E : XK} {a b : Expr} {fa fb : FE} {pos : Pos}
/-- isinstance(x, C), x an instance of one of the two classes -/
theorem s_isCls (c : Nat) {nm : Str} {p p2 : Pos} (hK : X.K = G.K) (hC : ∀ d, d < 2 → ClsF G.K (G.cls d) (fldN d)) (hk : ∀ d, d < 2 → PySem.W.kitOne G.K (.ref (G.cls d)) (.ref (G.cls c)) = some (Nat.beq d c)) (hm : X.mg "isinstance" = none) (hmT : X.mg nm = some (.ref (G.cls c))) (ha : SE X G E a fa)
    (hg : Gl X "isinstance" := by rfl) (hgT : Gl X nm := by rfl) (hdT : (nm == ("__debug__" : Str)) = false := by decide)
    (he : starEach [a, .Name nm p2] X.env = (false, eval a X.env) :: starEach [.Name nm p2] X.env := by rfl) : SE X G E (.Call (.Name "isinstance" p) [a, .Name nm p2] [] pos) (fUnH (bIsC c) fa) :=
  s_unH (r := fun x H Q => rIsi G.K [x, .ref (G.cls c)] H Q) (fun ta q0 => by
    have q := pe_callB (X := X) (pos := pos) (p := p) (call_isi (X := X)) hg hm (by decide +kernel) (pa_cons q0 (pa_cons (pe_glob (v := .ref (G.cls c)) hgT hmT rfl hdT) pa_nil) he) (by decide) (by decide) he
    rw [hK] at q
    exact q) ha fun ι h H v z Q k hr vr e p => by
    unfold bIsC at e
    split at e
    · rename_i n
      rw [getO_eq] at e
      cases (show z = _ from vr.2)
      split at e
      · rename_i d w q
        obtain ⟨dx, fs, e1, e2⟩ := hr.obj n _ q
        split at e
        · rename_i hd
          have hd := blt_lt hd
          have F := hC d hd
          exact ⟨_, _, _, _, Nat.beq d c, rfl, .own _, .base (.ins e1 F.cl F.ca F.sg F.tk F.mo), hk d hd, p _ _ _ (.bl (Nat.beq d c)) _ (.refl hr) rfl e⟩
        · cases e
      · cases e
    · cases e
def fFldC (c : Nat) : AV → AH → KV → Bool := fun v h k => match v with
  | .ref n => (match getO h n with | some (.ins d (some w)) => (match Nat.beq d c with | true => k w h | false => false) | _ => false)
  | _ => false
/-- o.passes, o.counts -/
theorem s_fld (c : Nat) (hc : c < 2) (hK : X.K = G.K) (hC : ∀ d, d < 2 → ClsF G.K (G.cls d) (fldN d)) {f : Str} (hf : f = fldN c := by rfl) (ha : SE X G E a fa) (hb : attributeBase a f X.env (eval a X.env) = eval a X.env := by rfl) : SE X G E (.Attribute a f pos) (fUnH (fFldC c) fa) :=
  s_unH (r := fun x H1 Q => ∃ a C dx fs v, x = .ref a ∧ H1 a = some (.ins C dx fs) ∧ Cls G.K C ∧ NoAttr G.K C f ∧ fs.lookup f = some v ∧ Q v H1) (fun ta p => by
    have q := pe_fld (pos := pos) p hb
    rw [hK] at q
    exact q) ha fun ι h H v z Q k hr vr e p => by
    unfold fFldC at e
    split at e
    · rename_i n
      rw [getO_eq] at e
      cases (show z = _ from vr.2)
      split at e
      · rename_i d w q
        obtain ⟨dx, fs, e1, e2⟩ := hr.obj n _ q
        split at e
        · rename_i hd
          have hd := Nat.eq_of_beq_eq_true hd
          subst hd
          obtain ⟨zz, f1, f2⟩ := e2
          subst f1
          have F := hC d hc
          refine ⟨_, _, dx, _, zz, rfl, e1, F.cl, by rw [hf]; exact F.no, by rw [hf]; simp [List.lookup], p _ _ _ w _ (.refl hr) f2 e⟩
        · cases e
      · cases e
    · cases e
end
/-! ### statements -/
abbrev KS := AS → AH → Bool
abbrev FS := AS → AH → KS → KV → KX → Bool
structure PstS (G : GE) (E : XK) (ι : Nat → Addr) (h : AH) (H : Hp) (n : KS) (r : KV) (x : KX) (D : Ends) : Prop where
  nx : ∀ ι' h' H' σ' σc', Stp G ι h H ι' h' H' → SRel ι' h'.length σ' σc' → n σ' h' = true → D.nx σc' H'
  rt : ∀ ι' h' H' v c, Stp G ι h H ι' h' H' → VRel ι' h'.length v c → r v h' = true → D.rt c H'
  ex : ∀ ι' h' H' c, Stp G ι h H ι' h' H' → x c h' = true → E (.ref (G.exc c)) none H'
structure AtS (G : GE) (E : XK) (f : FS) (ι : Nat → Addr) (σ : AS) (h : AH) (σc : St) (H : Hp) (D : Ends) : Prop where
  s : SRel ι h.length σ σc
  r : HRel G ι h H
  run : ∃ n r x, f σ h n r x = true ∧ PstS G E ι h H n r x D
def rdS (G : GE) (E : XK) (f : FS) : TS := fun D σc H => ∃ ι σ h, AtS G E f ι σ h σc H D
theorem PstS.later {G : GE} {E : XK} {ι ι' : Nat → Addr} {h h' : AH} {H H' : Hp} {n : KS} {r : KV} {x : KX} {D : Ends} (P : PstS G E ι h H n r x D) (s : Stp G ι h H ι' h' H') : PstS G E ι' h' H' n r x D :=
  ⟨fun _ _ _ _ _ t => P.nx _ _ _ _ _ (s.trans t), fun _ _ _ _ _ t => P.rt _ _ _ _ _ (s.trans t), fun _ _ _ _ t => P.ex _ _ _ _ (s.trans t)⟩
theorem SRel.set {ι : Nat → Addr} {N : Nat} {σ : AS} {σc : St} {v : AV} {c : V} (i : Nat) (s : SRel ι N σ σc) (r : VRel ι N v c) : SRel ι N (σ.set i (some v)) (σc.set i (some c)) := by
  refine ⟨by simp [s.1], fun j w e => ?_⟩
  by_cases hj : j = i
  · subst hj
    by_cases hl : j < σ.length
    · rw [List.getElem?_set_self hl] at e
      cases e
      exact ⟨c, List.getElem?_set_self (by rw [← s.1]; exact hl), r⟩
    · rw [List.getElem?_eq_none (by simpa using hl)] at e
      cases e
  · rw [List.getElem?_set_ne (Ne.symm hj)] at e
    obtain ⟨d, e1, e2⟩ := s.2 j w e
    exact ⟨d, by rw [List.getElem?_set_ne (Ne.symm hj)]; exact e1, e2⟩
section
variable {α β : Type} {VR : VRelT α β} {G : GE} {E : XK} {ι : Nat → Addr} {σ : AS} {h : AH} {σc : St} {H : Hp} {D : Ends}
theorem AtS.nx (A : AtS G E (fun σ h n _ _ => n σ h) ι σ h σc H D) : D.nx σc H := by
  obtain ⟨s, r, n, rr, x, e, P⟩ := A
  exact P.nx _ _ _ _ _ (.refl r) s e
theorem AtS.set {i : Nat} {v : AV} {c : V} (A : AtS G E (fun σ h n _ _ => setK σ i (some v) fun σ => n σ h) ι σ h σc H D) (vr : VRel ι h.length v c) : D.nx (σc.set i (some c)) H := by
  obtain ⟨s, r, n, rr, x, e, P⟩ := A
  simp only [setK_eq] at e
  exact P.nx _ _ _ _ _ (.refl r) (s.set i vr) e
theorem AtS.ret {v : AV} {c : V} (A : AtS G E (fun _ h _ r _ => r v h) ι σ h σc H D) (vr : VRel ι h.length v c) : D.rt c H := by
  obtain ⟨s, r, n, rr, x, e, P⟩ := A
  exact P.rt _ _ _ _ _ (.refl r) vr e
theorem AtS.no {P : Prop} (A : AtS G E (fun _ _ _ _ _ => false) ι σ h σc H D) : P := by
  obtain ⟨s, r, n, rr, x, e, _⟩ := A
  cases e
theorem AtS.exp {f : FM α} {g : α → FS} {Q : β → Hp → Prop} (A : AtS G E (fun σ h n r x => f σ h (fun v h => g v σ h n r x) x) ι σ h σc H D)
    (q : ∀ ι' h' H' a b, Stp G ι h H ι' h' H' → VR ι' h'.length a b → AtS G E (g a) ι' σ h' σc H' D → Q b H') : At G E VR f ι σ h σc H Q := by
  obtain ⟨s, r, n, rr, x, e, P⟩ := A
  exact ⟨s, r, fun a h => g a σ h n rr x, x, e, ⟨fun ι' h' H' a b st vr e' => q ι' h' H' a b st vr ⟨st.sr s, st.rel, n, rr, x, e', P.later st⟩, P.ex⟩⟩
theorem AtS.eq {f f' : FS} (A : AtS G E f ι σ h σc H D) (e : ∀ n r x, f σ h n r x = f' σ h n r x) : AtS G E f' ι σ h σc H D := by
  obtain ⟨s, r, n, rr, x, q, P⟩ := A
  exact ⟨s, r, n, rr, x, by rw [← e]; exact q, P⟩
end
def fSkip : FS := fun σ h n _ _ => n σ h
def fSeq (a b : FS) : FS := fun σ h n r x => a σ h (fun σ h => b σ h n r x) r x
def fSet (i : Nat) (f : FE) : FS := fun σ h n r x => f σ h (fun v h => setK σ i (some v) fun σ => n σ h) x
def fDrop (f : FE) : FS := fun σ h n r x => f σ h (fun v h => n σ h) x
def fRet (f : FE) : FS := fun σ h n r x => f σ h (fun v h => r v h) x
def fIte (t : FT) (a b : FS) : FS := fun σ h n r x => t σ h (fun v h => match v with | true => a σ h n r x | false => b σ h n r x) x
section
variable {X : Cx} {G : GE} {E : XK} {e : Expr} {f : FE} {t : FT} {pos : Pos} {st : Stmt} {rest a b : List Stmt} {fs gs : FS}
abbrev SS (X : Cx) (G : GE) (E : XK) (st : Stmt) (f : FS) : Prop := PS X st (rdS G E f)
abbrev SB (X : Cx) (G : GE) (E : XK) (st : List Stmt) (f : FS) : Prop := PSs X st (rdS G E f)
theorem b_nil : SB X G E [] fSkip := PSs.imp pss_nil fun D σc H ⟨ι, σ, h, A⟩ => A.nx
theorem b_cons (h1 : SS X G E st fs) (h2 : SB X G E rest gs) : SB X G E (st :: rest) (fSeq fs gs) := PSs.imp (pss_cons h1 h2) fun D σc H ⟨ι, σ, h, A⟩ => by
  obtain ⟨s, r, n, rr, x, q, P⟩ := A
  exact ⟨ι, σ, h, s, r, _, rr, x, q, ⟨fun ι' h' H' σ' σc' st sr e => ⟨ι', σ', h', sr, st.rel, n, rr, x, e, P.later st⟩, P.rt, P.ex⟩⟩
theorem b_one (h1 : SS X G E st fs) : SB X G E [st] fs := pss_one h1
theorem S_drop (he : SE X G E e f) (hs : swapsWith e none pos.line X.env = pure false := by rfl) : SS X G E (.Expr e pos) (fDrop f) := PS.imp (ps_expr he hs) fun D σc H ⟨ι, σ, h, A⟩ =>
  ⟨ι, σ, h, A.exp (f := f) (g := fun v σ h n r x => n σ h) fun ι1 h1 H1 v c s1 v1 A1 => A1.nx⟩
theorem S_ret (he : SE X G E e f) : SS X G E (.Return (some e) pos) (fRet f) := PS.imp (ps_ret he) fun D σc H ⟨ι, σ, h, A⟩ =>
  ⟨ι, σ, h, A.exp (f := f) (g := fun v σ h n r x => r v h) fun ι1 h1 H1 v c s1 v1 A1 => A1.ret v1⟩
theorem S_if (ht : ST X G E e t) (ha : SB X G E a fs) (hb : SB X G E b gs) : SS X G E (.If e a b pos) (fIte t fs gs) := PS.imp (ps_if ht ha hb) fun D σc H ⟨ι, σ, h, A⟩ =>
  ⟨ι, σ, h, A.exp (f := t) (g := fun v σ h n r x => match v with | true => fs σ h n r x | false => gs σ h n r x) fun ι1 h1 H1 v c s1 v1 A1 => by
    cases v1
    cases v with
    | true => exact ⟨ι1, σ, h1, A1⟩
    | false => exact ⟨ι1, σ, h1, A1⟩⟩
theorem S_set {i : Nat} {x : Str} {pos' : Pos} (hN : X.N.Nodup) (he : SE X G E e f) (hi : X.N[i]? = some x := by rfl) (hx : Loc X.env.scope x := by first | exact .inl rfl | exact .inr rfl) (hs : swapsWith e (some (.Name x pos')) pos.line X.env = pure false := by rfl)
    (hf : X.fn x = true ∨ X.env.scope.names.lookup x = some .local := by first | exact .inl rfl | exact .inr rfl) : SS X G E (.Assign [.Name x pos'] e pos) (fSet i f) := PS.imp (ps_set hN hi hx he hs hf) fun D σc H ⟨ι, σ, h, A⟩ =>
  ⟨ι, σ, h, A.exp (f := f) (g := fun v σ h n r x => setK σ i (some v) fun σ => n σ h) fun ι1 h1 H1 v c s1 v1 A1 => A1.set v1⟩
/-- a, b = x, y: two locals -/
def fPar (i j : Nat) (f : FA) : FS := fun σ h n r x => f σ h (fun vs h => match vs with | [v, w] => setK σ i (some v) fun σ => setK σ j (some w) fun σ => n σ h | _ => false) x
theorem S_par {i j : Nat} {x y : Str} {a b : Expr} {fr : FA} {px py pt : Pos} {kt k2 pt2} (hc : X.calm = true) (hN : X.N.Nodup) (ha : SA X G E [a, b] fr) (hi : X.N[i]? = some x := by rfl) (hj : X.N[j]? = some y := by rfl) (hij : i ≠ j := by decide)
    (hx : X.env.scope.names.lookup x = some .local := by rfl) (hy : X.env.scope.names.lookup y = some .local := by rfl)
    (hw : swappedStores [.Tuple [.Name x px, .Name y py] kt pt] (.Tuple [a, b] k2 pt2) X.env = pure (some [x, y]) := by rfl) (hs : swapsWithSole [.Tuple [.Name x px, .Name y py] kt pt] (.Tuple [a, b] k2 pt2) pos.line X.env = pure false := by rfl) :
    SS X G E (.Assign [.Tuple [.Name x px, .Name y py] kt pt] (.Tuple [a, b] k2 pt2) pos) (fPar i j fr) := PS.imp (ps_par hc hN hi hj hij hx hy ha hw hs) fun D σc H ⟨ι, σ, h, A⟩ =>
  ⟨ι, σ, h, A.exp (f := fr) (g := fun vs σ h n r x => match vs with | [v, w] => setK σ i (some v) fun σ => setK σ j (some w) fun σ => n σ h | _ => false) fun ι1 h1 H1 vs cs s1 v1 A1 => by
    cases v1 with
    | nil => exact A1.no
    | cons r1 t1 =>
      cases t1 with
      | nil => exact A1.no
      | cons r2 t2 =>
        cases t2 with
        | cons r3 t3 => exact A1.no
        | nil =>
          obtain ⟨s, r, n, rr, x, e, P⟩ := A1
          simp only [setK_eq] at e
          exact ⟨_, _, rfl, P.nx _ _ _ _ _ (.refl r) ((s.set i r1).set j r2) e⟩⟩
/-- name op= e -/
def fAug (i : Nat) (g : AV → AV → AH → KV → Bool) (f : FE) : FS := fun σ h n r x => match getO σ i with
  | some (some v) => f σ h (fun u h => g v u h fun w h => setK σ i (some w) fun σ => n σ h) x
  | _ => false
theorem S_aug {i : Nat} {x : Str} {op : Operator} {r : R2} {g : AV → AV → AH → KV → Bool} {pos' : Pos} (hN : X.N.Nodup) (ho : OpR X (inplaceOp op) r) (hg : HOk G g r) (he : SE X G E e f) (hi : X.N[i]? = some x := by rfl) (hx : Loc X.env.scope x := by first | exact .inl rfl | exact .inr rfl)
    (hf : X.fn x = true ∨ X.env.scope.names.lookup x = some .local := by first | exact .inl rfl | exact .inr rfl) : SS X G E (.AugAssign (.Name x pos') op e pos) (fAug i g f) := PS.imp (ps_aug hN hi hx he (fun pins s σ H x y v u Q I r1 r2 h => ho pins s σ H x y v u Q I r1 r2 h) hf) fun D σc H ⟨ι, σ, h, A⟩ => by
  obtain ⟨s, r, n, rr, x, q, P⟩ := A
  unfold fAug at q
  rw [getO_eq] at q
  split at q
  · rename_i v hv
    obtain ⟨c, hc, vr⟩ := s.2 i v hv
    refine ⟨c, hc, ι, σ, h, AtS.exp (f := f) (g := fun u σ h n r x => g v u h fun w h => setK σ i (some w) fun σ => n σ h) ⟨s, r, n, rr, x, q, P⟩ fun ι1 h1 H1 u d s1 v1 A1 => ?_⟩
    obtain ⟨s', r', n', rr', x', q', P'⟩ := A1
    refine hg ι1 h1 H1 v u c d _ _ r' (s1.vr vr) v1 q' fun ι2 h2 H2 w z st vw e => ?_
    rw [setK_eq] at e
    exact P'.nx _ _ _ _ _ st ((st.sr s').set i vw) e
  · cases q
end
end AIx
namespace AIx
open PySem L2
/-- what a body's context gives -/
structure Amb (X : Cx) (G : GE) (E : XK) : Prop where
  calm : X.calm = true
  K : X.K = G.K
  tk : Takes X (fun cls d _ H => E cls d H)
  po : PassesOwn (model X.prog X.w) X.A X.env X.xe
/-! ### stores into lists, attributes -/
def setAtK (v u w : AV) (h : AH) (k : AH → Bool) : Bool := match v, u with
  | .ref n, .int (.ofNat i) => match getO h n with
    | some (.lst xs) => (match Nat.blt i (lenN xs) with | true => setK xs i w fun ys => setK h n (.lst ys) k | false => false)
    | _ => false
  | _, _ => false
theorem setAtK_ok {G : GE} {ι : Nat → Addr} {h : AH} {H : Hp} {v u w : AV} {c d z : V} {k : AH → Bool} (hr : HRel G ι h H) (v1 : VRel ι h.length v c) (v2 : VRel ι h.length u d) (v3 : VRel ι h.length w z) (e : setAtK v u w h k = true) :
    ∃ (p : Addr) (xs : List V) (i : Int) (j : Nat) (h' : AH), c = .ref p ∧ d = .int i ∧ H p = some (.lst xs) ∧ ixN xs.length i = some j ∧ Stp G ι h H ι h' (upd H p (.lst (xs.set j z))) ∧ k h' = true := by
  unfold setAtK at e
  split at e
  · rename_i n i
    rw [getO_eq] at e
    split at e
    · rename_i xs q
      split at e
      · rename_i hb
        rw [lenN_eq] at hb
        have hb := blt_lt hb
        rw [setK_eq, setK_eq] at e
        obtain ⟨cs, e1, e2⟩ := hr.obj n _ q
        cases (show c = _ from v1.2)
        cases (show d = _ from v2)
        refine ⟨ι n, cs, _, i, _, rfl, rfl, e1, ?_, Stp.change (o' := .lst (xs.set i w)) hr q e1 (.inl ⟨_, rfl⟩) ⟨_, upd_same, VsRel.set v3 i e2⟩, e⟩
        rw [← e2.length]
        unfold ixN
        rw [if_pos (by show (0 : Int) ≤ (i : Int); omega), if_pos (by show (i : Int) < (xs.length : Int); omega)]
        rfl
      · cases e
    · cases e
  · cases e
/-- xs[i] = e -/
def fSub (fv fo fi : FE) : FS := fun σ h n r x => fv σ h (fun w h => fo σ h (fun v h => fi σ h (fun u h => setAtK v u w h fun h => n σ h) x) x) x
section
variable {X : Cx} {G : GE} {E : XK} {e o i : Expr} {f fo fi : FE} {t : FT} {pos : Pos} {st : Stmt} {rest a b body : List Stmt} {fs gs : FS}
theorem S_sub {p : Pos} (he : SE X G E e f) (ho : SE X G E o fo) (hi : SE X G E i fi)
    (ha : ∀ v, assign (.Subscript o i p) X.env v = (do
      let r ← holding [v] (eval o X.env); let j ← holding [v, r] (eval i X.env)
      standAt p; holding [v, r, j] (setItem r j v)
      release [v, r, j] []) := by intro _; rfl)
    (hs : swapsWithSole [.Subscript o i p] e pos.line X.env = pure false := by rfl) (hw : swappedStores [.Subscript o i p] e X.env = pure none := by rfl) (h1 : (assignEach [.Subscript o i p] X.env).map (·.2) = [assign (.Subscript o i p) X.env] := by rfl) :
    SS X G E (.Assign [.Subscript o i p] e pos) (fSub f fo fi) := PS.imp (ps_asg he (pg_sub ho hi set_list ha) hs hw h1) fun D σc H ⟨ι, σ, h, A⟩ =>
  ⟨ι, σ, h, A.exp (f := f) (g := fun w σ h n r x => fo σ h (fun v h => fi σ h (fun u h => setAtK v u w h fun h => n σ h) x) x) fun ι1 h1 H1 w z s1 v1 A1 => ⟨ι1, σ, h1, A1.exp (f := fo) (g := fun v σ h n r x => fi σ h (fun u h => setAtK v u w h fun h => n σ h) x) fun ι2 h2 H2 v c s2 v2 A2 => ⟨ι2, σ, h2, A2.exp (f := fi) (g := fun u σ h n r x => setAtK v u w h fun h => n σ h) fun ι3 h3 H3 u d s3 v3 A3 => by
    obtain ⟨s, r, n, rr, x, q, P⟩ := A3
    obtain ⟨p, xs, i, j, h', rfl, rfl, e1, e2, e3, e4⟩ := setAtK_ok r (s3.vr v2) v3 ((s2.trans s3).vr v1) q
    exact ⟨p, xs, i, j, rfl, rfl, e1, e2, P.nx _ _ _ _ _ e3 (e3.sr s) e4⟩⟩⟩⟩
/-- o[i] of a list, i not negative, by values -/
theorem get_list : PGet X (fun x y H Q => ∃ p xs i v, x = .ref p ∧ y = .int i ∧ 0 ≤ i ∧ SqL X.K H p xs ∧ atI xs i = some v ∧ Q v H) := fun pins s σ H o i ov iv Q I ro ri w => by
  obtain ⟨p, xs, i, z, rfl, rfl, h0, hq, he, q⟩ := w
  cases ro
  obtain ⟨t, rfl⟩ := ri
  obtain ⟨its, r, pl, hz⟩ := I.list hq; obtain ⟨j, h1, h2, h3, h4, h5⟩ := atI_get he
  obtain ⟨u, eu, ru⟩ := r.get h2
  have hn := line63
  have hj : i.toNat = j := by
    rw [seqIndex_of h0 h5] at h1
    exact Option.some.inj h1
  refine PyProof.Rows.getItem_listL pl.isList h0 (by omega) (by rw [hj]; exact eu) ⟨z, H, I, ru, q⟩
/-- xs[i] += e -/
def fAugSub (g : AV → AV → AH → KV → Bool) (fo fi f : FE) : FS := fun σ h n r x => fo σ h (fun v h => fi σ h (fun u h => match u with
  | .int (.ofNat i) => (match isLst h v with
    | true => gIx v (.int (.ofNat i)) h fun old h => f σ h (fun w h => g old w h fun z h => setAtK v (.int (.ofNat i)) z h fun h => n σ h) x
    | false => false)
  | _ => false) x) x
theorem S_augSub {tpos : Pos} {op : Operator} {r : R2} {g : AV → AV → AH → KV → Bool} (hK : X.K = G.K) (hop : OpR X (inplaceOp op) r) (hg : HOk G g r) (ho : SE X G E o fo) (hi : SE X G E i fi) (he : SE X G E e f)
    (ha : ∀ ov iv new, augStore i ov iv new = (do holding [new, ov, iv] (setItem ov iv new); release [new, ov, iv] []; pure .next) := by intros; rfl) : SS X G E (.AugAssign (.Subscript o i tpos) op e pos) (fAugSub g fo fi f) :=
  PS.imp (ps_augS ho hi get_list he (fun pins s σ H x y v u Q I r1 r2 h => hop pins s σ H x y v u Q I r1 r2 h) set_list ha) fun D σc H ⟨ι, σ, h, A⟩ =>
    ⟨ι, σ, h, A.exp (f := fo) (g := fun v σ h n r x => fi σ h (fun u h => match u with
      | .int (.ofNat i) => (match isLst h v with
        | true => gIx v (.int (.ofNat i)) h fun old h => f σ h (fun w h => g old w h fun z h => setAtK v (.int (.ofNat i)) z h fun h => n σ h) x
        | false => false)
      | _ => false) x) fun ι1 h1 H1 v c s1 v1 A1 => ⟨ι1, σ, h1, A1.exp (f := fi) (g := fun u σ h n r x => match u with
      | .int (.ofNat i) => (match isLst h v with
        | true => gIx v (.int (.ofNat i)) h fun old h => f σ h (fun w h => g old w h fun z h => setAtK v (.int (.ofNat i)) z h fun h => n σ h) x
        | false => false)
      | _ => false) fun ι2 h2 H2 u d s2 v2 A2 => by
      obtain ⟨s, rr, n, rt, x, q, P⟩ := A2
      split at q
      · rename_i i
        split at q
        · rename_i hl
          obtain ⟨m, xs, cs, e1, e2, q1, q2, q3, q4⟩ := lst_only rr (s2.vr v1) hl q
          subst e1
          obtain ⟨old, z, a1, a2, a3⟩ := ixK_at q1 q2
          refine ⟨_, cs, _, z, e2, v2, (by show (0 : Int) ≤ (i : Int); omega), by rw [hK]; exact SqL.of q4, a1, ι2, σ, h2, AtS.exp (f := f) (g := fun w σ h n r x => g old w h fun z h => setAtK (.ref m) (.int (.ofNat i)) z h fun h => n σ h) ⟨s, rr, n, rt, x, a3, P⟩ fun ι3 h3 H3 w y s3 v3 A3 => ?_⟩
          obtain ⟨s', rr', n', rt', x', q', P'⟩ := A3
          refine hg ι3 h3 H3 old w z y _ _ rr' (s3.vr a2) v3 q' fun ι4 h4 H4 t tc st vt e => ?_
          obtain ⟨p, xs', i', j, h', f1, f2, f3, f4, f5, f6⟩ := setAtK_ok st.rel (st.vr (s3.vr (s2.vr v1))) (st.vr (s3.vr v2)) vt e
          exact ⟨p, xs', i', j, f1, f2, f3, f4, P'.nx _ _ _ _ _ (st.trans f5) (f5.sr (st.sr s')) f6⟩
        · cases q
      · cases q⟩⟩
/-! ### self.passes = e, in __init__ -/
def fInit (c : Nat) (f fo : FE) : FS := fun σ h n r x => f σ h (fun w h => fo σ h (fun v h => match v with
  | .ref m => (match getO h m with | some (.ins d none) => (match Nat.beq d c with | true => setK h m (.ins c (some w)) fun h => n σ h | false => false) | _ => false)
  | _ => false) x) x
theorem S_init (c : Nat) (hc : c < 2) {p : Pos} {fd : Str} (hK : X.K = G.K) (hC : ∀ d, d < 2 → ClsF G.K (G.cls d) (fldN d)) (ho : SE X G E o fo) (he : SE X G E e f) (hf : fd = fldN c := by rfl) (hs : swapsWith e (some (.Attribute o fd p)) pos.line X.env = pure false := by rfl) :
    SS X G E (.Assign [.Attribute o fd p] e pos) (fInit c f fo) := PS.imp (ps_fld ho he hs) fun D σc H ⟨ι, σ, h, A⟩ =>
  ⟨ι, σ, h, A.exp (f := f) (g := fun w σ h n r x => fo σ h (fun v h => match v with
  | .ref m => (match getO h m with | some (.ins d none) => (match Nat.beq d c with | true => setK h m (.ins c (some w)) fun h => n σ h | false => false) | _ => false)
  | _ => false) x) fun ι1 h1 H1 w z s1 v1 A1 => ⟨ι1, σ, h1, A1.exp (f := fo) (g := fun v σ h n r x => match v with
  | .ref m => (match getO h m with | some (.ins d none) => (match Nat.beq d c with | true => setK h m (.ins c (some w)) fun h => n σ h | false => false) | _ => false)
  | _ => false) fun ι2 h2 H2 v y s2 v2 A2 => by
    obtain ⟨s, rr, n, rt, x, q, P⟩ := A2
    split at q
    · rename_i m
      rw [getO_eq] at q
      cases (show y = _ from v2.2)
      split at q
      · rename_i d hm
        split at q
        · rename_i hd
          have hd := Nat.eq_of_beq_eq_true hd
          subst hd
          rw [setK_eq] at q
          obtain ⟨dx, fs, e1, e2⟩ := rr.obj m _ hm
          cases (show fs = [] from e2)
          have F := hC d hc
          have st := Stp.change (o' := .ins d (some w)) (u' := .ins (G.cls d) dx (putF fd z [])) rr hm e1 (.inr ⟨_, _, _, rfl⟩) ⟨dx, _, upd_same, z, by rw [hf]; rfl, s2.vr v1⟩
          exact ⟨_, _, dx, [], rfl, e1, by rw [hK]; exact F.cl, by rw [hK, hf]; exact F.no, by show 0 < 1000; decide, P.nx _ _ _ _ _ st (st.sr s) q⟩
        · cases q
      · cases q
    · cases q⟩⟩
/-! ### raise C('..') -/
structure ExF (K : PySem.W.Frag) (mg : Str → Option Value) (nm : Str) (C : Addr) : Prop where
  g : mg nm = some (.ref C)
  x : PySem.W.excIn K C [.type "ValueError", .type "Exception", .type "BaseException", .type "object"] "ValueError.__new__" = true
  k : PySem.W.keepIn K (.ref C) = true
  b : PySem.W.subIn K (.ref C) (.type "BaseException") = some true
  t : PySem.W.typeIn K (.ref C) = some (.type "type")
def fRaise (c : Nat) : FS := fun σ h n r x => x c h
theorem S_raise (c : Nat) {nm m : Str} {j : Nat} {p p2 p3 : Pos} (M : Amb X G E) (F : ExF X.K X.mg nm (G.exc c)) (hg : Gl X nm := by rfl) (hdb : (nm == ("__debug__" : Str)) = false := by decide) :
    SS X G E (.Raise (some (.Call (.Name nm p) [.Constant (.str m) j p2] [] p3)) none pos) (fRaise c) := PS.imp (ps_raise M.calm M.tk (pmk_own PySem.F.excBase_ValueError F.x F.g F.k (raises_own F.b F.t) hg hdb)) fun D σc H ⟨ι, σ, h, A⟩ => by
  obtain ⟨s, rr, n, rt, x, q, P⟩ := A
  exact P.ex _ _ _ _ (.refl rr) q
/-! ### while -/
def whileK (t : FT) (b : FS) (r : KV) (x : KX) (n : KS) : Nat → KS
  | 0, _, _ => false
  | m + 1, σ, h => t σ h (fun v h => match v with | true => b σ h (fun σ h => whileK t b r x n m σ h) r x | false => n σ h) x
def fWhile (fuel : Nat) (t : FT) (b : FS) : FS := fun σ h n r x => whileK t b r x n fuel σ h
theorem S_while (fuel : Nat) (M : Amb X G E) (ht : ST X G E e t) (hb : SB X G E body fs) : SS X G E (.While e body [] pos) (fWhile fuel t fs) := PS.imp (ps_while M.po ht hb) fun D σc H ⟨ι, σ, h, A⟩ => by
  obtain ⟨s, rr, n, rt, x, q, P⟩ := A
  refine ⟨fun m σ' H' => ∃ ι' σa h', Stp G ι h H ι' h' H' ∧ SRel ι' h'.length σa σ' ∧ whileK t fs rt x n m σa h' = true, ⟨fuel, ι, σ, h, .refl rr, s, q⟩, fun m σ' H' w => ?_⟩
  obtain ⟨ι', σa, h', st, sr, e⟩ := w
  cases m with
  | zero => cases e
  | succ m =>
    refine ⟨ι', σa, h', sr, st.rel, _, x, e, ⟨fun ι2 h2 H2 v c s2 v2 e2 => ?_, (P.later st).ex⟩⟩
    cases v2
    cases v with
    | true =>
      refine ⟨fun σ3 H3 => ∃ ι3 σb h3, Stp G ι h H ι3 h3 H3 ∧ SRel ι3 h3.length σb σ3 ∧ whileK t fs rt x n m σb h3 = true, fun σ3 H3 w => ⟨m, Nat.lt_succ_self m, w⟩, ?_⟩
      refine ⟨ι2, σa, h2, s2.sr sr, s2.rel, _, rt, x, e2, ⟨fun ι3 h3 H3 σb σ3 s3 sr3 e3 => ⟨ι3, σb, h3, (st.trans s2).trans s3, sr3, e3⟩, (P.later (st.trans s2)).rt, (P.later (st.trans s2)).ex⟩⟩
    | false => exact (P.later (st.trans s2)).nx _ _ _ _ _ (.refl s2.rel) (s2.sr sr) e2
/-! ### for over a range, a tuple -/
def forN (b : Nat → AS → AH → KS → Bool) (n : KS) : Nat → Nat → KS
  | 0, _, σ, h => n σ h
  | m + 1, i, σ, h => b i σ h fun σ h => forN b n m (i + 1) σ h
/-- for x in range(e) -/
def fForR (i : Nat) (f : FE) (b : FS) : FS := fun σ h n r x => f σ h (fun v h => match v with
  | .int (.ofNat m) => (match Nat.ble m 1000 with | true => forN (fun j σ h n => setK σ i (some (.int (.ofNat j))) fun σ => b σ h n r x) n m 0 σ h | false => false)
  | _ => false) x
theorem forN_ok {lo : Int} {G : GE} {E : XK} {i : Nat} {fs : FS} {D : Ends} {tb : TS} {rt : KV} {x : KX} {n : KS} {ι : Nat → Addr} {σ : AS} {h : AH} {σc : St} {H : Hp} {m : Nat} {fI : Nat → AV} (hI : ∀ ι N j, VRel ι N (fI j) (.int (lo + j)))
    (htb : ∀ D σ H, rdS G E fs D σ H → tb D σ H) (s : SRel ι h.length σ σc) (rr : HRel G ι h H) (P : PstS G E ι h H n rt x D) (q : forN (fun j σ h n => setK σ i (some (fI j)) fun σ => fs σ h n rt x) n m 0 σ h = true) :
    ∃ W : Nat → Nat → St → Hp → Prop, (∃ m, W 0 m σc H) ∧ ∀ j k σ H, W j k σ H → ((Itr lo m).stop j H ∧ D.nx σ H) ∨ ((Itr lo m).go j H ∧ ∃ N : St → Hp → Prop, (∀ σ' H', N σ' H' → ∃ k', k' < k ∧ W (j + 1) k' σ' H') ∧ ∀ y H', (Itr lo m).yld j H y H' → gName i y σ H' fun σ2 H2 => tb { D with nx := N, ct := N, bk := D.nx } σ2 H2) := by
  refine for_range (D := D) (fun j σ' H' => ∃ ι' σa h', Stp G ι h H ι' h' H' ∧ SRel ι' h'.length σa σ' ∧ forN (fun j σ h n => setK σ i (some (fI j)) fun σ => fs σ h n rt x) n (m - j) j σa h' = true) ⟨ι, σ, h, .refl rr, s, q⟩ (fun j σ' H' hj w => ?_) fun σ' H' w => ?_
  · obtain ⟨ι', σa, h', st, sr, e⟩ := w
    obtain ⟨k, hk⟩ : ∃ k, m - j = k + 1 := ⟨m - j - 1, by omega⟩
    rw [hk] at e
    show tb _ (σ'.set i _) H'
    unfold forN at e
    rw [setK_eq] at e
    refine htb _ _ _ ⟨ι', _, h', sr.set i (hI _ _ j), st.rel, _, rt, x, e, ⟨fun ι3 h3 H3 σb σ3 s3 sr3 e3 => ?_, (P.later st).rt, (P.later st).ex⟩⟩
    exact ⟨ι3, σb, h3, st.trans s3, sr3, by rw [show m - (j + 1) = k by omega]; exact e3⟩
  · obtain ⟨ι', σa, h', st, sr, e⟩ := w
    rw [Nat.sub_self] at e
    exact (P.later st).nx _ _ _ _ _ (.refl st.rel) sr e
theorem S_forR {i : Nat} {x : Str} {px pr pc : Pos} (M : Amb X G E) (hN : X.N.Nodup) (hm : X.mg "range" = none) (he : SE X G E e f) (hb : SB X G E body fs) (hi : X.N[i]? = some x := by rfl) (hx : Loc X.env.scope x := by first | exact .inl rfl | exact .inr rfl) (hg : Gl X "range" := by rfl)
    (hf : X.fn x = true ∨ X.env.scope.names.lookup x = some .local := by first | exact .inl rfl | exact .inr rfl) (hs : starEach [e] X.env = [(false, eval e X.env)] := by rfl)
    (hs0 : ∀ y, foldedSetIterable (.Call (.Name "range" pr) [e] [] pc) X.env y = pure y := by intro _; rfl) : SS X G E (.For (.Name x px) (.Call (.Name "range" pr) [e] [] pc) body [] pos) (fForR i f fs) :=
  PS.imp (ps_for M.po M.calm (pi_range1 hg hm (pa_cons he pa_nil (by rw [hs]; rfl)) hs) (pg_name hN hi hx hf) hb hs0) fun D σc H ⟨ι, σ, h, A⟩ => ⟨ι, σ, h, A.exp (f := f) (g := fun v σ h n r x => match v with
  | .int (.ofNat m) => (match Nat.ble m 1000 with | true => forN (fun j σ h n => setK σ i (some (.int (.ofNat j))) fun σ => fs σ h n r x) n m 0 σ h | false => false)
  | _ => false) fun ι1 h1 H1 v c s1 v1 A1 => by
    obtain ⟨s, rr, n, rt, x, q, P⟩ := A1
    split at q
    · rename_i m
      split at q
      · rename_i hm
        have hm := Nat.le_of_ble_eq_true hm
        cases (show c = _ from v1)
        refine ⟨(m : Int), rfl, by omega, by omega, ?_⟩
        rw [Int.toNat_natCast]
        exact forN_ok (fI := fun j => .int (.ofNat j)) (fun _ _ j => by show V.int _ = V.int _; rw [Int.zero_add]; rfl) (fun _ _ _ w => w) s rr P q
      · cases q
    · cases q⟩
end
end AIx
namespace AIx
open PySem L2
/-! ### what is walked -/
abbrev FItr := Nat → AH → Bool → (List AV → Bool) → Bool
def YRel (K : PySem.W.Frag) (ι : Nat → Addr) (N : Nat) (H : Hp) (vs : List AV) (x : V) : Prop :=
  (∃ v, vs = [v] ∧ VRel ι N v x) ∨ ∃ v u T c d, vs = [v, u] ∧ x = .ref T ∧ SqT K H T [c, d] ∧ VRel ι N v c ∧ VRel ι N u d
abbrev WRel (G : GE) : VRelT FItr It := fun ι N it J => ∀ (ι' : Nat → Addr) (h' : AH) (H' : Hp) (i : Nat) (kS : Bool) (kG : List AV → Bool), (∀ n, n < N → ι' n = ι n) → N ≤ h'.length → HRel G ι' h' H' → it i h' kS kG = true →
  (J.stop i H' ∧ kS = true) ∨ (J.go i H' ∧ ∀ x H'', J.yld i H' x H'' → ∃ vs, kG vs = true ∧ Stp G ι' h' H' ι' h' H'' ∧ YRel G.K ι' h'.length H'' vs x)
abbrev FI := FM FItr
abbrev rdI (G : GE) (E : XK) (f : FI) : TI := rd G E (WRel G) f
abbrev SI (X : Cx) (G : GE) (E : XK) (tg e : Expr) (f : FI) : Prop := PI X tg e (rdI G E f)
theorem PI.imp {X : Cx} {tg e : Expr} {t t' : TI} (p : PI X tg e t) (h : ∀ σ H R, t' σ H R → t σ H R) : PI X tg e t' := ⟨fun pins s σ H R I q => p.run pins s σ H R I (h σ H R q)⟩
/-- a hidden new object -/
theorem Stp.hid {G : GE} {ι : Nat → Addr} {h : AH} {H : Hp} {p : Addr} {o : HO} (r : HRel G ι h H) (hp : H p = none) : Stp G ι h H ι h (upd H p o) := by
  have ex : ∀ b u, H b = some u → upd H p o b = some u := fun b u e => by rw [upd_ne (ne_of_none e hp)]; exact e
  have mo : ∀ a, H a ≠ none → upd H p o a ≠ none := fun a e => by
    cases q : H a with
    | none => exact absurd q e
    | some u => rw [ex _ _ q]; simp
  refine ⟨Nat.le_refl _, fun _ _ => rfl, ⟨r.inj, fun n u e => (r.obj n u e).keep (fun _ _ => rfl) (Nat.le_refl _) (fun u e => ex _ u e) (fun b q e => ex _ _ e) (mo _), r.scr.imp (fun t => ⟨ex _ _ t.1, t.2⟩) (Or.imp_left fun ⟨o, t⟩ => ⟨o, ex _ _ t⟩), tab_keep r.tab fun b u e _ _ => ex b u e⟩, fun a u e _ _ => ex a u e, fun n a b => absurd b (Nat.not_lt.mpr a), mo, fun a u e _ => ex a u e⟩
/-! ### targets -/
abbrev FG := List AV → AS → (AS → Bool) → Bool
def TgOk (K : PySem.W.Frag) (g : TG) (f : FG) (is : List Nat) : Prop := ∀ (ι : Nat → Addr) (N : Nat) (H : Hp) (vs : List AV) (x : V) (σ : AS) (σc : St) (k : AS → Bool) (Q : St → Hp → Prop), YRel K ι N H vs x → SRel ι N σ σc → f vs σ k = true →
  (∀ σ' σc', SRel ι N σ' σc' → (∀ ws : List Nat, (∀ i ∈ is, i ∈ ws) → wipe σc' ws = wipe σc ws) → k σ' = true → Q σc' H) → g x σc H Q
def g1 (i : Nat) : FG := fun vs σ k => match vs with | [v] => setK σ i (some v) k | _ => false
def g2 (i j : Nat) : FG := fun vs σ k => match vs with | [v, u] => setK σ i (some v) fun σ => setK σ j (some u) k | _ => false
theorem wipe_get (σ : St) : ∀ (ws : List Nat) (j : Nat), (wipe σ ws)[j]? = if j ∈ ws then (if j < σ.length then some none else none) else σ[j]?
  | [], j => by simp [wipe]
  | w :: ws, j => by
    unfold wipe
    by_cases e : w = j
    · subst e
      rw [if_pos List.mem_cons_self]
      by_cases hl : w < σ.length
      · rw [List.getElem?_set_self (by rw [wipe_length]; exact hl), if_pos hl]
      · rw [List.getElem?_eq_none (by rw [List.length_set, wipe_length]; omega), if_neg hl]
    · rw [List.getElem?_set_ne e, wipe_get σ ws j]
      by_cases m : j ∈ ws
      · rw [if_pos m, if_pos (List.mem_cons_of_mem _ m)]
      · rw [if_neg m, if_neg (by intro z; rcases List.mem_cons.mp z with z | z; exact e z.symm; exact m z)]
theorem wipe_set {σ : St} {i : Nat} {c : Option V} {ws : List Nat} (h : i ∈ ws) : wipe (σ.set i c) ws = wipe σ ws := by
  refine List.ext_getElem? fun j => ?_; rw [wipe_get, wipe_get, List.length_set]
  by_cases m : j ∈ ws
  · rw [if_pos m, if_pos m]
  · rw [if_neg m, if_neg m, List.getElem?_set_ne (fun z => m (by rw [← z]; exact h))]
theorem tg1 {K : PySem.W.Frag} (i : Nat) : TgOk K (gName i) (g1 i) [i] := fun ι N H vs x σ σc k Q y s e p => by
  rcases y with ⟨v, rfl, vr⟩ | ⟨v, u, T, c, d, rfl, _⟩
  · have e : setK σ i (some v) k = true := e
    rw [setK_eq] at e
    exact p _ _ (s.set i vr) (fun ws hw => wipe_set (hw i (by simp))) e
  · cases e
theorem tg2 {K : PySem.W.Frag} (i j : Nat) : TgOk K (gTup K 2 (gCons (gName i) (gCons (gName j) gNil))) (g2 i j) [i, j] := fun ι N H vs x σ σc k Q y s e p => by
  rcases y with ⟨v, rfl, vr⟩ | ⟨v, u, T, c, d, rfl, rfl, q, r1, r2⟩
  · cases e
  · have e : (setK σ i (some v) fun σ => setK σ j (some u) k) = true := e
    simp only [setK_eq] at e
    exact ⟨T, _, rfl, q, rfl, c, _, rfl, d, _, rfl, rfl, p _ _ ((s.set i r1).set j r2) (fun ws hw => by rw [wipe_set (hw j (by simp)), wipe_set (hw i (by simp))]) e⟩
/-! ### the walked things -/
def isTp (h : AH) (v : AV) : Bool := match v with | .ref n => (match getO h n with | some (.tup _) => true | some (.ptup _) => true | _ => false) | _ => false
def itSeq (c : AH → AV → Bool) (f : Nat → AV → AH → (List AV → Bool) → Bool) (v : AV) : FItr := fun i h kS kG => match c h v with | true => (seqO h v fun xs => match getO xs i with | some w => f i w h kG | none => kS) | false => false
def yOne : Nat → AV → AH → (List AV → Bool) → Bool := fun _ w _ k => k [w]
/-- items that are pairs -/
def yTwo : Nat → AV → AH → (List AV → Bool) → Bool := fun _ w h k => match w with
  | .ref n => (match getO h n with
    | some (.tup [a, b]) => k [a, b]
    | some (.ptup [a, b]) => k [a, b]
    | _ => false)
  | _ => false
def yEnu : Nat → AV → AH → (List AV → Bool) → Bool := fun i w _ k => nfN i fun j => k [.int (.ofNat j), w]
def itRange (lo : Int) (m : Nat) : FItr := fun i h kS kG => match Nat.blt i m with | true => nfI (lo + (.ofNat i)) fun j => kG [.int j] | false => kS
def fIt (c : AH → AV → Bool) (y : Nat → AV → AH → (List AV → Bool) → Bool) (f : FE) : FI := fun σ h k x => f σ h (fun v h => match c h v with | true => k (itSeq c y v) h | false => false) x
def fItR (f : FE) : FI := fun σ h k x => f σ h (fun v h => match v with | .int (.ofNat m) => (match Nat.ble m 1000 with | true => k (itRange 0 m) h | false => false) | _ => false) x
def fItR2 (f g : FE) : FI := fun σ h k x => f σ h (fun v h => g σ h (fun u h => match v, u with | .int (.ofNat l), .int (.ofNat m) => (match Nat.ble l 1000 with | true => (match Nat.ble m 1000 with | true => nfN (m - l) fun d => k (itRange (.ofNat l) d) h | false => false) | false => false) | _, _ => false) x) x
theorem isTp_ok {h : AH} {v : AV} (e : isTp h v = true) : ∃ n, v = .ref n ∧ ((∃ xs, h[n]? = some (.tup xs)) ∨ ∃ xs, h[n]? = some (.ptup xs)) := by
  unfold isTp at e
  split at e
  · rename_i n
    rw [getO_eq] at e
    split at e
    · rename_i xs q; exact ⟨n, rfl, .inl ⟨xs, q⟩⟩
    · rename_i xs q; exact ⟨n, rfl, .inr ⟨xs, q⟩⟩
    · cases e
  · cases e
theorem tp_only {G : GE} {ι : Nat → Addr} {h : AH} {H : Hp} {v : AV} {c : V} {k : List AV → Bool} (r : HRel G ι h H) (vr : VRel ι h.length v c) (e0 : isTp h v = true) (e : seqO h v k = true) : ∃ n xs cs, v = .ref n ∧ c = .ref (ι n) ∧ VsRel ι h.length xs cs ∧ k xs = true ∧ Rd H (ι n) (.tup cs) := by
  obtain ⟨n, xs, cs, e1, e2, q1, q2, q3⟩ := seqO_ok r vr e
  refine ⟨n, xs, cs, e1, e2, q1, q2, ?_⟩
  rcases q3 with q | q
  · obtain ⟨m, f1, f2⟩ := isTp_ok e0
    rw [f1] at e1
    cases e1
    rcases f2 with ⟨_, z⟩ | ⟨_, z⟩ <;> (rw [q.1] at z; cases z)
  · exact q.2
theorem seqO_no {h : AH} {v : AV} {k : List AV → Bool} (e : isLst h v = true ∨ isTp h v = true) (hk : ∀ xs, k xs = true) : seqO h v k = true := by
  rcases e with e | e
  · obtain ⟨n, xs, rfl, q⟩ := isLst_ok (ι := fun _ => 0) (H := fun _ => none) e
    unfold seqO
    simp only [getO_eq, q]
    exact hk _
  · obtain ⟨n, rfl, q⟩ := isTp_ok e
    unfold seqO
    simp only [getO_eq]
    rcases q with ⟨xs, q⟩ | ⟨xs, q⟩ <;> (simp only [q]; exact hk _)
/-- what a given item is, after the walk has given it -/
def YOk (G : GE) (y : Nat → AV → AH → (List AV → Bool) → Bool) (P : Nat → V → Hp → V → Hp → Prop) : Prop := ∀ (ι : Nat → Addr) (h : AH) (H : Hp) (i : Nat) (w : AV) (c : V) (k : List AV → Bool), HRel G ι h H → VRel ι h.length w c → y i w h k = true → ∀ x H', P i c H x H' → ∃ vs, k vs = true ∧ Stp G ι h H ι h H' ∧ YRel G.K ι h.length H' vs x
theorem y_one {G : GE} : YOk G yOne fun _ c H x H' => H' = H ∧ x = c := fun ι h H i w c k hr vr e x H' ⟨e1, e2⟩ => by
  subst e1 e2
  exact ⟨[w], e, .refl hr, .inl ⟨w, rfl, vr⟩⟩
theorem y_enu {G : GE} : YOk G yEnu fun i c H x H' => ∃ T, x = .ref T ∧ H T = none ∧ H' = upd H T (.tup [.int (i : Nat), c]) := fun ι h H i w c k hr vr e x H' ⟨T, e1, e2, e3⟩ => by
  subst e1 e3
  unfold yEnu at e
  rw [nfN_eq] at e
  exact ⟨_, e, Stp.hid hr e2, .inr ⟨.int i, w, T, _, c, rfl, rfl, SqT.of upd_same, rfl, vr⟩⟩
theorem y_two {G : GE} : YOk G yTwo fun _ c H x H' => H' = H ∧ x = c := fun ι h H i w c k hr vr e x H' ⟨e1, e2⟩ => by
  subst e1 e2
  unfold yTwo at e
  split at e
  · rename_i n
    cases (show x = _ from vr.2)
    rw [getO_eq] at e
    split at e
    · rename_i a b q
      obtain ⟨cs, e1, e2⟩ := hr.obj n _ q
      cases e2 with
      | cons r1 t => cases t with
        | cons r2 t =>
          cases t
          exact ⟨_, e, .refl hr, .inr ⟨a, b, _, _, _, rfl, rfl, SqT.of e1, r1, r2⟩⟩
    · rename_i a b q
      obtain ⟨cs, o, e1, d, e2⟩ := hr.obj n _ q
      cases e2 with
      | cons r1 t => cases t with
        | cons r2 t =>
          cases t
          exact ⟨_, e, .refl hr, .inr ⟨a, b, _, _, _, rfl, rfl, .inl (.inr ⟨o, e1⟩), r1, r2⟩⟩
    · cases e
  · cases e
theorem wr_list {G : GE} {ι : Nat → Addr} {N n : Nat} {y : Nat → AV → AH → (List AV → Bool) → Bool} {P : Nat → V → Hp → V → Hp → Prop} {J : It} (hn : n < N) (hy : YOk G y P)
    (go : ∀ H i cs c, SqL G.K H (ι n) cs → cs[i]? = some c → J.go i H) (yld : ∀ H i cs c x H', SqL G.K H (ι n) cs → cs[i]? = some c → J.yld i H x H' → P i c H x H') (stop : ∀ H i cs, SqL G.K H (ι n) cs → cs.length ≤ i → J.stop i H) : WRel G ι N (itSeq isLst y (.ref n)) J := fun ι' h' H' i kS kG ag le hr e => by
  unfold itSeq at e
  split at e
  · rename_i hl
    have vr : VRel ι' h'.length (.ref n) (.ref (ι' n)) := ⟨Nat.lt_of_lt_of_le hn le, rfl⟩
    obtain ⟨m, xs, cs, e1, e2, q1, q2, q3, q4⟩ := lst_only hr vr hl e
    cases e1
    rw [ag n hn] at q4
    simp only [getO_eq] at q2
    split at q2
    · rename_i w hw
      obtain ⟨c, c1, c2⟩ := VsRel.get q1 hw
      exact .inr ⟨go _ _ _ _ (SqL.of q4) c1, fun x H'' y => hy ι' h' H' i w c kG hr c2 q2 x H'' (yld _ _ _ _ _ _ (SqL.of q4) c1 y)⟩
    · rename_i hw
      refine .inl ⟨stop _ _ _ (SqL.of q4) ?_, q2⟩
      rw [← q1.length]
      exact List.getElem?_eq_none_iff.mp hw
  · cases e
theorem wr_tup {G : GE} {ι : Nat → Addr} {N n : Nat} {y : Nat → AV → AH → (List AV → Bool) → Bool} {P : Nat → V → Hp → V → Hp → Prop} {J : It} (hn : n < N) (hy : YOk G y P)
    (go : ∀ H i cs c, SqT G.K H (ι n) cs → cs[i]? = some c → J.go i H) (yld : ∀ H i cs c x H', SqT G.K H (ι n) cs → cs[i]? = some c → J.yld i H x H' → P i c H x H') (stop : ∀ H i cs, SqT G.K H (ι n) cs → cs.length ≤ i → J.stop i H) : WRel G ι N (itSeq isTp y (.ref n)) J := fun ι' h' H' i kS kG ag le hr e => by
  unfold itSeq at e
  split at e
  · rename_i hl
    have vr : VRel ι' h'.length (.ref n) (.ref (ι' n)) := ⟨Nat.lt_of_lt_of_le hn le, rfl⟩
    obtain ⟨m, xs, cs, e1, e2, q1, q2, q4⟩ := tp_only hr vr hl e
    cases e1
    rw [ag n hn] at q4
    simp only [getO_eq] at q2
    split at q2
    · rename_i w hw
      obtain ⟨c, c1, c2⟩ := VsRel.get q1 hw
      exact .inr ⟨go _ _ _ _ (.inl q4) c1, fun x H'' y => hy ι' h' H' i w c kG hr c2 q2 x H'' (yld _ _ _ _ _ _ (.inl q4) c1 y)⟩
    · rename_i hw
      refine .inl ⟨stop _ _ _ (.inl q4) ?_, q2⟩
      rw [← q1.length]
      exact List.getElem?_eq_none_iff.mp hw
  · cases e
theorem wr_range {G : GE} {ι : Nat → Addr} {N m : Nat} {lo : Int} : WRel G ι N (itRange lo m) (Itr lo m) := fun ι' h' H' i kS kG ag le hr e => by
  unfold itRange at e
  split at e
  · rename_i hl
    rw [nfI_eq] at e
    exact .inr ⟨blt_lt hl, fun x H'' ⟨e1, e2⟩ => by
      subst e1 e2
      exact ⟨_, e, .refl hr, .inl ⟨_, rfl, rfl⟩⟩⟩
  · rename_i hl
    refine .inl ⟨?_, e⟩
    show m ≤ i
    have : ¬ i < m := fun z => by
      have := Nat.ble_eq_true_of_le z
      unfold Nat.blt at hl
      rw [this] at hl
      cases hl
    omega
section
variable {X : Cx} {G : GE} {E : XK} {e e2 tg : Expr} {f f2 : FE} {pos : Pos}
/-- the check says what kind the thing is -/
theorem i_list {y : Nat → AV → AH → (List AV → Bool) → Bool} (hK : X.K = G.K) (he : SE X G E e f) (hy : YOk G y fun _ c H x H' => H' = H ∧ x = c) : SI X G E tg e (fIt isLst y f) := PI.imp (pi_list he) fun σc H R ⟨ι, σ, h, A⟩ =>
  ⟨ι, σ, h, A.bind (f := f) (g := fun v σ h k x => match isLst h v with | true => k (itSeq isLst y v) h | false => false) fun ι1 h1 H1 v c s1 v1 A1 => by
    obtain ⟨s, r, k, x, e, P⟩ := A1
    split at e
    · rename_i hl
      obtain ⟨n, xs, cs, rfl, rfl, q1, q2, q3, q4⟩ := lst_only (k := fun _ => true) r v1 hl (seqO_no (.inl hl) fun _ => rfl)
      rw [hK]
      refine ⟨_, rfl, ⟨cs, SqL.of q4⟩, P.ok _ _ _ _ _ (.refl r) (wr_list v1.1 hy (fun H i cs c q z => ⟨cs, c, q, z⟩) (fun H i cs c x H' q z y => ⟨y.1, ?_⟩) fun H i cs q z => ⟨cs, q, z⟩) e⟩
      have := y.2 cs q
      rw [z] at this; exact (Option.some.inj this).symm
    · cases e⟩
theorem i_tup {y : Nat → AV → AH → (List AV → Bool) → Bool} (hK : X.K = G.K) (he : SE X G E e f) (hy : YOk G y fun _ c H x H' => H' = H ∧ x = c) : SI X G E tg e (fIt isTp y f) := PI.imp (pi_tup he) fun σc H R ⟨ι, σ, h, A⟩ =>
  ⟨ι, σ, h, A.bind (f := f) (g := fun v σ h k x => match isTp h v with | true => k (itSeq isTp y v) h | false => false) fun ι1 h1 H1 v c s1 v1 A1 => by
    obtain ⟨s, r, k, x, e, P⟩ := A1
    split at e
    · rename_i hl
      obtain ⟨n, xs, cs, rfl, rfl, q1, q2, q4⟩ := tp_only (k := fun _ => true) r v1 hl (seqO_no (.inr hl) fun _ => rfl)
      rw [hK]
      refine ⟨_, rfl, ⟨cs, .inl q4⟩, P.ok _ _ _ _ _ (.refl r) (wr_tup v1.1 hy (fun H i cs c q z => ⟨cs, c, q, z⟩) (fun H i cs c x H' q z y => ⟨y.1, ?_⟩) fun H i cs q z => ⟨cs, q, z⟩) e⟩
      have := y.2 cs q
      rw [z] at this; exact (Option.some.inj this).symm
    · cases e⟩
theorem i_enumL {elts : List Expr} {kk : Nat} {tpos p : Pos} (hK : X.K = G.K) (hm : X.mg "enumerate" = none) (he : SE X G E e f) (hg : Gl X "enumerate" := by rfl) (hs : starEach [e] X.env = [(false, eval e X.env)] := by rfl) : SI X G E (.Tuple elts kk tpos) (.Call (.Name "enumerate" p) [e] [] pos) (fIt isLst yEnu f) :=
  PI.imp (pi_enum hg hm (pa_cons he pa_nil (by rw [hs]; rfl)) hs) fun σc H R ⟨ι, σ, h, A⟩ =>
  ⟨ι, σ, h, A.bind (f := f) (g := fun v σ h k x => match isLst h v with | true => k (itSeq isLst yEnu v) h | false => false) fun ι1 h1 H1 v c s1 v1 A1 => by
    obtain ⟨s, r, k, x, e, P⟩ := A1
    split at e
    · rename_i hl
      obtain ⟨n, xs, cs, rfl, rfl, q1, q2, q3, q4⟩ := lst_only (k := fun _ => true) r v1 hl (seqO_no (.inl hl) fun _ => rfl)
      rw [hK]
      refine ⟨_, cs, rfl, SqL.of q4, P.ok _ _ _ _ _ (.refl r) (wr_list v1.1 y_enu (fun H i cs c q z => ⟨cs, c, q, z⟩) (fun H i cs c x H' q z y => ?_) fun H i cs q z => ⟨cs, q, z⟩) e⟩
      obtain ⟨T, x', t1, t2, t3, t4⟩ := y
      have := t4 cs q
      rw [z] at this
      cases this
      exact ⟨T, t1, t2, t3⟩
    · cases e⟩
theorem i_range {p : Pos} (hm : X.mg "range" = none) (he : SE X G E e f) (hg : Gl X "range" := by rfl) (hs : starEach [e] X.env = [(false, eval e X.env)] := by rfl) : SI X G E tg (.Call (.Name "range" p) [e] [] pos) (fItR f) :=
  PI.imp (pi_range1 hg hm (pa_cons he pa_nil (by rw [hs]; rfl)) hs) fun σc H R ⟨ι, σ, h, A⟩ =>
  ⟨ι, σ, h, A.bind (f := f) (g := fun v σ h k x => match v with | .int (.ofNat m) => (match Nat.ble m 1000 with | true => k (itRange 0 m) h | false => false) | _ => false) fun ι1 h1 H1 v c s1 v1 A1 => by
    obtain ⟨s, r, k, x, e, P⟩ := A1
    split at e
    · rename_i m
      split at e
      · rename_i hm
        have hm := Nat.le_of_ble_eq_true hm
        cases (show c = _ from v1)
        refine ⟨(m : Int), rfl, by omega, by omega, ?_⟩
        rw [Int.toNat_natCast]
        exact P.ok _ _ _ _ _ (.refl r) wr_range e
      · cases e
    · cases e⟩
theorem i_range2 {p : Pos} (hm : X.mg "range" = none) (he : SE X G E e f) (he2 : SE X G E e2 f2) (hg : Gl X "range" := by rfl) (hs : starEach [e, e2] X.env = [(false, eval e X.env), (false, eval e2 X.env)] := by rfl) (hs2 : starEach [e2] X.env = [(false, eval e2 X.env)] := by rfl) : SI X G E tg (.Call (.Name "range" p) [e, e2] [] pos) (fItR2 f f2) :=
  PI.imp (pi_range2 hg hm (pa_cons he (pa_cons he2 pa_nil (by rw [hs2]; rfl)) (by rw [hs, hs2])) hs hs2) fun σc H R ⟨ι, σ, h, A⟩ =>
  ⟨ι, σ, h, A.bind (f := f) (g := fun v σ h k x => f2 σ h (fun u h => match v, u with | .int (.ofNat l), .int (.ofNat m) => (match Nat.ble l 1000 with | true => (match Nat.ble m 1000 with | true => nfN (m - l) fun d => k (itRange (.ofNat l) d) h | false => false) | false => false) | _, _ => false) x) fun ι1 h1 H1 v c s1 v1 A1 => ⟨ι1, σ, h1, A1.bind (f := f2) (g := fun u σ h k x => match v, u with | .int (.ofNat l), .int (.ofNat m) => (match Nat.ble l 1000 with | true => (match Nat.ble m 1000 with | true => nfN (m - l) fun d => k (itRange (.ofNat l) d) h | false => false) | false => false) | _, _ => false) fun ι2 h2 H2 u d s2 v2 A2 => by
    obtain ⟨s, r, k, x, e, P⟩ := A2
    split at e
    · rename_i l m
      split at e
      · rename_i hl
        split at e
        · rename_i hm
          have hl := Nat.le_of_ble_eq_true hl
          have hm := Nat.le_of_ble_eq_true hm
          cases (show c = _ from v1)
          cases (show d = _ from v2)
          rw [nfN_eq] at e
          refine ⟨(l : Int), (m : Int), rfl, ⟨by omega, by omega, by omega, by omega⟩, ?_⟩
          rw [show ((m : Int) - (l : Int)).toNat = m - l by omega]
          exact P.ok _ _ _ _ _ (.refl r) wr_range e
        · cases e
      · cases e
    · cases e⟩⟩
end
end AIx
namespace AIx
open PySem L2
/-! ### for -/
def forI (it : FItr) (b : List AV → AS → AH → KS → Bool) (n : KS) : Nat → Nat → KS
  | 0, _, _, _ => false
  | m + 1, i, σ, h => it i h (n σ h) fun vs => b vs σ h fun σ h => forI it b n m (i + 1) σ h
def fFor (fuel : Nat) (tg : FG) (fi : FI) (body : FS) : FS := fun σ h n r x => fi σ h (fun it h => forI it (fun vs σ h k => tg vs σ fun σ => body σ h k r x) n fuel 0 σ h) x
section
variable {X : Cx} {G : GE} {E : XK} {tg iter : Expr} {fi : FI} {f : FG} {body : List Stmt} {fs : FS} {g : TG} {is : List Nat} {pos : Pos}
theorem S_for (fuel : Nat) (M : Amb X G E) (hi : SI X G E tg iter fi) (hg : PG X tg g) (hf : TgOk G.K g f is) (hb : SB X G E body fs) (hs0 : ∀ y, foldedSetIterable iter X.env y = pure y := by intro _; rfl) : SS X G E (.For tg iter body [] pos) (fFor fuel f fi fs) :=
  PS.imp (ps_for M.po M.calm hi hg hb hs0) fun D σc H ⟨ι, σ, h, A⟩ => ⟨ι, σ, h, A.exp (f := fi) (g := fun it σ h n r x => forI it (fun vs σ h k => f vs σ fun σ => fs σ h k r x) n fuel 0 σ h) fun ι1 h1 H1 it J s1 w1 A1 => by
    obtain ⟨s, r, n, rt, x, q, P⟩ := A1
    refine ⟨fun i m σ' H' => ∃ ι' σa h', Stp G ι1 h1 H1 ι' h' H' ∧ SRel ι' h'.length σa σ' ∧ forI it (fun vs σ h k => f vs σ fun σ => fs σ h k rt x) n m i σa h' = true, ⟨fuel, ι1, σ, h1, .refl r, s, q⟩, fun i m σ' H' w => ?_⟩
    obtain ⟨ι', σa, h', st, sr, e⟩ := w
    cases m with
    | zero => cases e
    | succ m =>
      rcases w1 ι' h' H' i _ _ st.agr st.le st.rel e with ⟨a, b⟩ | ⟨a, b⟩
      · exact .inl ⟨a, (P.later st).nx _ _ _ _ _ (.refl st.rel) sr b⟩
      · refine .inr ⟨a, fun σ3 H3 => ∃ ι3 σb h3, Stp G ι1 h1 H1 ι3 h3 H3 ∧ SRel ι3 h3.length σb σ3 ∧ forI it (fun vs σ h k => f vs σ fun σ => fs σ h k rt x) n m (i + 1) σb h3 = true, fun σ3 H3 w => ⟨m, Nat.lt_succ_self m, w⟩, fun y H2 yl => ?_⟩
        obtain ⟨vs, k1, s2, y2⟩ := b y H2 yl
        refine hf ι' h'.length H2 vs y σa σ' _ _ y2 sr k1 fun σ2 σc2 sr2 _ k2 => ?_
        refine ⟨ι', σ2, h', sr2, s2.rel, _, rt, x, k2, ⟨fun ι3 h3 H3 σb σ3 s3 sr3 e3 => ⟨ι3, σb, h3, (st.trans s2).trans s3, sr3, e3⟩, (P.later (st.trans s2)).rt, (P.later (st.trans s2)).ex⟩⟩⟩
end
/-! ### [e for x in xs if t] -/
def EF : XK := fun _ _ _ => False
def noX : KX := fun _ _ => false
def lcI (it : FItr) (b : List AV → AH → (AH → Bool) → Bool) (n : AH → Bool) : Nat → Nat → AH → Bool
  | 0, _, _ => false
  | m + 1, i, h => it i h (n h) fun vs => b vs h fun h => lcI it b n m (i + 1) h
def pushK (d : Nat) (y : AV) (h : AH) (k : AH → Bool) : Bool := match getO h d with
  | some (.lst acc) => (match Nat.ble (lenN acc) 1000 with | true => appK acc [y] fun ys => setK h d (.lst ys) k | false => false)
  | _ => false
def wipeA (σ : AS) : List Nat → AS
  | [] => σ
  | v :: vs => (wipeA σ vs).set v none
def wipeK (σ : AS) : List Nat → (AS → Bool) → Bool
  | [], k => k σ
  | v :: vs, k => wipeK σ vs fun σ => setK σ v none k
theorem wipeK_eq (σ : AS) : ∀ (vs : List Nat) (k : AS → Bool), wipeK σ vs k = k (wipeA σ vs)
  | [], _ => rfl
  | v :: vs, k => by rw [wipeK, wipeK_eq σ vs]; simp only [setK_eq]; rfl
theorem SRel.unset {ι : Nat → Addr} {N : Nat} {σ : AS} {σc : St} (i : Nat) (s : SRel ι N σ σc) : SRel ι N (σ.set i none) (σc.set i none) := by
  refine ⟨by simp [s.1], fun j w e => ?_⟩
  by_cases hj : j = i
  · subst hj
    by_cases hl : j < σ.length
    · rw [List.getElem?_set_self hl] at e
      cases e
    · rw [List.getElem?_eq_none (by simpa using hl)] at e
      cases e
  · rw [List.getElem?_set_ne (Ne.symm hj)] at e
    obtain ⟨d, e1, e2⟩ := s.2 j w e
    exact ⟨d, by rw [List.getElem?_set_ne (Ne.symm hj)]; exact e1, e2⟩
theorem SRel.wipe {ι : Nat → Addr} {N : Nat} {σ : AS} {σc : St} (s : SRel ι N σ σc) : ∀ vs : List Nat, SRel ι N (wipeA σ vs) (L2.wipe σc vs)
  | [] => s
  | v :: vs => (SRel.wipe s vs).unset v
def fTrue : FT := fun _ h k _ => k true h
def lcB (d : Nat) (σ : AS) (tg : FG) (t : FT) (e : FE) : List AV → AH → (AH → Bool) → Bool := fun vs h k => tg vs σ fun σ => t σ h (fun c h => match c with | true => e σ h (fun y h => pushK d y h k) noX | false => k h) noX
def fLc (fuel : Nat) (vs : List Nat) (tg : FG) (fi : FI) (t : FT) (e : FE) : FE := fun σ h k x => fi σ h (fun it h => wipeK σ vs fun σ => appK h [.lst []] fun h1 => nfN (lenN h) fun d => lcI it (lcB d σ tg t e) (fun h => k (.ref d) h) fuel 0 h1) x
theorem pushK_ok {G : GE} {ι : Nat → Addr} {h : AH} {H : Hp} {d : Nat} {y : AV} {c : V} {k : AH → Bool} (hr : HRel G ι h H) (v : VRel ι h.length y c) (e : pushK d y h k = true) : ∃ acc h', H (ι d) = some (.lst acc) ∧ acc.length < sizeLine ∧ Stp G ι h H ι h' (upd H (ι d) (.lst (acc ++ [c]))) ∧ k h' = true := by
  unfold pushK at e
  rw [getO_eq] at e
  split at e
  · rename_i acc q
    split at e
    · rename_i hb
      rw [lenN_eq] at hb
      have hb := Nat.le_of_ble_eq_true hb
      rw [appK_eq, setK_eq] at e
      obtain ⟨cs, e1, e2⟩ := hr.obj d _ q
      refine ⟨cs, _, e1, ?_, Stp.change (o' := .lst (acc ++ [y])) hr q e1 (.inl ⟨_, rfl⟩) ⟨_, upd_same, VsRel.app e2 (.cons v .nil)⟩, e⟩
      rw [← e2.length]
      exact Nat.lt_of_le_of_lt hb (by decide)
    · cases e
  · cases e
section
variable {X : Cx} {G : GE} {E : XK} {tg iter elt : Expr} {ifs : List Expr} {fi : FI} {f : FG} {t : FT} {fe : FE} {g : TG} {is : List Nat} {own : List (Str × Nat)} {scope : Scope} {pos : Pos}
theorem lc_imp (fuel : Nat) (hf : TgOk G.K g f is) (hw : ∀ i ∈ is, i ∈ own.map (·.2)) {σc : St} {H : Hp} {Q : VK} (q : rdE G E (fLc fuel (own.map (·.2)) f fi t fe) σc H Q) : tLc (rdI G E fi) g (rdT G EF t) (rdE G EF fe) (own.map (·.2)) σc H Q := by
  obtain ⟨ι, σ, h, A⟩ := q
  refine ⟨ι, σ, h, A.bind (f := fi) (g := fun it σ h k x => wipeK σ (own.map (·.2)) fun σ => appK h [.lst []] fun h1 => nfN (lenN h) fun d => lcI it (lcB d σ f t fe) (fun h => k (AV.ref d) h) fuel 0 h1) fun ι1 h1 H1 it J s1 w1 A1 D hD => ?_⟩
  obtain ⟨s, r, k, x, e, P⟩ := A1
  rw [wipeK_eq, appK_eq, nfN_eq, lenN_eq] at e
  have st0 := Stp.newL r hD (xs := []) (cs := []) .nil
  generalize eσ : wipeA σ (own.map (·.2)) = σw at e
  have sw : SRel ι1 h1.length σw (L2.wipe σc (own.map (·.2))) := by rw [← eσ]; exact s.wipe _
  refine ⟨fun i m H' => ∃ ι' h', Stp G (updI ι1 h1.length D) (h1 ++ [.lst []]) (upd H1 D (.lst [])) ι' h' H' ∧ lcI it (lcB h1.length σw f t fe) (fun h => k (.ref h1.length) h) m i h' = true, ⟨fuel, _, _, .refl st0.rel, e⟩, fun i m H' w => ?_⟩
  obtain ⟨ι', h', st, e⟩ := w
  have ud : ι' h1.length = D := by rw [st.agr _ (by simp), updI_same]
  have stt := st0.trans st
  cases m with
  | zero => cases e
  | succ m =>
    rcases w1 ι' h' H' i _ _ stt.agr stt.le stt.rel e with ⟨a, b⟩ | ⟨a, b⟩
    · refine .inl ⟨a, P.ok _ _ _ (.ref h1.length) _ stt ⟨?_, by rw [ud]⟩ b⟩
      exact Nat.lt_of_lt_of_le (by simp) st.le
    · refine .inr ⟨a, fun H3 => ∃ ι3 h3, Stp G (updI ι1 h1.length D) (h1 ++ [.lst []]) (upd H1 D (.lst [])) ι3 h3 H3 ∧ lcI it (lcB h1.length σw f t fe) (fun h => k (.ref h1.length) h) m (i + 1) h3 = true, fun H3 w => ⟨m, Nat.lt_succ_self m, w⟩, fun y H2 yl => ?_⟩
      obtain ⟨vs, k1, s2, y2⟩ := b y H2 yl
      refine hf ι' h'.length H2 vs y σw _ _ _ y2 (stt.sr sw) k1 fun σ2 σc2 sr2 ww k2 => ⟨by rw [ww _ hw]; refine List.ext_getElem? fun j => ?_; rw [wipe_get, wipe_get]; split <;> simp_all [wipe_length], ?_⟩
      refine ⟨ι', σ2, h', sr2, s2.rel, _, noX, k2, ⟨fun ι3 h3 H3 bb bc s3 eb k3 => ?_, fun _ _ _ _ _ z => nomatch z⟩⟩
      have eb : bb = bc := (show bc = bb from eb).symm
      subst eb
      cases bb with
      | true =>
        simp only [if_true]
        refine ⟨ι3, σ2, h3, s3.sr sr2, s3.rel, _, noX, k3, ⟨fun ι4 h4 H4 v c s4 v4 k4 => ?_, fun _ _ _ _ _ z => nomatch z⟩⟩
        obtain ⟨acc, h5, p1, p2, p3, p4⟩ := pushK_ok s4.rel v4 k4
        have ud4 : ι4 h1.length = D := by
          rw [s4.agr _ ?_, s3.agr _ ?_, ud]
          · exact Nat.lt_of_lt_of_le (by simp) st.le
          · exact Nat.lt_of_lt_of_le (Nat.lt_of_lt_of_le (by simp) st.le) s3.le
        rw [ud4] at p1 p3
        exact ⟨acc, p1, p2, ι4, h5, (((st.trans s2).trans s3).trans s4).trans p3, p4⟩
      | false =>
        simp only [Bool.false_eq_true, if_false]; exact ⟨ι3, h3, (st.trans s2).trans s3, k3⟩
abbrev Blk (X : Cx) (scope : Scope) (P : Cx → Prop) : Prop := ∀ (s : Shared) (H : Hp) (C : Addr) (cl : List (Str × Addr)) (fp : List Addr), P (X.blk s H scope (compEnvC scope cl C X.env) fp)
theorem s_lc (fuel : Nat) (M : Amb X G E) (hN : X.N.Nodup) (hi : SI X G E tg iter fi) (hf : TgOk G.K g f is) (ok : blkC X.N X.env.scope scope own = true) (hg : Blk X scope fun X => PG X tg g) (he : Blk X scope fun X => SE X G EF elt fe) (hw : ∀ i ∈ is, i ∈ own.map (·.2) := by decide) (hs : ∀ x, foldedSetIterable iter X.env x = pure x := by intro _; rfl) :
    SE X G E (.ListComp elt [⟨tg, iter, [], 0⟩] scope pos) (fLc fuel (own.map (·.2)) f fi fTrue fe) := PE.imp (pe_lc M.calm hN hi (blkOk_by ok) hg (fun s H C cl fp => (⟨fun pins s σ H Q I h => pts_nil.run pins s σ H Q I (by obtain ⟨ι, σ, h, A⟩ := h; exact A.ret (VR := BRel) rfl)⟩ : PTs _ [] (rdT G EF fTrue))) he hs) fun σc H Q q => lc_imp fuel hf hw q
theorem s_lcIf (fuel : Nat) {c : Expr} (M : Amb X G E) (hN : X.N.Nodup) (hi : SI X G E tg iter fi) (hf : TgOk G.K g f is) (ok : blkC X.N X.env.scope scope own = true) (hg : Blk X scope fun X => PG X tg g) (ht : Blk X scope fun X => ST X G EF c t) (he : Blk X scope fun X => SE X G EF elt fe) (hw : ∀ i ∈ is, i ∈ own.map (·.2) := by decide) (hs : ∀ x, foldedSetIterable iter X.env x = pure x := by intro _; rfl) :
    SE X G E (.ListComp elt [⟨tg, iter, [c], 0⟩] scope pos) (fLc fuel (own.map (·.2)) f fi t fe) := PE.imp (pe_lc M.calm hN hi (blkOk_by ok) hg (fun s H C cl fp => pts_one (ht s H C cl fp)) he hs) fun σc H Q q => lc_imp fuel hf hw q
/-- name = [..] on one line -/
theorem S_setLc (fuel : Nat) {i : Nat} {y : Str} {py spos : Pos} (M : Amb X G E) (hN : X.N.Nodup) (hi : SI X G E tg iter fi) (hf : TgOk G.K g f is) (ok : blkC X.N X.env.scope scope own = true) (hg : Blk X scope fun X => PG X tg g) (he : Blk X scope fun X => SE X G EF elt fe)
    (hsw : swapsWith (.ListComp elt [⟨tg, iter, [], 0⟩] scope pos) (some (.Name y py)) spos.line X.env = pure true) (hy : X.N[i]? = some y := by rfl) (hyl : X.env.scope.names.lookup y = some .local := by rfl) (hw : ∀ i ∈ is, i ∈ own.map (·.2) := by decide) (hs : ∀ x, foldedSetIterable iter X.env x = pure x := by intro _; rfl) :
    SS X G E (.Assign [.Name y py] (.ListComp elt [⟨tg, iter, [], 0⟩] scope pos) spos) (fSet i (fLc fuel (own.map (·.2)) f fi fTrue fe)) := PS.imp (ps_setLc M.calm hN hy hyl hsw hi (blkOk_by ok) hg (fun s H C cl fp => (⟨fun pins s σ H Q I h => pts_nil.run pins s σ H Q I (by obtain ⟨ι, σ, h, A⟩ := h; exact A.ret (VR := BRel) rfl)⟩ : PTs _ [] (rdT G EF fTrue))) he hs) fun D σc H ⟨ι, σ, h, A⟩ =>
  lc_imp fuel hf hw ⟨ι, σ, h, A.exp (f := fLc fuel (own.map (·.2)) f fi fTrue fe) (g := fun v σ h n r x => setK σ i (some v) fun σ => n σ h) fun ι1 h1 H1 v c s1 v1 A1 => A1.set v1⟩
theorem S_setLcIf (fuel : Nat) {c : Expr} {i : Nat} {y : Str} {py spos : Pos} (M : Amb X G E) (hN : X.N.Nodup) (hi : SI X G E tg iter fi) (hf : TgOk G.K g f is) (ok : blkC X.N X.env.scope scope own = true) (hg : Blk X scope fun X => PG X tg g) (ht : Blk X scope fun X => ST X G EF c t) (he : Blk X scope fun X => SE X G EF elt fe)
    (hsw : swapsWith (.ListComp elt [⟨tg, iter, [c], 0⟩] scope pos) (some (.Name y py)) spos.line X.env = pure true) (hy : X.N[i]? = some y := by rfl) (hyl : X.env.scope.names.lookup y = some .local := by rfl) (hw : ∀ i ∈ is, i ∈ own.map (·.2) := by decide) (hs : ∀ x, foldedSetIterable iter X.env x = pure x := by intro _; rfl) :
    SS X G E (.Assign [.Name y py] (.ListComp elt [⟨tg, iter, [c], 0⟩] scope pos) spos) (fSet i (fLc fuel (own.map (·.2)) f fi t fe)) := PS.imp (ps_setLc M.calm hN hy hyl hsw hi (blkOk_by ok) hg (fun s H C cl fp => pts_one (ht s H C cl fp)) he hs) fun D σc H ⟨ι, σ, h, A⟩ =>
  lc_imp fuel hf hw ⟨ι, σ, h, A.exp (f := fLc fuel (own.map (·.2)) f fi t fe) (g := fun v σ h n r x => setK σ i (some v) fun σ => n σ h) fun ι1 h1 H1 v c s1 v1 A1 => A1.set v1⟩
end
end AIx
namespace AIx
open PySem L2
/-! ### calls -/
abbrev GE.wl (G : GE) (l : Nat → Option LamD) : GE := { G with lam := l }
/-- a def's promise: the abstract run of its arguments -/
def spF (G : GE) (n : Nat) (F : FF) : Sp := fun vs H Q E => vs.length = n ∧ ∃ ι h as k x, VsRel ι h.length as vs ∧ HRel G ι h H ∧ F as h k x = true ∧ Pst G VRel E ι h H k x Q
def mkSt : List AV → AS → (AS → Bool) → Bool
  | [], r, k => k r
  | a :: as, r, k => mkSt as r fun σ => k (some a :: σ)
theorem mkSt_eq : ∀ (as : List AV) (r : AS) (k : AS → Bool), mkSt as r k = k (as.map some ++ r)
  | [], _, _ => rfl
  | a :: as, r, k => by rw [mkSt, mkSt_eq as]; rfl
def fDef (n : Nat) (r : AS) (fs : FS) : FF := fun as h k x => match Nat.beq (lenN as) n with | true => mkSt as r fun σ => fs σ h (fun _ h => k .non h) k x | false => false
theorem fDef_len {n : Nat} {r : AS} {fs : FS} {as : List AV} {h : AH} {k : KV} {x : KX} (e : fDef n r fs as h k x = true) : as.length = n ∧ fs (as.map some ++ r) h (fun _ h => k .non h) k x = true := by
  unfold fDef at e
  split at e
  · rename_i q
    rw [lenN_eq] at q
    rw [mkSt_eq] at e
    exact ⟨Nat.eq_of_beq_eq_true q, e⟩
  · cases e
structure CalF (P : Program) (w : World) (K : PySem.W.Frag) (mg : Str → Option Value) (base : Heap) (G : GE) (k : Nat) (x : Str) (n : Nat) (F : FF) : Prop where
  ex : ∃ (f : Addr) (fd : FuncData) (ps : List Str), (∀ l, FnOk P w K mg base (L2.CX P w) k f fd ps (spF (G.wl l) n F)) ∧ mg x = some (.ref f) ∧ PySem.W.keepIn K (.ref f) = true ∧ L2.Binds K fd ps []
  len : ∀ as h k x, F as h k x = true → as.length = n
theorem sr_start {ι : Nat → Addr} {N n : Nat} {as : List AV} {vs : List V} {Ns : List Str} {r : AS} (q : VsRel ι N as vs) (hn : as.length = n) (hr : r = List.replicate (Ns.length - n) none) : SRel ι N (as.map some ++ r) (L2.start Ns vs) := by
  subst hr
  have hl : as.length = vs.length := q.length
  unfold L2.start
  refine ⟨by simp [hl, ← hn], fun i v e => ?_⟩
  by_cases h : i < as.length
  · rw [List.getElem?_append_left (by simpa using h), List.getElem?_map] at e
    cases e1 : as[i]? with
    | none => rw [e1] at e; cases e
    | some w =>
      rw [e1] at e
      cases e
      obtain ⟨c, c1, c2⟩ := VsRel.get q e1
      refine ⟨c, ?_, c2⟩
      rw [List.getElem?_append_left (by rw [List.length_map, ← hl]; exact h), List.getElem?_map, c1]
      rfl
  · rw [List.getElem?_append_right (by simpa using h), List.getElem?_replicate] at e
    split at e <;> cases e
section
variable {P : Program} {w : World} {K : PySem.W.Frag}
variable {mg : Str → Option Value} {base : Heap}
/-- a def by the abstract run of its body -/
theorem fn_F {G : GE} {x qual : Str} {st : Stmt} {f : Addr} {fd : FuncData} {N ps : List Str} {k n : Nat} {r : AS} {fs : FS} (F : Fun K x qual st f fd) (S : FnScope N ps (defScope st)) (hn : ps.length = n) (hr : r = List.replicate (N.length - n) none)
    (hb : ∀ (l : Nat → Option LamD) (cdv : Value) (A : Around) (outer : List Env) (s : Shared) (H : Hp) (E : XK), Room k (A.deeper (PyProof.Rows.envOfC qual (defScope st) s.heap.objs.size f cdv)) → SB (cxOf (L2.CX P w) P w K mg base N qual (defScope st) f cdv A outer s H E) (G.wl l) E (defBody st) fs) (l : Nat → Option LamD) :
    FnOk P w K mg base (L2.CX P w) (k + 1) f fd ps (spF (G.wl l) n (fDef n r fs)) := by
  refine F.okX S (fun vs H Q E h => by rw [hn]; exact h.1) fun cdv A outer s H vs Q E hr' h => ⟨_, hb l cdv A outer s H E hr', ?_⟩
  obtain ⟨hl, ι, h, as, kk, x, q, rr, e, Ps⟩ := h
  obtain ⟨e1, e2⟩ := fDef_len e
  refine ⟨ι, _, h, sr_start q e1 hr, rr, _, kk, x, e2, ⟨fun ι' h' H' σ' σc' st sr e => Ps.ok _ _ _ .non _ st rfl e, Ps.ok, Ps.ex⟩⟩
end
/-! what is told behind a call -/
def retK (m : Nat) (k : KV) : KV := fun v h => match v with
  | .ref n => (match Nat.blt n m with | true => truncK m h (k (.ref n)) | false => k (.ref n) h)
  | v => truncK m h (k v)
def excK (m : Nat) (x : KX) : KX := fun c h => truncK m h (x c)
def fCall (F : FF) (r : FA) : FE := fun σ h k x => r σ h (fun vs h => nfN (lenN h) fun m => F vs h (retK m k) (excK m x)) x
/-- no places among them -/
def noRef : List AV → Bool
  | [] => true
  | .ref _ :: _ => false
  | _ :: r => noRef r
def isoK (h : AH) (k : KV) : KV := fun v _ => match v with | .ref _ => k .any h | v => k v h
/-- numbers only: from an empty heap -/
def fCallI (F : FF) (r : FA) : FE := fun σ h k x => r σ h (fun vs h => match noRef vs with | true => F vs [] (isoK h k) (fun c _ => x c h) | false => false) x
section
variable {G : GE} {E : XK} {ι ι' : Nat → Addr} {h h' : AH} {H H' : Hp} {Q : VK}
theorem retK_ok {k : KV} {v : AV} {c : V} (st : Stp G ι h H ι' h' H') (vr : VRel ι' h'.length v c) (e : retK h.length k v h' = true) (p : ∀ h2, Stp G ι h H ι' h2 H' → VRel ι' h2.length v c → k v h2 = true → Q c H') : Q c H' := by
  have tl : (AIx.trunc h.length h').length = h.length := trunc_len st.le
  unfold retK at e
  split at e
  · rename_i n
    split at e
    · rename_i hb
      rw [truncK_eq] at e
      exact p _ st.trunc ⟨by rw [tl]; exact blt_lt hb, vr.2⟩ e
    · exact p _ st vr e
  · rename_i hv
    rw [truncK_eq] at e
    refine p _ st.trunc ?_ e
    cases v with
    | ref n => exact absurd rfl (hv n)
    | _ => exact vr
theorem pst_call {k : KV} {x : KX} (r : HRel G ι h H) (P : Pst G VRel E ι h H k x Q) : Pst G VRel E ι h H (retK h.length k) (excK h.length x) Q :=
  ⟨fun ι' h' H' a b st vr e => retK_ok st vr e fun h2 s2 v2 e2 => P.ok _ _ _ _ _ s2 v2 e2, fun ι' h' H' c st e => by
    unfold excK at e
    rw [truncK_eq] at e
    exact P.ex _ _ _ _ st.trunc e⟩
theorem noRef_ok : ∀ {as : List AV} {vs : List V} {N : Nat} , noRef as = true → VsRel ι N as vs → VsRel ι 0 as vs
  | [], _, _, _, .nil => .nil
  | a :: as, _, _, e, .cons q t => by
    cases a with
    | ref n => cases e
    | _ => exact .cons q (noRef_ok e t)
theorem pst_iso {k : KV} {x : KX} (r : HRel G ι h H) (P : Pst G VRel E ι h H k x Q) : Pst G VRel E ι [] H (isoK h k) (fun c _ => x c h) Q :=
  ⟨fun ι' h' H' a b st vr e => by
    have s2 := Stp.iso r st
    cases a with
    | ref n => exact P.ok _ _ _ .any _ s2 True.intro e
    | non => exact P.ok _ _ _ .non _ s2 vr e
    | bl z => exact P.ok _ _ _ (.bl z) _ s2 vr e
    | int z => exact P.ok _ _ _ (.int z) _ s2 vr e
    | str z => exact P.ok _ _ _ (.str z) _ s2 vr e
    | any => exact P.ok _ _ _ .any _ s2 vr e, fun ι' h' H' c st e => P.ex _ _ _ _ (Stp.iso r st) e⟩
end
section
variable {X : Cx} {G : GE} {E : XK} {k j n : Nat} {x : Str} {F : FF} {fr : FA} {e : Expr} {es : List Expr} {p pos : Pos}
theorem wl_self (G : GE) : G.wl G.lam = G := rfl
theorem s_call (M : Amb X G E) (hr : Room j X.A) (c : CalF X.prog X.w X.K X.mg X.base G k x n F) (ha : SA X G E (e :: es) fr) (hk : k ≤ j := by decide) (hg : Gl X x := by rfl) (hdb : (x == ("__debug__" : Str)) = false := by decide)
    (he : starEach (e :: es) X.env = (false, eval e X.env) :: starEach es X.env := by rfl) (hpl : (backTo pos (starEach es X.env)).any (·.1) = false := by rfl) : SE X G E (.Call (.Name x p) (e :: es) [] pos) (fCall F fr) := by
  obtain ⟨f, fd, ps, Fn, hm, kp, hb⟩ := c.ex
  refine PE.imp (pe_callS (E := fun σ => WE (fun cls d _ H => E cls d H) σ) (Fn G.lam) (hr.mono hk) hg hm kp hb (passAt M.tk) ha hdb he hpl) fun σc H Q ⟨ι, σ, h, A⟩ => ⟨ι, σ, h, A.bind (f := fr) (g := fun vs σ h k x => nfN (lenN h) fun m => F vs h (retK m k) (excK m x)) fun ι1 h1 H1 vs cs s1 v1 A1 => ?_⟩
  obtain ⟨s, r, kk, xx, q, P⟩ := A1
  rw [nfN_eq, lenN_eq] at q
  exact ⟨by rw [← v1.length]; exact c.len _ _ _ _ q, ι1, h1, vs, _, _, v1, r, q, pst_call r P⟩
theorem s_callI (M : Amb X G E) (hr : Room j X.A) (c : CalF X.prog X.w X.K X.mg X.base G k x n F) (ha : SA X G E (e :: es) fr) (hk : k ≤ j := by decide) (hg : Gl X x := by rfl) (hdb : (x == ("__debug__" : Str)) = false := by decide)
    (he : starEach (e :: es) X.env = (false, eval e X.env) :: starEach es X.env := by rfl) (hpl : (backTo pos (starEach es X.env)).any (·.1) = false := by rfl) : SE X G E (.Call (.Name x p) (e :: es) [] pos) (fCallI F fr) := by
  obtain ⟨f, fd, ps, Fn, hm, kp, hb⟩ := c.ex
  refine PE.imp (pe_callS (E := fun σ => WE (fun cls d _ H => E cls d H) σ) (Fn G.lam) (hr.mono hk) hg hm kp hb (passAt M.tk) ha hdb he hpl) fun σc H Q ⟨ι, σ, h, A⟩ => ⟨ι, σ, h, A.bind (f := fr) (g := fun vs σ h k x => match noRef vs with | true => F vs [] (isoK h k) (fun c _ => x c h) | false => false) fun ι1 h1 H1 vs cs s1 v1 A1 => ?_⟩
  obtain ⟨s, r, kk, xx, q, P⟩ := A1
  split at q
  · rename_i hn
    exact ⟨by rw [← v1.length]; exact c.len _ _ _ _ q, ι1, [], vs, _, _, noRef_ok hn v1, r.empty, q, pst_iso r P⟩
  · cases q
/-- no argument -/
def fCall0 (F : FF) : FE := fun σ h k x => nfN (lenN h) fun m => F [] h (retK m k) (excK m x)
theorem s_call0 (M : Amb X G E) (hr : Room j X.A) (c : CalF X.prog X.w X.K X.mg X.base G k x n F) (hk : k ≤ j := by decide) (hg : Gl X x := by rfl) (hdb : (x == ("__debug__" : Str)) = false := by decide) : SE X G E (.Call (.Name x p) [] [] pos) (fCall0 F) := by
  obtain ⟨f, fd, ps, Fn, hm, kp, hb⟩ := c.ex
  refine PE.imp (pe_call0 (ds := []) (dvs := []) (E := E) (Fn G.lam) (hr.mono hk) hg hm kp hb .nil (fun pins σ H s e s' I c => passAt M.tk σ pins H s e s' I c) hdb) fun σc H Q ⟨ι, σ, h, A⟩ => ?_
  obtain ⟨s, r, kk, xx, q, P⟩ := A
  unfold fCall0 at q
  rw [nfN_eq, lenN_eq] at q
  exact ⟨c.len _ _ _ _ q, ι, h, [], _, _, .nil, r, q, pst_call r P⟩
end
/-! ### classes: C(e, ..), o.m(e, ..) -/
structure MakF (P : Program) (w : World) (K : PySem.W.Frag) (mg : Str → Option Value) (base : Heap) (G : GE) (k : Nat) (x : Str) (c n : Nat) (F : FF) : Prop where
  ex : ∃ (f : Addr) (fd : FuncData) (ps : List Str), (∀ l, FnOk P w K mg base (L2.CX P w) k f fd ps (spF (G.wl l) n F)) ∧ Mk K (G.cls c) f ∧ mg x = some (.ref (G.cls c)) ∧ L2.Binds K fd ps []
  len : ∀ as h k x, F as h k x = true → as.length = n
structure MetF (P : Program) (w : World) (K : PySem.W.Frag) (mg : Str → Option Value) (base : Heap) (G : GE) (k : Nat) (m : Str) (c n : Nat) (F : FF) : Prop where
  ex : ∃ (f : Addr) (fd : FuncData) (ps : List Str), (∀ l, FnOk P w K mg base (L2.CX P w) k f fd ps (spF (G.wl l) n F)) ∧ Cls K (G.cls c) ∧ Meth K (G.cls c) m f ∧ L2.Binds K fd ps []
  len : ∀ as h k x, F as h k x = true → as.length = n
def fMake (c : Nat) (F : FF) (r : FA) : FE := fun σ h k x => r σ h (fun vs h => newK (.ins c none) h fun v h => nfN (lenN h) fun m => F (v :: vs) h (fun w h => match w with | .non => truncK m h (k v) | _ => false) (excK m x)) x
def isIns (c : Nat) (v : AV) (h : AH) : Bool := match v with | .ref n => (match getO h n with | some (.ins d _) => Nat.beq d c | _ => false) | _ => false
def fMeth (c : Nat) (F : FF) (o : FE) (r : FA) : FE := fun σ h k x => o σ h (fun v h => match isIns c v h with | true => r σ h (fun vs h => nfN (lenN h) fun m => F (v :: vs) h (retK m k) (excK m x)) x | false => false) x
theorem isIns_ok {G : GE} {ι : Nat → Addr} {h : AH} {H : Hp} {c : Nat} {v : AV} {z : V} (r : HRel G ι h H) (vr : VRel ι h.length v z) (e : isIns c v h = true) : ∃ n w dx fs, v = .ref n ∧ z = .ref (ι n) ∧ h[n]? = some (.ins c w) ∧ H (ι n) = some (.ins (G.cls c) dx fs) ∧ FldRel ι h.length c w fs := by
  unfold isIns at e
  split at e
  · rename_i n
    rw [getO_eq] at e
    split at e
    · rename_i d w q
      have hd := Nat.eq_of_beq_eq_true e
      subst hd
      obtain ⟨dx, fs, e1, e2⟩ := r.obj n _ q
      exact ⟨n, w, dx, fs, rfl, vr.2, q, e1, e2⟩
    · cases e
  · cases e
section
variable {X : Cx} {G : GE} {E : XK} {k j n : Nat} {x m : Str} {F : FF} {fo : FE} {fr : FA} {o e : Expr} {es : List Expr} {p pos apos : Pos}
theorem s_make (c : Nat) (M : Amb X G E) (hr : Room j X.A) (cc : MakF X.prog X.w X.K X.mg X.base G k x c n F) (ha : SA X G E (e :: es) fr) (hk : k + 1 ≤ j := by decide) (hg : Gl X x := by rfl) (hdb : (x == ("__debug__" : Str)) = false := by decide)
    (he : starEach (e :: es) X.env = (false, eval e X.env) :: starEach es X.env := by rfl) (hpl : (backTo pos (starEach es X.env)).any (·.1) = false := by rfl) : SE X G E (.Call (.Name x p) (e :: es) [] pos) (fMake c F fr) := by
  obtain ⟨f, fd, ps, Fn, mk, hm, hb⟩ := cc.ex
  refine PE.imp (pe_make (ds := []) (dvs := []) (E := E) mk (Fn G.lam) (hr.mono hk) hg hm hb .nil (fun pins σ H s e s' I c => passAt M.tk σ pins H s e s' I c) ha hdb he hpl) fun σc H Q ⟨ι, σ, h, A⟩ =>
    ⟨ι, σ, h, A.bind (f := fr) (g := fun vs σ h k x => newK (.ins c none) h fun v h => nfN (lenN h) fun m => F (v :: vs) h (fun w h => match w with | .non => truncK m h (k v) | _ => false) (excK m x)) fun ι1 h1 H1 vs cs s1 v1 A1 => fun a dx ha hdx ne => ?_⟩
  obtain ⟨s, r, kk, xx, q, P⟩ := A1
  rw [newK_eq, nfN_eq, lenN_eq] at q
  have st1 := Stp.hid (p := dx) (o := .own a) r hdx
  have st2 := Stp.alloc (p := a) (o := .ins c none) (oc := .ins (G.cls c) dx []) st1.rel (by rw [upd_ne ne.symm]; exact ha) ⟨dx, [], upd_same, rfl⟩
  have st := st1.trans st2
  have tl : ∀ {h'' : AH}, (h1 ++ [AO.ins c none]).length ≤ h''.length → (AIx.trunc (h1 ++ [AO.ins c none]).length h'').length = (h1 ++ [AO.ins c none]).length := fun q => trunc_len q
  rw [List.append_nil]
  refine ⟨by rw [List.length_cons, ← v1.length]; have := cc.len _ _ _ _ q; simpa using this, _, _, _, _, _, .cons VRel.new (st.vsr v1), st.rel, q, ⟨fun ι' h' H' w z st3 vr e => ?_, fun ι' h' H' c st3 e => ?_⟩⟩
  · split at e
    · rw [truncK_eq] at e
      refine ⟨vr, P.ok _ _ _ _ _ (st.trans st3.trunc) ?_ e⟩
      rw [show (AIx.trunc (h1 ++ [AO.ins c none]).length h').length = (h1 ++ [AO.ins c none]).length from tl st3.le]
      exact ⟨by simp, by rw [st3.agr _ (by simp), updI_same]⟩
    · cases e
  · unfold excK at e
    rw [truncK_eq] at e
    exact P.ex _ _ _ _ (st.trans st3.trunc) e
theorem s_meth (c : Nat) (M : Amb X G E) (hr : Room j X.A) (cc : MetF X.prog X.w X.K X.mg X.base G k m c n F) {pl : Sem Bool} (ho : SE X G E o fo) (ha : SA X G E (e :: es) fr) (hmf : m ≠ fldN c := by decide) (hk : k ≤ j := by decide)
    (hst : starEach (e :: es) X.env = (false, eval e X.env) :: starEach es X.env := by rfl) (hpl : (backTo pos (starEach es X.env)).any (·.1) = false := by rfl) (ht : eval (.Call (.Attribute o m apos) (e :: es) [] pos) X.env = (do
      let r ← eval o X.env; standAt apos.atName; let (f, first) ← holding [r] (getMethod r m pl)
      callWith pos f first (backTo pos (starEach (e :: es) X.env)) (backToKw pos (keywordEach [] X.env))) := by rfl) : SE X G E (.Call (.Attribute o m apos) (e :: es) [] pos) (fMeth c F fo fr) := by
  obtain ⟨f, fd, ps, Fn, hC, hM, hb⟩ := cc.ex
  refine PE.imp (pe_meth (pl := pl) (ds := []) (dvs := []) (E := E) ho hC hM (Fn G.lam) (hr.mono hk) hb .nil (fun pins σ H s e s' I c => passAt M.tk σ pins H s e s' I c) ha hst hpl ht) fun σc H Q ⟨ι, σ, h, A⟩ =>
    ⟨ι, σ, h, A.bind (f := fo) (g := fun v σ h k x => match isIns c v h with | true => fr σ h (fun vs h => nfN (lenN h) fun m => F (v :: vs) h (retK m k) (excK m x)) x | false => false) fun ι1 h1 H1 v z s1 v1 A1 => ?_⟩
  obtain ⟨s, r, kk, xx, q, P⟩ := A1
  split at q
  · rename_i hi
    obtain ⟨n0, w0, dx, fs, rfl, rfl, e0, e1, e2⟩ := isIns_ok r v1 hi
    refine ⟨_, dx, fs, rfl, e1, ?_, ι1, σ, h1, At.bind (f := fr) (g := fun vs σ h k x => nfN (lenN h) fun m => F (.ref n0 :: vs) h (retK m k) (excK m x)) ⟨s, r, kk, xx, q, P⟩ fun ι2 h2 H2 vs cs s2 v2 A2 => ?_⟩
    · cases w0 with
      | none => rw [show fs = [] from e2]; rfl
      | some w =>
        obtain ⟨zz, f1, f2⟩ := e2
        rw [f1]
        show List.lookup m [(fldN c, zz)] = none
        simp only [List.lookup]
        rw [show (m == fldN c) = false from by simpa using hmf]
    · obtain ⟨s', r', kk', xx', q', P'⟩ := A2
      rw [nfN_eq, lenN_eq] at q'
      rw [List.append_nil]
      exact ⟨by rw [List.length_cons, ← v2.length]; have := cc.len _ _ _ _ q'; simpa using this, ι2, h2, _, _, _, .cons (s2.vr v1) v2, r', q', pst_call r' P'⟩
  · cases q
end
end AIx
namespace AIx
open PySem L2
/-! ### lists: +, *, append, reverse, index, count -/
def gCat : AV → AV → AH → KV → Bool := fun v u h k => match isLst h v with | true => (match isLst h u with | true => seqO h v fun xs => seqO h u fun ys => appK xs ys fun zs => newL zs h k | false => false) | false => false
theorem ok_cat {G : GE} : HOk G gCat rCat := fun ι h H v u c d Q k hr v1 v2 e p => by
  unfold gCat at e
  split at e
  · rename_i l1
    split at e
    · rename_i l2
      obtain ⟨n, xs, cs, rfl, rfl, a1, a2, a3, a4⟩ := lst_only hr v1 l1 e
      obtain ⟨m, ys, ds, rfl, rfl, b1, b2, b3, b4⟩ := lst_only hr v2 l2 a2
      rw [appK_eq] at b2
      obtain ⟨q1, q2⟩ := after_newL hr (VsRel.app a1 b1) b2 p
      exact ⟨_, _, cs, ds, rfl, rfl, a4, b4, by rw [← List.length_append]; exact line1000 q1, q2⟩
    · cases e
  · cases e
def repK (xs : List AV) : Nat → (List AV → Bool) → Bool
  | 0, k => k []
  | n + 1, k => repK xs n fun r => appK xs r k
theorem repK_eq (xs : List AV) : ∀ (n : Nat) (k : List AV → Bool), repK xs n k = k (List.replicate n xs).flatten
  | 0, _ => rfl
  | n + 1, k => by
    rw [repK, repK_eq xs n]
    simp only [appK_eq]; rw [List.replicate_succ, List.flatten_cons]
theorem VsRel.rep {ι : Nat → Addr} {N : Nat} {xs : List AV} {cs : List V} (r : VsRel ι N xs cs) : ∀ n, VsRel ι N (List.replicate n xs).flatten (List.replicate n cs).flatten
  | 0 => .nil
  | n + 1 => by
    rw [List.replicate_succ, List.flatten_cons, List.replicate_succ, List.flatten_cons]
    exact VsRel.app r (VsRel.rep r n)
def gRep : AV → AV → AH → KV → Bool := fun v u h k => match isLst h v with | true => seqO h v fun xs => (match u with | .int (.ofNat n) => (match Nat.ble n 1000 with | true => repK xs n fun zs => newL zs h k | false => false) | _ => false) | false => false
theorem len_rep {α : Type} (cs : List α) : ∀ n, (List.replicate n cs).flatten.length = cs.length * n
  | 0 => rfl
  | n + 1 => by rw [List.replicate_succ, List.flatten_cons, List.length_append, len_rep cs n, Nat.mul_succ, Nat.add_comm]
theorem ok_rep {G : GE} : HOk G gRep rRep := fun ι h H v u c d Q k hr v1 v2 e p => by
  unfold gRep at e
  split at e
  · rename_i l1
    obtain ⟨m, xs, cs, rfl, rfl, a1, a2, a3, a4⟩ := lst_only hr v1 l1 e
    split at a2
    · rename_i n
      split at a2
      · rename_i hn
        have hn := Nat.le_of_ble_eq_true hn
        rw [repK_eq] at a2
        cases (show d = _ from v2)
        obtain ⟨q1, q2⟩ := after_newL hr (a1.rep n) a2 p
        refine ⟨_, (n : Int), cs, rfl, rfl, a4, by omega, by omega, ?_, by rw [Int.toNat_natCast]; exact q2⟩
        rw [Int.toNat_natCast, ← len_rep]
        exact line1000 q1
      · cases a2
    · cases a2
  · cases e
/-- a method of a builtin, its object and arguments by values -/
abbrev rM (r : V → List V → Hp → VK → Prop) (K : PySem.W.Frag) (T : String) : V → List V → Hp → VK → Prop := fun x vs H Q => tyV K T x H ∧ r x vs H Q
def fBm (g : AV → List AV → AH → KV → Bool) (o : FE) (r : FA) : FE := fun σ h k x => o σ h (fun v h => r σ h (fun vs h => g v vs h k) x) x
def fBm0 (g : AV → AH → KV → Bool) (o : FE) : FE := fun σ h k x => o σ h (fun v h => g v h k) x
section
variable {X : Cx} {G : GE} {E : XK} {o e : Expr} {es : List Expr} {fo : FE} {fr : FA} {name : Str} {apos cpos : Pos} {T id : String} {r : V → List V → Hp → VK → Prop}
/-- a list's method with arguments: that it is a list is asked ahead -/
def fLm (g : AV → List AV → AH → KV → Bool) (o : FE) (r : FA) : FE := fun σ h k x => o σ h (fun v h => match isLst h v with | true => r σ h (fun vs h => g v vs h k) x | false => false) x
theorem s_lm (hK : X.K = G.K) {g : AV → List AV → AH → KV → Bool} (slot : Slot "list" name id) (hty : typeOf (.builtin id) = pure (.type "method_descriptor")) (hm : MtR X id r) (ho : SE X G E o fo) (ha : SA X G E (e :: es) fr)
    (hg : ∀ ι h H v c vs cs (Q : VK) (k : KV), HRel G ι h H → VRel ι h.length v c → VsRel ι h.length vs cs → g v vs h k = true → (∀ ι' h' H' w z, Stp G ι h H ι' h' H' → VRel ι' h'.length w z → k w h' = true → Q z H') → r c cs H Q)
    (hbase : attributeBase o name X.env (eval o X.env) = eval o X.env := by rfl) (hfew : ((backTo cpos (starEach (e :: es) X.env)).all (fun x => !x.1) && (backToKw cpos (keywordEach [] X.env)).all (fun x => x.1.isSome)
      && decide ((e :: es).length + ([] : List Keyword).length + (if ([] : List Keyword).isEmpty then 0 else 1) < 30)) = true := by rfl) (hline : (apos.endLine == cpos.line) = true := by rfl) (hs : starEach (e :: es) X.env = (false, eval e X.env) :: starEach es X.env := by rfl) (hplain : (backTo cpos (starEach es X.env)).any (·.1) = false := by rfl) :
    SE X G E (.Call (.Attribute o name apos) (e :: es) [] cpos) (fLm g fo fr) := PE.imp (pe_bm PySem.F.plainAttrs_list slot hty hm ho ha hbase hfew hline hs hplain) fun σc H Q ⟨ι, σ, h, A⟩ =>
    ⟨ι, σ, h, A.bind (f := fo) (g := fun v σ h k x => match isLst h v with | true => fr σ h (fun vs h => g v vs h k) x | false => false) fun ι1 h1 H1 v c s1 v1 A1 => by
      obtain ⟨s, rr, k, x, q, P⟩ := A1
      split at q
      · rename_i hl
        obtain ⟨n, xs, cs, rfl, rfl, q1, q2, q3, q4⟩ := lst_only (k := fun _ => true) rr v1 hl (seqO_no (.inl hl) fun _ => rfl)
        refine ⟨.inl ⟨rfl, cs, SqL.of q4⟩, ι1, σ, h1, At.bind (f := fr) (g := fun vs σ h k x => g (.ref n) vs h k) ⟨s, rr, k, x, q, P⟩ fun ι2 h2 H2 vs ds s2 v2 A2 => ?_⟩
        obtain ⟨s', rr', k', x', q', P'⟩ := A2
        exact hg ι2 h2 H2 _ _ _ _ Q k' rr' (s2.vr v1) v2 q' P'.ok
      · cases q⟩
theorem s_lm0 (hK : X.K = G.K) {g : AV → AH → KV → Bool} (slot : Slot "list" name id) (hty : typeOf (.builtin id) = pure (.type "method_descriptor")) (hm : MtR X id r) (ho : SE X G E o fo)
    (hg : ∀ ι h H v c (Q : VK) (k : KV), HRel G ι h H → VRel ι h.length v c → g v h k = true → (∀ ι' h' H' w z, Stp G ι h H ι' h' H' → VRel ι' h'.length w z → k w h' = true → Q z H') → r c [] H Q)
    (hbase : attributeBase o name X.env (eval o X.env) = eval o X.env := by rfl) (hline : (apos.endLine == cpos.line) = true := by rfl) : SE X G E (.Call (.Attribute o name apos) [] [] cpos) (fun σ h k x => fo σ h (fun v h => match isLst h v with | true => g v h k | false => false) x) := PE.imp (pe_bm0 PySem.F.plainAttrs_list slot hty hm ho hbase hline) fun σc H Q ⟨ι, σ, h, A⟩ =>
    ⟨ι, σ, h, A.bind (f := fo) (g := fun v σ h k x => match isLst h v with | true => g v h k | false => false) fun ι1 h1 H1 v c s1 v1 A1 => by
      obtain ⟨s, rr, k, x, q, P⟩ := A1
      split at q
      · rename_i hl
        obtain ⟨n, xs, cs, rfl, rfl, q1, q2, q3, q4⟩ := lst_only (k := fun _ => true) rr v1 hl (seqO_no (.inl hl) fun _ => rfl)
        exact ⟨.inl ⟨rfl, cs, SqL.of q4⟩, hg ι1 h1 H1 _ _ Q k rr v1 q P.ok⟩
      · cases q⟩
end
/-- xs.append(y) -/
def mApp : AV → List AV → AH → KV → Bool := fun v vs h k => match v, vs with
  | .ref n, [y] => pushK n y h fun h => k .non h
  | _, _ => false
theorem m_app {G : GE} : ∀ ι h H v c vs cs (Q : VK) (k : KV), HRel G ι h H → VRel ι h.length v c → VsRel ι h.length vs cs → mApp v vs h k = true → (∀ ι' h' H' w z, Stp G ι h H ι' h' H' → VRel ι' h'.length w z → k w h' = true → Q z H') → rAppend c cs H Q := fun ι h H v c vs cs Q k hr v1 v2 e p => by
  unfold mApp at e
  split at e
  · rename_i n y
    cases v2 with
    | cons r1 t =>
      cases t
      obtain ⟨acc, h', p1, p2, p3, p4⟩ := pushK_ok hr r1 e
      exact ⟨_, acc, _, v1.2, rfl, p1, p2, p _ _ _ .non _ p3 rfl p4⟩
  · cases e
def revK {α : Type} : List α → List α → (List α → Bool) → Bool
  | [], acc, k => k acc
  | x :: r, acc, k => revK r (x :: acc) k
theorem revK_eq {α : Type} : ∀ (l acc : List α) (k : List α → Bool), revK l acc k = k (l.reverse ++ acc)
  | [], _, _ => rfl
  | x :: r, acc, k => by rw [revK, revK_eq r]; simp
def mRev : AV → AH → KV → Bool := fun v h k => match v with
  | .ref n => (match getO h n with | some (.lst xs) => revK xs [] fun ys => setK h n (.lst ys) fun h => k .non h | _ => false)
  | _ => false
theorem m_rev {G : GE} : ∀ ι h H v c (Q : VK) (k : KV), HRel G ι h H → VRel ι h.length v c → mRev v h k = true → (∀ ι' h' H' w z, Stp G ι h H ι' h' H' → VRel ι' h'.length w z → k w h' = true → Q z H') → rReverse c [] H Q := fun ι h H v c Q k hr v1 e p => by
  unfold mRev at e
  split at e
  · rename_i n
    rw [getO_eq] at e
    split at e
    · rename_i xs q
      rw [revK_eq, List.append_nil, setK_eq] at e
      obtain ⟨cs, e1, e2⟩ := hr.obj n _ q
      exact ⟨_, cs, v1.2, rfl, e1, p _ _ _ .non _ (Stp.change (o' := .lst xs.reverse) hr q e1 (.inl ⟨_, rfl⟩) ⟨_, upd_same, VsRel.rev e2⟩) rfl e⟩
    · cases e
  · cases e
def cntK (i : Int) : List Int → Nat → (Nat → Bool) → Bool
  | [], n, k => k n
  | j :: r, n, k => match iEq j i with | true => nfN (n + 1) fun n => cntK i r n k | false => cntK i r n k
theorem cntK_eq (i : Int) : ∀ (l : List Int) (n : Nat) (k : Nat → Bool), cntK i l n k = k (n + l.count i)
  | [], n, k => rfl
  | j :: r, n, k => by
    unfold cntK
    rw [List.count_cons]
    split
    · rename_i q
      rw [iEq_eq, decide_eq_true_iff] at q
      rw [nfN_eq, cntK_eq i r, if_pos (by simp [q])]
      congr 1
      omega
    · rename_i q
      rw [iEq_eq, decide_eq_false_iff_not] at q
      rw [cntK_eq i r, if_neg (by simp [q])]
      rfl
def mCnt : AV → List AV → AH → KV → Bool := fun v vs h k => seqO h v fun xs => match intsOf xs, vs with
  | some l, [.int i] => cntK i l 0 fun n => k (.int (.ofNat n)) h
  | _, _ => false
theorem m_lcnt {G : GE} : ∀ ι h H v c vs cs (Q : VK) (k : KV), HRel G ι h H → VRel ι h.length v c → VsRel ι h.length vs cs → (match isLst h v with | true => mCnt v vs h k | false => false) = true → (∀ ι' h' H' w z, Stp G ι h H ι' h' H' → VRel ι' h'.length w z → k w h' = true → Q z H') → rCntI G.K c cs H Q := fun ι h H v c vs cs Q k hr v1 v2 e p => by
  split at e
  · rename_i hl
    obtain ⟨n, xs, ds, rfl, rfl, q1, q2, q3, q4⟩ := lst_only hr v1 hl e
    split at q2
    · rename_i l i h1
      cases v2 with
      | cons r1 t =>
        cases t
        rw [cntK_eq, Nat.zero_add] at q2
        have e1 := intsOf_ok q1 h1
        subst e1
        exact ⟨_, l, i, rfl, by rw [show _ = V.int i from r1], SqL.of q4, p _ _ _ (.int (.ofNat (l.count i))) _ (.refl hr) rfl q2⟩
    · cases q2
  · cases e
/-! ### a tuple's count -/
def isPt (h : AH) (v : AV) : Bool := match v with | .ref n => (match getO h n with | some (.ptup _) => true | _ => false) | _ => false
theorem isPt_ok {h : AH} {v : AV} (e : isPt h v = true) : ∃ n xs, v = .ref n ∧ h[n]? = some (.ptup xs) := by
  unfold isPt at e
  split at e
  · rename_i n
    rw [getO_eq] at e
    split at e
    · rename_i xs q; exact ⟨n, xs, rfl, q⟩
    · cases e
  · cases e
/-- t.count(k), t a plain tuple of ints -/
def tTc (to te : TE) : TE := fun σ H Q => to σ H fun x H1 => ∃ (p : Addr) (o : Obj) (cs : List V), x = .ref p ∧ H1 p = some (.frz o (.tup cs)) ∧ o.dict = none ∧
  te σ H1 fun y H2 => ∃ (ns : List Int) (k : Int), cs = ns.map V.int ∧ [y] = [V.int k] ∧ H2 p = some (.frz o (.tup cs)) ∧ Q (.int (ns.count k : Nat)) H2
theorem pe_tc {X : Cx} {o e : Expr} {to te : TE} {apos cpos : Pos} (ho : PE X o to) (he : PE X e te) (hbase : attributeBase o "count" X.env (eval o X.env) = eval o X.env := by rfl)
    (hfew : ((backTo cpos (starEach [e] X.env)).all (fun x => !x.1) && (backToKw cpos (keywordEach [] X.env)).all (fun x => x.1.isSome) && decide ([e].length + ([] : List Keyword).length + (if ([] : List Keyword).isEmpty then 0 else 1) < 30)) = true := by rfl)
    (hline : (apos.endLine == cpos.line) = true := by rfl) (hs : starEach [e] X.env = [(false, eval e X.env)] := by rfl) : PE X (.Call (.Attribute o "count" apos) [e] [] cpos) (tTc to te) := by
  refine ⟨fun pins s σ H Q I h => ?_⟩; refine wpAny_Call_method_late hbase hfew hline rfl (thn (ho.run pins s σ H _ I h) fun v s1 ⟨x, H1, I1, r1, q1⟩ => ?_)
  obtain ⟨p, ob, cs, rfl, hp, hd, q1⟩ := q1
  cases r1
  have look : ∀ {H' : Hp} {s' : Shared}, Inv X pins σ H' s' → H' p = some (.frz ob (.tup cs)) → s'.heap.get? p = some ob ∧ ∃ its : List Value, Vals cs its ∧ ob.cls = .type "tuple" ∧ ∃ n, ob.data = .seq its.toArray n := fun I' hp' => by
    obtain ⟨e1, _, us, rv, o2, ho2, hc2, n2, hd2⟩ := I'.hok p _ hp'
    rw [e1] at ho2
    cases ho2
    exact ⟨e1, us, rv, hc2, n2, hd2⟩
  obtain ⟨g1, us, rv, hc1, n1, hd1⟩ := look I1 hp
  refine ⟨"tuple", _, PySem.F.plainAttrs_tuple, PySem.F.slot_tuple_count, PySem.F.type_tuple_count, ⟨ob, g1, hc1⟩, fun a ea => (by cases ea; exact ⟨ob, g1, hd⟩), ?_⟩
  have hA := (pa_cons he pa_nil (by rw [hs]; rfl)).run cpos pins s1 σ H1 (fun vs H2 => ∃ (ns : List Int) (k : Int), cs = ns.map V.int ∧ vs = [.int k] ∧ H2 p = some (.frz ob (.tup cs)) ∧ Q (.int (ns.count k : Nat)) H2) I1 q1
  rw [hs] at hA ⊢
  refine Calls.callWith_builtin rfl (Calls.evalArgs_plain (thn hA fun us2 s2 ⟨vs, H2, I2, r2, ns, k, e1, e2, hp2, q⟩ => ?_))
  subst e1 e2
  obtain ⟨u, rfl, ru⟩ := r2.one
  obtain ⟨t, rfl⟩ := ru
  obtain ⟨g2, us', rv2, hc2, n2, hd2⟩ := look I2 hp2
  obtain ⟨cls, dd, data, sl⟩ := ob
  simp only at hc2 hd2
  subst hc2 hd2
  have hi := ints_of_vals rv2
  refine call_meets PySem.F.slot_tuple_count ⟨_, g2, rfl⟩ PySem.F.entry_tuple_count (PySem.F.args_tuple_count_2 _ _)
    (SeqAt.tuple_countAt p us'.toArray n2 dd sl (.int k t) (eqk k)) ⟨g2, fun y hy => (eqk_gives hi y (by simpa using hy)).at _ _, ?_⟩
  have ec : us'.toArray.toList.countP (eqk k) = ns.count k := eqk_count hi
  refine ⟨.int (ns.count k : Nat), H2, I2.tok _, ⟨s2.toks, ?_⟩, q⟩
  rw [ec]
def fTc (fo fe : FE) : FE := fun σ h k x => fo σ h (fun v h => match isPt h v with | true => fe σ h (fun u h => match isPt h v with | true => mCnt v [u] h k | false => false) x | false => false) x
section
variable {X : Cx} {G : GE} {E : XK} {o e : Expr} {fo fe : FE} {apos cpos : Pos}
theorem s_tc (ho : SE X G E o fo) (he : SE X G E e fe) (hbase : attributeBase o "count" X.env (eval o X.env) = eval o X.env := by rfl)
    (hfew : ((backTo cpos (starEach [e] X.env)).all (fun x => !x.1) && (backToKw cpos (keywordEach [] X.env)).all (fun x => x.1.isSome) && decide ([e].length + ([] : List Keyword).length + (if ([] : List Keyword).isEmpty then 0 else 1) < 30)) = true := by rfl)
    (hline : (apos.endLine == cpos.line) = true := by rfl) (hs : starEach [e] X.env = [(false, eval e X.env)] := by rfl) : SE X G E (.Call (.Attribute o "count" apos) [e] [] cpos) (fTc fo fe) := PE.imp (pe_tc ho he hbase hfew hline hs) fun σc H Q ⟨ι, σ, h, A⟩ =>
    ⟨ι, σ, h, A.bind (f := fo) (g := fun v σ h k x => match isPt h v with | true => fe σ h (fun u h => match isPt h v with | true => mCnt v [u] h k | false => false) x | false => false) fun ι1 h1 H1 v c s1 v1 A1 => by
      obtain ⟨s, rr, k, x, q, P⟩ := A1
      split at q
      · rename_i hp
        obtain ⟨n, xs, rfl, h1n⟩ := isPt_ok hp
        obtain ⟨cs, ob, e1, e2, e3⟩ := rr.obj n _ h1n
        refine ⟨ι1 n, ob, cs, v1.2, e1, e2, ι1, σ, h1, At.bind (f := fe) (g := fun u σ h k x => match isPt h (.ref n) with | true => mCnt (.ref n) [u] h k | false => false) ⟨s, rr, k, x, q, P⟩ fun ι2 h2 H2 u d s2 v2 A2 => ?_⟩
        obtain ⟨s', rr', k', x', q', P'⟩ := A2
        split at q'
        · rename_i hp2
          obtain ⟨m, ys, e4, h2n⟩ := isPt_ok hp2
          cases e4
          obtain ⟨ds, ob2, f1, f2, f3⟩ := rr'.obj n _ h2n
          have f0 := s2.im _ _ e1 trivial
          rw [s2.agr n v1.1] at f1
          rw [f0] at f1
          cases f1
          unfold mCnt seqO at q'
          simp only [getO_eq, h2n] at q'
          split at q'
          · rename_i l i hl hi
            cases hi
            rw [cntK_eq, Nat.zero_add] at q'
            cases (show d = _ from v2)
            exact ⟨l, i, intsOf_ok f3 hl, rfl, f0, P'.ok _ _ _ (.int (.ofNat (l.count i))) _ (.refl rr') rfl q'⟩
          · cases q'
        · cases q'
      · cases q⟩
end
end AIx
namespace AIx
open PySem L2
/-! ### [..].index(True) -/
def findK : List Bool → Nat → (Nat → Bool) → Bool
  | [], _, _ => false
  | true :: _, n, k => k n
  | false :: r, n, k => nfN (n + 1) fun n => findK r n k
theorem findK_ok : ∀ {l : List Bool} {n : Nat} {k : Nat → Bool}, findK l n k = true → ∃ j, l[j]? = some true ∧ (∀ m, m < j → l[m]? = some false) ∧ k (n + j) = true
  | [], _, _, e => by cases e
  | true :: r, n, k, e => ⟨0, rfl, fun m h => absurd h (Nat.not_lt_zero _), e⟩
  | false :: r, n, k, e => by
    unfold findK at e
    rw [nfN_eq] at e
    obtain ⟨j, e1, e2, e3⟩ := findK_ok e
    refine ⟨j + 1, by simpa using e1, fun m h => ?_, by rw [← e3]; congr 1; omega⟩
    cases m with
    | zero => rfl
    | succ m => simpa using e2 m (by omega)
def mIdx : AV → List AV → AH → KV → Bool := fun v vs h k => match isLst h v with
  | true => (seqO h v fun xs => match blsOf xs, vs with
    | some l, [.bl true] => findK l 0 fun n => k (.int (.ofNat n)) h
    | _, _ => false)
  | false => false
theorem m_idx {G : GE} : ∀ ι h H v c vs cs (Q : VK) (k : KV), HRel G ι h H → VRel ι h.length v c → VsRel ι h.length vs cs → mIdx v vs h k = true → (∀ ι' h' H' w z, Stp G ι h H ι' h' H' → VRel ι' h'.length w z → k w h' = true → Q z H') → rIndex G.K c cs H Q := fun ι h H v c vs cs Q k hr v1 v2 e p => by
  unfold mIdx at e
  split at e
  · rename_i hl
    obtain ⟨n, xs, ds, rfl, rfl, q1, q2, q3, q4⟩ := lst_only hr v1 hl e
    split at q2
    · rename_i l h1
      cases v2 with
      | cons r1 t =>
        cases t
        have e1 := blsOf_ok q1 h1
        subst e1
        obtain ⟨j, a1, a2, a3⟩ := findK_ok q2
        rw [Nat.zero_add] at a3
        refine ⟨_, l.map V.bl, .bl true, j, .bl true, rfl, by rw [show _ = V.bl true from r1], SqL.of q4, rfl, ?_, ?_, rfl, fun m z hm hz => ?_, p _ _ _ (.int (.ofNat j)) _ (.refl hr) rfl a3⟩
        · rw [List.all_map, List.all_eq_true]
          intro b _
          rfl
        · rw [List.getElem?_map, a1]
          rfl
        · rw [List.getElem?_map, a2 m hm] at hz
          cases hz
          rfl
    · cases q2
  · cases e
/-! ### min of a tuple of ints -/
def minK : List Int → Int → (Int → Bool) → Bool
  | [], a, k => k a
  | i :: r, a, k => match iLt i a with | true => minK r i k | false => minK r a k
theorem minK_eq : ∀ (l : List Int) (a : Int) (k : Int → Bool), minK l a k = k (l.foldl min a)
  | [], _, _ => rfl
  | i :: r, a, k => by
    unfold minK
    rw [List.foldl_cons]
    split
    · rename_i q
      rw [iLt_eq, decide_eq_true_iff] at q
      rw [minK_eq r, Int.min_eq_right (by omega)]
    · rename_i q
      rw [iLt_eq, decide_eq_false_iff_not] at q
      rw [minK_eq r, Int.min_eq_left (by omega)]
def bMinT : AV → AH → KV → Bool := fun v h k => match isTp h v with
  | true => (seqO h v fun xs => match intsOf xs with | some (n :: ns) => minK ns n fun m => k (.int m) h | _ => false)
  | false => false
def rMinT (K : PySem.W.Frag) : List V → Hp → VK → Prop := fun vs H Q => ∃ (a : Addr) (n : Int) (ns : List Int), vs = [V.ref a] ∧ Rd H a (.tup ((n :: ns).map V.int)) ∧ Q (.int (ns.foldl min n)) H
theorem depth_ints : ∀ ns : List Int, PyData.depthAll (ns.map PyData.int) = 0
  | [] => rfl
  | n :: ns => by rw [List.map_cons, PyData.depthAll, depth_ints ns]; rfl
theorem reads_ints {h : Heap} : ∀ {ns : List Int} {us : List Value}, Vals (ns.map V.int) us → ∃ as, ReadsAll h us (ns.map PyData.int) as
  | [], _, .nil => ⟨_, .nil⟩
  | n :: ns, _, .cons r t => by
    obtain ⟨as, q⟩ := reads_ints (h := h) t
    obtain ⟨tk, rfl⟩ := r
    exact ⟨_, .cons (.int n tk) q⟩
theorem cr_minT {X : Cx} (hc : X.calm = true) (hu : X.A.units + 64 < cLine) : CallR X (.builtin "min") (rMinT X.K) := fun pins s σ H vs us Q I r w => by
  obtain ⟨a, n, ns, rfl, ho, q⟩ := w
  obtain ⟨its, rv, ht, -⟩ := I.tuple (.inl ho)
  rw [Vals.ref1 r]
  obtain ⟨as, hr⟩ := reads_ints (h := s.heap) rv
  refine PySem.W.min_tuple_data (I.ok.hd hc) (show s.heap.IsTuple a its.toArray from ht) (x := .int n) (xs := ns.map .int) (by simpa using hr) ⟨fun x hx y hy => ?_, fun x hx => ?_⟩ ?_ fun i v h' tk bs hv hR hk => ?_
  · rw [← List.map_cons, List.mem_map] at hx hy
    obtain ⟨i, _, rfl⟩ := hx
    obtain ⟨j, _, rfl⟩ := hy
    rfl
  · rw [← List.map_cons, List.mem_map] at hx
    obtain ⟨i, _, rfl⟩ := hx
    exact fun z => nomatch z
  · rw [← List.map_cons, depth_ints]
    omega
  · rw [PySem.W.minD_ints] at hR
    cases hR with
    | int i t => exact ⟨.int (ns.foldl min n), H, I.kept hk, ⟨t, rfl⟩, q⟩
theorem o_minT {G : GE} : BOk G (one bMinT) (rMinT G.K) := bok_one fun ι h H v c Q k hr vr e p => by
  unfold bMinT at e
  split at e
  · rename_i hl
    obtain ⟨n, xs, cs, rfl, rfl, q1, q2, q3⟩ := tp_only hr vr hl e
    split at q2
    · rename_i m ns hi
      have e1 := intsOf_ok q1 hi
      subst e1
      rw [minK_eq] at q2
      exact ⟨_, m, ns, rfl, q3, p _ _ _ (.int (ns.foldl min m)) _ (.refl hr) rfl q2⟩
    · cases q2
  · cases e
/-! ### == and != of lists and tuples of numbers or texts -/
def allEqI : List Int → List Int → Bool
  | [], [] => true
  | i :: r, j :: t => match iEq i j with | true => allEqI r t | false => false
  | _, _ => false
def pyOf : List AV → Option (List PyData)
  | [] => some []
  | .int i :: r => (match pyOf r with | some l => some (.int i :: l) | none => none)
  | .str n :: r => (match pyOf r with | some l => some (.str (strT n) :: l) | none => none)
  | _ => none
theorem pyOf_ok {G : GE} {ι : Nat → Addr} {N : Nat} {H : Hp} : ∀ {xs : List AV} {cs : List V} {l : List PyData}, VsRel ι N xs cs → pyOf xs = some l → DpAll G.K H cs l
  | [], _, _, .nil, e => by cases e; exact .nil
  | x :: r, _, _, .cons a b, e => by
    unfold pyOf at e
    split at e
    · rename_i h; cases h
    · rename_i i r' h
      cases h
      split at e
      · rename_i l' h2
        cases e
        rw [show _ = V.int i from a]
        exact .cons (.int i) (pyOf_ok b h2)
      · cases e
    · rename_i i r' h
      cases h
      split at e
      · rename_i l' h2
        cases e
        rw [show _ = V.str (strT i) from a]
        exact .cons (.str _) (pyOf_ok b h2)
      · cases e
    · cases e
theorem py_ints : ∀ {xs : List AV} {l : List Int}, intsOf xs = some l → pyOf xs = some (l.map .int)
  | [], _, e => by cases e; rfl
  | x :: r, l, e => by
    unfold intsOf at e
    split at e
    · rename_i h; cases h
    · rename_i i r' h
      cases h
      split at e
      · rename_i l' h2
        cases e
        unfold pyOf
        rw [py_ints h2]
        rfl
      · cases e
    · cases e
theorem eqv_ints : ∀ (l m : List Int), PyData.eqvAll (l.map .int) (m.map .int) = allEqI l m
  | [], [] => by simp [PyData.eqvAll, allEqI]
  | [], _ :: _ => by simp [PyData.eqvAll, allEqI]
  | _ :: _, [] => by simp [PyData.eqvAll, allEqI]
  | i :: r, j :: t => by
    rw [List.map_cons, List.map_cons, PyData.eqvAll, eqv_ints r t, allEqI]
    cases e : iEq i j with
    | true => rw [iEq_eq, decide_eq_true_iff] at e; subst e; simp [PyData.eqv]
    | false => rw [iEq_eq, decide_eq_false_iff_not] at e; simp [PyData.eqv, e]
theorem lay_ints : ∀ l : List Int, PyData.canLayAll0 (l.map .int) = true
  | [] => by rw [List.map_nil, PyData.canLayAll0]
  | i :: r => by rw [List.map_cons, PyData.canLayAll0, lay_ints r]; simp [PyData.canLay0]
theorem shaped_ints (l : List Int) : SeqAt.shaped (.list (l.map .int)) = true ∧ SeqAt.shaped (.tuple (l.map .int)) = true := by
  unfold SeqAt.shaped
  rw [PyData.canLay0, PyData.canLay0, lay_ints, PyData.depth, PyData.depth, depth_ints]
  exact ⟨rfl, rfl⟩
/-- texts against an empty list, numbers against numbers -/
def gSeq (b : Bool → Bool) (c : AH → AV → Bool) : AV → AV → AH → KV → Bool := fun v u h k => match c h v with
  | true => (match c h u with
    | true => seqO h v fun xs => seqO h u fun ys => (match intsOf xs with
      | some l => (match intsOf ys with | some m => k (.bl (b (allEqI l m))) h | none => false)
      | none => false)
    | false => false)
  | false => false
/-- a list of texts against [] -/
def gNil (b : Bool → Bool) : AV → AV → AH → KV → Bool := fun v u h k => match isLst h v with
  | true => (match isLst h u with
    | true => seqO h v fun xs => seqO h u fun ys => (match ys with
      | [] => (match xs with
        | [] => k (.bl (b true)) h
        | x :: r => (match pyOf (x :: r) with | some _ => (match Nat.ble (lenN (x :: r)) 1000 with | true => (match shOk (x :: r) with | true => k (.bl (b false)) h | false => false) | false => false) | none => false))
      | _ => false)
    | false => false)
  | false => false
where
  /-- the texts are those of the table -/
  shOk : List AV → Bool
    | [] => true
    | .int _ :: r => shOk r
    | .str n :: r => match Nat.blt n 10 with | true => shOk r | false => false
    | _ => false
theorem strT_ok : ∀ n, n < 10 → PyData.strOk (strT n) = true := by decide +kernel
theorem shOk_ok : ∀ {xs : List AV} {l : List PyData}, gNil.shOk xs = true → pyOf xs = some l → PyData.canLayAll0 l = true ∧ PyData.depthAll l = 0
  | [], _, _, e => by cases e; simp [PyData.canLayAll0, PyData.depthAll]
  | x :: r, l, h, e => by
    unfold pyOf at e
    split at e
    · rename_i h; cases h
    · rename_i i r' h0
      cases h0
      split at e
      · rename_i l' h2
        cases e
        have h : gNil.shOk r = true := by rw [gNil.shOk] at h; exact h
        obtain ⟨a, b⟩ := shOk_ok h h2
        rw [PyData.canLayAll0, PyData.depthAll, a, b]
        simp [PyData.canLay0, PyData.depth]
      · cases e
    · rename_i i r' h0
      cases h0
      split at e
      · rename_i l' h2
        cases e
        rw [gNil.shOk] at h
        split at h
        · rename_i hi
          obtain ⟨a, b⟩ := shOk_ok h h2
          rw [PyData.canLayAll0, PyData.depthAll, a, b]
          simp [PyData.canLay0, PyData.depth, strT_ok i (blt_lt hi)]
        · cases h
      · cases e
    · cases e
section
variable {G : GE} {b : Bool → Bool}
theorem ok_seqL {R : R2} (hR : ∀ x y H Q, (∃ d e, Dp G.K H x d ∧ Dp G.K H y e ∧ SeqAt.shaped d = true ∧ SeqAt.shaped e = true ∧ Q (.bl (b (PyData.eqv d e))) H) → R x y H Q) : HOk G (gSeq b isLst) R := fun ι h H v u c d Q k hr v1 v2 e p => by
  unfold gSeq at e
  split at e
  · rename_i l1
    split at e
    · rename_i l2
      obtain ⟨n, xs, cs, rfl, rfl, a1, a2, a3, a4⟩ := lst_only hr v1 l1 e
      obtain ⟨m, ys, ds, rfl, rfl, b1, b2, b3, b4⟩ := lst_only hr v2 l2 a2
      split at b2
      · rename_i l hl
        split at b2
        · rename_i m' hm
          refine hR _ _ _ _ ⟨.list (l.map .int), .list (m'.map .int), .lst (SqL.of a4) (pyOf_ok a1 (py_ints hl)), .lst (SqL.of b4) (pyOf_ok b1 (py_ints hm)), (shaped_ints l).1, (shaped_ints m').1, ?_⟩
          rw [PyData.eqv, eqv_ints]
          exact p _ _ _ (.bl _) _ (.refl hr) rfl b2
        · cases b2
      · cases b2
    · cases e
  · cases e
theorem ok_seqT {R : R2} (hR : ∀ x y H Q, (∃ d e, Dp G.K H x d ∧ Dp G.K H y e ∧ SeqAt.shaped d = true ∧ SeqAt.shaped e = true ∧ Q (.bl (b (PyData.eqv d e))) H) → R x y H Q) : HOk G (gSeq b isTp) R := fun ι h H v u c d Q k hr v1 v2 e p => by
  unfold gSeq at e
  split at e
  · rename_i l1
    split at e
    · rename_i l2
      obtain ⟨n, xs, cs, rfl, rfl, a1, a2, a4⟩ := tp_only hr v1 l1 e
      obtain ⟨m, ys, ds, rfl, rfl, b1, b2, b4⟩ := tp_only hr v2 l2 a2
      split at b2
      · rename_i l hl
        split at b2
        · rename_i m' hm
          refine hR _ _ _ _ ⟨.tuple (l.map .int), .tuple (m'.map .int), .tup (.inl a4) (pyOf_ok a1 (py_ints hl)), .tup (.inl b4) (pyOf_ok b1 (py_ints hm)), (shaped_ints l).2, (shaped_ints m').2, ?_⟩
          rw [PyData.eqv, eqv_ints]
          exact p _ _ _ (.bl _) _ (.refl hr) rfl b2
        · cases b2
      · cases b2
    · cases e
  · cases e
theorem ok_nil {R : R2} (hR : ∀ x y H Q, (∃ d e, Dp G.K H x d ∧ Dp G.K H y e ∧ SeqAt.shaped d = true ∧ SeqAt.shaped e = true ∧ Q (.bl (b (PyData.eqv d e))) H) → R x y H Q) : HOk G (gNil b) R := fun ι h H v u c d Q k hr v1 v2 e p => by
  unfold gNil at e
  split at e
  · rename_i l1
    split at e
    · rename_i l2
      obtain ⟨n, xs, cs, rfl, rfl, a1, a2, a3, a4⟩ := lst_only hr v1 l1 e
      obtain ⟨m, ys, ds, rfl, rfl, b1, b2, b3, b4⟩ := lst_only hr v2 l2 a2
      split at b2
      · cases b1
        have sh0 : SeqAt.shaped (.list []) = true := (shaped_ints []).1
        split at b2
        · cases a1
          refine hR _ _ _ _ ⟨.list [], .list [], .lst (SqL.of a4) .nil, .lst (SqL.of b4) .nil, sh0, sh0, ?_⟩
          rw [PyData.eqv, PyData.eqvAll]
          exact p _ _ _ (.bl _) _ (.refl hr) rfl b2
        · rename_i x r
          split at b2
          · rename_i l hl
            split at b2
            · split at b2
              · rename_i hs
                obtain ⟨s1, s2⟩ := shOk_ok hs hl
                have he : PyData.eqvAll l [] = false := by
                  cases l with
                  | nil =>
                    have := pyOf_ok (G := G) (H := H) a1 hl
                    cases a1
                    cases this
                  | cons y t => rw [PyData.eqvAll]
                refine hR _ _ _ _ ⟨.list l, .list [], .lst (SqL.of a4) (pyOf_ok a1 hl), .lst (SqL.of b4) .nil, ?_, sh0, ?_⟩
                · unfold SeqAt.shaped
                  rw [PyData.canLay0, s1, PyData.depth, s2]
                  rfl
                · rw [PyData.eqv, he]
                  exact p _ _ _ (.bl _) _ (.refl hr) rfl b2
              · cases b2
            · cases b2
          · cases b2
      · cases b2
    · cases e
  · cases e
variable {X : Cx}
theorem c_eqL (hK : X.K = G.K) (hu : X.A.units + 64 < cLine) : CmpR X G .Eq (gSeq id isLst) := ⟨_, op_eqD hu, ok_seqL fun _ _ _ _ h => by rw [hK]; exact h⟩
theorem c_neL (hK : X.K = G.K) (hu : X.A.units + 64 < cLine) : CmpR X G .NotEq (gSeq not isLst) := ⟨_, op_neD hu, ok_seqL fun _ _ _ _ h => by rw [hK]; exact h⟩
theorem c_eqT (hK : X.K = G.K) (hu : X.A.units + 64 < cLine) : CmpR X G .Eq (gSeq id isTp) := ⟨_, op_eqD hu, ok_seqT fun _ _ _ _ h => by rw [hK]; exact h⟩
theorem c_neN (hK : X.K = G.K) (hu : X.A.units + 64 < cLine) : CmpR X G .NotEq (gNil not) := ⟨_, op_neD hu, ok_nil fun _ _ _ _ h => by rw [hK]; exact h⟩
end
end AIx
namespace AIx
open PySem L2
/-! ### (v,) * n, told as a plain tuple -/
def rRepP (K : PySem.W.Frag) : R2 := fun x y H Q => ∃ l v k, x = .ref l ∧ y = .int k ∧ SqT K H l [v] ∧ 2 ≤ k ∧ k ≤ 1000 ∧ ∀ (p : Addr) (o : Obj), H p = none → o.dict = none → Q (.ref p) (upd H p (.frz o (.tup (List.replicate k.toNat [v]).flatten)))
theorem op_repP {X : Cx} : OpR X (binaryOp .Mult) (rRepP X.K) := fun pins s σ H x y a b Q I ra rb w => by
  obtain ⟨l, v, k, rfl, rfl, hT, k2, kM, q⟩ := w
  cases ra
  obtain ⟨t, rfl⟩ := rb
  obtain ⟨its, rv, ⟨ob, g, hc, n, hd⟩, _⟩ := I.tuple hT
  obtain ⟨u, rfl, ru⟩ := rv.one
  rcases ob with ⟨cl, dd, da, sl⟩
  have hc : cl = .type "tuple" := hc
  have hd : da = .seq [u].toArray n := hd
  subst hc hd
  have big : List.foldl (fun x1 x2 => x1 ++ x2) #[] (List.replicate k.toNat [u].toArray) = (List.replicate k.toNat [u]).flatten.toArray := size_rep [u] k.toNat
  have fl : (List.replicate k.toNat [u]).flatten.length ≤ 1000 := by rw [len_rep]; show 1 * k.toNat ≤ 1000; omega
  have hk : (([u].toArray.size : Nat) : Int) * k = k := by show (1 : Int) * k = k; omega
  have tm : Builtin.Tuple.tupleTooMany ((([u].toArray.size : Nat) : Int) * k) = false := by
    rw [hk]
    unfold Builtin.Tuple.tupleTooMany; rw [sizeLine_eq]; exact decide_eq_false (by omega)
  have ti : ∀ s' : Shared, s'.TypeIs (.int k t) "int" := fun s' => typeIs_int s' k t
  have m1 := tuple_mulW l [u].toArray n dd sl k t (by rw [decide_eq_false (by omega), decide_eq_false (by omega)]; rfl) (by show (false || k == 1) = false; rw [Bool.false_or]; exact beq_eq_false_iff_ne.mpr (by omega)) (by show (decide (k ≤ 0) || false) = false; rw [Bool.or_false]; exact decide_eq_false (by omega)) (by rw [hk]; omega) tm (by rw [big, List.size_toArray]; exact line1000 fl)
  have m2 := int_rmul_tuple k t l [u].toArray n dd sl
  have new := Heap.get?_push_size s.heap (o := { cls := .type "tuple", data := .seq (List.replicate k.toNat [u]).flatten.toArray }) rfl
  have vv : Vals (List.replicate k.toNat [v]).flatten (List.replicate k.toNat [u]).flatten := rv.rep k.toNat
  have fin : EP X pins σ Q (.ref s.heap.objs.size) { s with heap := s.heap.push { cls := .type "tuple", data := .seq (List.replicate k.toNat [u]).flatten.toArray } } :=
    ⟨.ref s.heap.objs.size, upd H s.heap.objs.size (.frz { cls := .type "tuple", data := .seq (List.replicate k.toNat [u]).flatten.toArray } (.tup (List.replicate k.toNat [v]).flatten)), I.laid (t' := s.toks) (fun c oc e => Heap.get?_push_of_some _ e) (Nat.le_refl _) (by
      refine ⟨new, ?_⟩
      exact ⟨by rw [vv.length]; exact line1000 fl, _, vv, _, new, rfl, _, rfl⟩), rfl, q _ _ I.fresh rfl⟩
  have slow : wpAny (model X.prog X.w) X.A (call (.builtin "tuple.__mul__") [.ref l, .int k t]) (EP X pins σ Q) X.xe s := by
    refine call_meets PySem.F.slot_tuple_mul ⟨_, g, rfl⟩ PySem.F.entry_tuple_mul (PySem.F.args_tuple_mul_2 _ _) m1 ⟨g, ?_⟩
    rw [big]
    exact fin
  exact wpAny_binaryOp_repeat_ref (T := "tuple") (U := "int") (by decide) ⟨_, g, rfl⟩ ti noFill_tuple_mul PySem.F.fills_int_mul PySem.F.slot_int_rmul repeat_tuple PySem.F.slot_int_index.lookup
    (call_meets PySem.F.slot_int_rmul (ti s) PySem.F.entry_int_rmul (PySem.F.args_int_rmul_2 _ _) m2 ⟨g, rfl, ⟨_, g, rfl⟩, slow⟩)
def gRepT : AV → AV → AH → KV → Bool := fun v u h k => match isTp h v with
  | true => (seqO h v fun xs => match xs with
    | [w] => (match u with | .int (.ofNat n) => (match Nat.ble 2 n with | true => (match Nat.ble n 1000 with | true => repK [w] n fun zs => newP zs h k | false => false) | false => false) | _ => false)
    | _ => false)
  | false => false
theorem ok_repP {G : GE} : HOk G gRepT (rRepP G.K) := fun ι h H v u c d Q k hr v1 v2 e p => by
  unfold gRepT at e
  split at e
  · rename_i l1
    obtain ⟨m, xs, cs, rfl, rfl, a1, a2, a3⟩ := tp_only hr v1 l1 e
    split at a2
    · rename_i w
      split at a2
      · rename_i n
        split at a2
        · rename_i h2
          split at a2
          · rename_i hM
            have h2 := Nat.le_of_ble_eq_true h2
            have hM := Nat.le_of_ble_eq_true hM
            rw [repK_eq] at a2
            cases (show d = _ from v2)
            have rr := a1.rep n
            cases a1 with
            | cons q0 t0 =>
              cases t0
              obtain ⟨q1, q2⟩ := after_newP hr rr a2 p
              refine ⟨_, _, (n : Int), rfl, rfl, .inl a3, by omega, by omega, ?_⟩
              · rw [Int.toNat_natCast]
                exact q2
          · cases a2
        · cases a2
      · cases a2
    · cases a2
  · cases e
/-! ### t[:i], t[i:] of tuples -/
def takeK {α : Type} : List α → Nat → (List α → Bool) → Bool
  | [], _, k => k []
  | _ :: _, 0, k => k []
  | x :: r, n + 1, k => takeK r n fun r' => k (x :: r')
theorem takeK_eq {α : Type} : ∀ (l : List α) (n : Nat) (k : List α → Bool), takeK l n k = k (l.take n)
  | [], _, _ => by simp [takeK]
  | _ :: _, 0, _ => rfl
  | x :: r, n + 1, k => by rw [takeK, takeK_eq r n]; rfl
def dropK {α : Type} : List α → Nat → (List α → Bool) → Bool
  | [], _, k => k []
  | x :: r, 0, k => k (x :: r)
  | _ :: r, n + 1, k => dropK r n k
theorem dropK_eq {α : Type} : ∀ (l : List α) (n : Nat) (k : List α → Bool), dropK l n k = k (l.drop n)
  | [], _, _ => by simp [dropK]
  | _ :: _, 0, _ => rfl
  | x :: r, n + 1, k => by rw [dropK, dropK_eq r n]; rfl
/-- t[:i], i below the length -/
def fSlTo (fo fi : FE) : FE := fun σ h k x => fo σ h (fun v h => match isTp h v with | true => fi σ h (fun u h => match isTp h v with | true => (seqO h v fun xs => match u with | .int (.ofNat n) => (match Nat.blt n (lenN xs) with | true => takeK xs n fun ys => newT ys h k | false => false) | _ => false) | false => false) x | false => false) x
/-- t[i:], i above 0 -/
def fSlFrom (fo fi : FE) : FE := fun σ h k x => fo σ h (fun v h => match isTp h v with | true => fi σ h (fun u h => match isTp h v with | true => (seqO h v fun xs => match u with | .int (.ofNat (n + 1)) => (match xs with | [] => false | x :: r => dropK (x :: r) (n + 1) fun ys => newT ys h k) | _ => false) | false => false) x | false => false) x
section
variable {X : Cx} {G : GE} {E : XK} {o e : Expr} {fo fe : FE} {pos p2 : Pos}
theorem s_repT (hK : X.K = G.K) (ha : SE X G E o fo) (hb : SE X G E e fe) : SE X G E (.BinOp o .Mult e pos) (fOpH gRepT fo fe) := s_opH (fun _ _ p q => pe_op (X := X) op_repP p q) ha hb (by rw [hK]; exact ok_repP)
theorem s_cat (ha : SE X G E o fo) (hb : SE X G E e fe) : SE X G E (.BinOp o .Add e pos) (fOpH gCat fo fe) := s_opH (fun _ _ p q => pe_op op_cat p q) ha hb ok_cat
theorem s_rep (ha : SE X G E o fo) (hb : SE X G E e fe) : SE X G E (.BinOp o .Mult e pos) (fOpH gRep fo fe) := s_opH (fun _ _ p q => pe_op op_rep p q) ha hb ok_rep
theorem s_slTo (hK : X.K = G.K) (ho : SE X G E o fo) (he : SE X G E e fe) : SE X G E (.Subscript o (.Slice none (some e) none p2) pos) (fSlTo fo fe) := PE.imp (pe_slice sl_tupA ho po_none (po_some he)) fun σc H Q ⟨ι, σ, h, A⟩ =>
  ⟨ι, σ, h, A.bind (f := fo) (g := fun v σ h k x => match isTp h v with | true => fe σ h (fun u h => match isTp h v with | true => (seqO h v fun xs => match u with | .int (.ofNat n) => (match Nat.blt n (lenN xs) with | true => takeK xs n fun ys => newT ys h k | false => false) | _ => false) | false => false) x | false => false) fun ι1 h1 H1 v c s1 v1 A1 => by
    obtain ⟨s, rr, k, x, q, P⟩ := A1
    split at q
    · refine ⟨ι1, σ, h1, At.bind (f := fe) (g := fun u σ h k x => match isTp h v with | true => (seqO h v fun xs => match u with | .int (.ofNat n) => (match Nat.blt n (lenN xs) with | true => takeK xs n fun ys => newT ys h k | false => false) | _ => false) | false => false) ⟨s, rr, k, x, q, P⟩ fun ι2 h2 H2 u d s2 v2 A2 => ?_⟩
      obtain ⟨s', rr', k', x', q', P'⟩ := A2
      split at q'
      · rename_i hl2
        obtain ⟨n, xs, cs, rfl, rfl, a1, a2, a3⟩ := tp_only rr' (s2.vr v1) hl2 q'
        split at a2
        · rename_i i
          split at a2
          · rename_i hi
            have hi := blt_lt hi
            rw [lenN_eq, a1.length] at hi
            rw [takeK_eq] at a2
            cases (show d = _ from v2)
            refine ⟨(i : Int), rfl, ι2 n, cs, rfl, by rw [hK]; exact .inl a3, fun z => ?_, fun _ p hp => ?_⟩
            · have := z.2
              rw [HT.sIx_nat] at this
              omega
            · have ec : cutV cs none (some (i : Int)) = cs.take i := by
                unfold cutV
                rw [HT.sIx_none, HT.sIx_nat, List.drop_zero, Nat.sub_zero, Nat.min_eq_left (by omega)]
              rw [ec]
              exact (after_newT rr' (VsRel.take i a1) a2 P'.ok).2 p hp
          · cases a2
        · cases a2
      · cases q'
    · cases q⟩
theorem s_slFrom (hK : X.K = G.K) (ho : SE X G E o fo) (he : SE X G E e fe) : SE X G E (.Subscript o (.Slice (some e) none none p2) pos) (fSlFrom fo fe) := PE.imp (pe_slice sl_tupA ho (po_some he) po_none) fun σc H Q ⟨ι, σ, h, A⟩ =>
  ⟨ι, σ, h, A.bind (f := fo) (g := fun v σ h k x => match isTp h v with | true => fe σ h (fun u h => match isTp h v with | true => (seqO h v fun xs => match u with | .int (.ofNat (n + 1)) => (match xs with | [] => false | x :: r => dropK (x :: r) (n + 1) fun ys => newT ys h k) | _ => false) | false => false) x | false => false) fun ι1 h1 H1 v c s1 v1 A1 => by
    obtain ⟨s, rr, k, x, q, P⟩ := A1
    split at q
    · refine ⟨ι1, σ, h1, At.bind (f := fe) (g := fun u σ h k x => match isTp h v with | true => (seqO h v fun xs => match u with | .int (.ofNat (n + 1)) => (match xs with | [] => false | x :: r => dropK (x :: r) (n + 1) fun ys => newT ys h k) | _ => false) | false => false) ⟨s, rr, k, x, q, P⟩ fun ι2 h2 H2 u d s2 v2 A2 => ?_⟩
      obtain ⟨s', rr', k', x', q', P'⟩ := A2
      split at q'
      · rename_i hl2
        obtain ⟨n, xs, cs, rfl, rfl, a1, a2, a3⟩ := tp_only rr' (s2.vr v1) hl2 q'
        split at a2
        · rename_i i
          split at a2
          · cases a2
          · rename_i y r
            rw [dropK_eq] at a2
            cases (show d = _ from v2)
            have hl : 0 < cs.length := by rw [← a1.length]; exact Nat.zero_lt_succ _
            refine ⟨((i + 1 : Nat) : Int), rfl, ι2 n, cs, rfl, by rw [hK]; exact .inl a3, fun z => ?_, fun _ p hp => ?_⟩
            · have := z.1
              rw [HT.sIx_nat] at this
              omega
            · have ec : cutV cs (some ((i + 1 : Nat) : Int)) none = cs.drop (i + 1) := by
                unfold cutV
                rw [HT.sIx_none, HT.sIx_nat]
                by_cases hc : i + 1 ≤ cs.length
                · rw [Nat.min_eq_left hc, List.take_of_length_le (by rw [List.length_drop]; exact Nat.le_refl _)]
                · rw [Nat.min_eq_right (Nat.le_of_not_le hc), List.drop_of_length_le (Nat.le_refl _), List.drop_of_length_le (by omega)]
                  simp
              rw [ec]
              exact (after_newT rr' (VsRel.drop (i + 1) a1) a2 P'.ok).2 p hp
        · cases a2
      · cases q'
    · cases q⟩
end
end AIx
namespace AIx
open PySem L2
/-! ### the text by places; what the module's names hold -/
def st (i : Nat) : Stmt := PySem.Challenge.pw_copylots_k65_whole_refused_more.main.body.getD i (.Pass ⟨0, 0, 0, 0⟩)
structure Fx (G : GE) (mg : Str → Option Value) : Prop where
  isinstance : mg "isinstance" = none
  int : mg "int" = none
  bool : mg "bool" = none
  tuple : mg "tuple" = none
  len : mg "len" = none
  all : mg "all" = none
  any : mg "any" = none
  sum : mg "sum" = none
  range : mg "range" = none
  max : mg "max" = none
  min : mg "min" = none
  abs : mg "abs" = none
  enumerate : mg "enumerate" = none
  zip : mg "zip" = none
  list : mg "list" = none
  MOST_SERVERS : ∃ t, mg "MOST_SERVERS" = some (.int 8 t)
  MOST_ITEMS : ∃ t, mg "MOST_ITEMS" = some (.int 10 t)
  MOST_ROOM : ∃ t, mg "MOST_ROOM" = some (.int 10 t)
  MOST_STARTS : ∃ t, mg "MOST_STARTS" = some (.int 20 t)
  MOST_CAPACITY : ∃ t, mg "MOST_CAPACITY" = some (.int 10 t)
  MOST_SHARED : ∃ t, mg "MOST_SHARED" = some (.int 20 t)
  BadRooms : ExF G.K mg "BadRooms" (G.exc 0)
  BadStarts : ExF G.K mg "BadStarts" (G.exc 1)
  NotPossible : ExF G.K mg "NotPossible" (G.exc 2)
  BadIndex : ExF G.K mg "BadIndex" (G.exc 3)
  BadMany : ExF G.K mg "BadMany" (G.exc 4)
  BadServers : ExF G.K mg "BadServers" (G.exc 5)
  BadCapacities : ExF G.K mg "BadCapacities" (G.exc 6)
  cls : ∀ d, d < 2 → ClsF G.K (G.cls d) (fldN d)
  kit : ∀ c, c < 2 → ∀ d, d < 2 → PySem.W.kitOne G.K (.ref (G.cls d)) (.ref (G.cls c)) = some (Nat.beq d c)
  Settled : mg "Settled" = some (.ref (G.cls 0))
  Shares : mg "Shares" = some (.ref (G.cls 1))
/-- a def of the module -/
structure DF (K : PySem.W.Frag) (mg : Str → Option Value) (x : Str) (st : Stmt) : Prop where
  ex : ∃ (f : Addr) (fd : FuncData), Fun K x x st f fd ∧ mg x = some (.ref f)
section
variable {X : Cx} {G : GE} {E : XK} {pos : Pos}
theorem s_globE (i : Int) {x : Str} (hm : ∃ t, X.mg x = some (.int i t)) (hg : Gl X x := by rfl) (hd : (x == ("__debug__" : Str)) = false := by decide) : SE X G E (.Name x pos) (fC (.int i)) := by
  obtain ⟨t, h⟩ := hm
  exact s_glob i h hg hd
theorem amb_of {P : Program} {w : World} {mg : Str → Option Value} {base : Heap} {N : List Str} {qual : Str} {sc : Scope} {f : Addr} {cdv : Value} {A : Around} {outer : List Env} {s : Shared} {H : Hp} : Amb (cxOf (L2.CX P w) P w G.K mg base N qual sc f cdv A outer s H E) G E :=
  ⟨rfl, rfl, takes_of rfl rfl rfl rfl, passes_of rfl⟩
theorem Amb.blk (M : Amb X G E) {s : Shared} {H : Hp} {scope : Scope} {ce : Env} {fp : List Addr} : Amb (X.blk s H scope ce fp) G EF := ⟨M.calm, M.K, takes0, PassesOwn.never⟩
theorem Amb.wl (M : Amb X G E) {l : Nat → Option LamD} : Amb X (G.wl l) E := ⟨M.calm, M.K, M.tk, M.po⟩
/-! built-in calls, by name -/
variable {e e2 : Expr} {f f2 : FE} {p : Pos}
theorem s_arg1 (ha : SE X G E e f) (hs : starEach [e] X.env = (false, eval e X.env) :: starEach [] X.env := by rfl) : SA X G E [e] (fCons f fNil) := s_cons ha s_nil hs
theorem s_arg2 (ha : SE X G E e f) (hb : SE X G E e2 f2) (hs : starEach [e, e2] X.env = (false, eval e X.env) :: starEach [e2] X.env := by rfl) (hs2 : starEach [e2] X.env = (false, eval e2 X.env) :: starEach [] X.env := by rfl) : SA X G E [e, e2] (fCons f (fCons f2 fNil)) := s_cons ha (s_cons hb s_nil hs2) hs
theorem s_bi1 {nm : Str} {id : String} {r : List V → Hp → VK → Prop} {g : List AV → AH → KV → Bool} (hc : CallR X (.builtin id) r) (o : BOk G g r) (hm : X.mg nm = none) (hv : bootBuiltins nm = some (.builtin id)) (ha : SE X G E e f) (hg : Gl X nm := by rfl) (hn : nm ≠ "__name__" := by decide) (hd : (nm == ("__debug__" : Str)) = false := by decide) (hs : starEach [e] X.env = (false, eval e X.env) :: starEach [] X.env := by rfl) : SE X G E (.Call (.Name nm p) [e] [] pos) (fBlt g (fCons f fNil)) :=
  s_blt (fun t h => pe_callB (X := X) hc hg hm hv h hn hd hs) (s_arg1 ha hs) o
theorem s_bi2 {nm : Str} {id : String} {r : List V → Hp → VK → Prop} {g : List AV → AH → KV → Bool} (hc : CallR X (.builtin id) r) (o : BOk G g r) (hm : X.mg nm = none) (hv : bootBuiltins nm = some (.builtin id)) (ha : SE X G E e f) (hb : SE X G E e2 f2) (hg : Gl X nm := by rfl) (hn : nm ≠ "__name__" := by decide) (hd : (nm == ("__debug__" : Str)) = false := by decide) (hs : starEach [e, e2] X.env = (false, eval e X.env) :: starEach [e2] X.env := by rfl) (hs2 : starEach [e2] X.env = (false, eval e2 X.env) :: starEach [] X.env := by rfl) (hpl : (backTo pos (starEach [e2] X.env)).any (·.1) = false := by rfl) : SE X G E (.Call (.Name nm p) [e, e2] [] pos) (fBlt g (fCons f (fCons f2 fNil))) :=
  s_blt (fun t h => pe_callB (X := X) hc hg hm hv h hn hd hs hpl) (s_arg2 ha hb hs hs2) o
theorem s_ty1 {nm : Str} {T : String} {r : List V → Hp → VK → Prop} {g : List AV → AH → KV → Bool} (hc : CallR X (.type T) r) (o : BOk G g r) (hm : X.mg nm = none) (hv : bootBuiltins nm = some (.type T)) (ha : SE X G E e f) (hg : Gl X nm := by rfl) (hn : nm ≠ "__name__" := by decide) (hd : (nm == ("__debug__" : Str)) = false := by decide) (hs : starEach [e] X.env = (false, eval e X.env) :: starEach [] X.env := by rfl) : SE X G E (.Call (.Name nm p) [e] [] pos) (fBlt g (fCons f fNil)) :=
  s_blt (fun t h => pe_callTy (X := X) hc hg hm hv h hn hd hs) (s_arg1 ha hs) o
theorem cr_lenA (hK : X.K = G.K) : CallR X (.builtin "len") (fun xs H Q => ∃ p ys, xs = [.ref p] ∧ (SqL G.K H p ys ∨ SqT G.K H p ys) ∧ Q (.int ys.length) H) := fun pins s σ H vs us Q I r q => by
  obtain ⟨a, ys, e1, h1, q⟩ := q
  exact call_len pins s σ H vs us Q I r ⟨.ref a, ys.length, e1, by rw [hK]; exact h1.elim (fun z => .inl ⟨ys, z, rfl⟩) (fun z => .inr ⟨ys, z, rfl⟩), q⟩
theorem s_len (M : Amb X G E) (hm : X.mg "len" = none) (ha : SE X G E e f) (hg : Gl X "len" := by rfl) (hs : starEach [e] X.env = (false, eval e X.env) :: starEach [] X.env := by rfl) : SE X G E (.Call (.Name "len" p) [e] [] pos) (fBlt (one bLen) (fCons f fNil)) := s_bi1 (cr_lenA M.K) o_len hm (by decide +kernel) ha hg (by decide) (by decide) hs
theorem s_sum (M : Amb X G E) (hm : X.mg "sum" = none) (ha : SE X G E e f) (hg : Gl X "sum" := by rfl) (hs : starEach [e] X.env = (false, eval e X.env) :: starEach [] X.env := by rfl) : SE X G E (.Call (.Name "sum" p) [e] [] pos) (fBlt (one bSum) (fCons f fNil)) := s_bi1 (by rw [← M.K]; exact cr_sumA M.calm) o_sum hm (by decide +kernel) ha hg (by decide) (by decide) hs
theorem s_all (M : Amb X G E) (hm : X.mg "all" = none) (ha : SE X G E e f) (hg : Gl X "all" := by rfl) (hs : starEach [e] X.env = (false, eval e X.env) :: starEach [] X.env := by rfl) : SE X G E (.Call (.Name "all" p) [e] [] pos) (fBlt (one bAllL) (fCons f fNil)) := s_bi1 (by rw [← M.K]; exact cr_all M.calm) o_all hm (by decide +kernel) ha hg (by decide) (by decide) hs
theorem s_any (M : Amb X G E) (hm : X.mg "any" = none) (ha : SE X G E e f) (hg : Gl X "any" := by rfl) (hs : starEach [e] X.env = (false, eval e X.env) :: starEach [] X.env := by rfl) : SE X G E (.Call (.Name "any" p) [e] [] pos) (fBlt (one bAnyL) (fCons f fNil)) := s_bi1 (by rw [← M.K]; exact cr_any M.calm) o_any hm (by decide +kernel) ha hg (by decide) (by decide) hs
theorem s_minT (M : Amb X G E) (hu : X.A.units + 64 < cLine) (hm : X.mg "min" = none) (ha : SE X G E e f) (hg : Gl X "min" := by rfl) (hs : starEach [e] X.env = (false, eval e X.env) :: starEach [] X.env := by rfl) : SE X G E (.Call (.Name "min" p) [e] [] pos) (fBlt (one bMinT) (fCons f fNil)) := s_bi1 (by rw [← M.K]; exact cr_minT M.calm hu) o_minT hm (by decide +kernel) ha hg (by decide) (by decide) hs
theorem s_abs (M : Amb X G E) (hm : X.mg "abs" = none) (ha : SE X G E e f) (hg : Gl X "abs" := by rfl) (hs : starEach [e] X.env = (false, eval e X.env) :: starEach [] X.env := by rfl) : SE X G E (.Call (.Name "abs" p) [e] [] pos) (fBlt (one bAbs) (fCons f fNil)) := s_bi1 call_abs o_abs hm (by decide +kernel) ha hg (by decide) (by decide) hs
theorem s_max (M : Amb X G E) (hm : X.mg "max" = none) (ha : SE X G E e f) (hb : SE X G E e2 f2) (hg : Gl X "max" := by rfl) (hs : starEach [e, e2] X.env = (false, eval e X.env) :: starEach [e2] X.env := by rfl) (hs2 : starEach [e2] X.env = (false, eval e2 X.env) :: starEach [] X.env := by rfl) (hpl : (backTo pos (starEach [e2] X.env)).any (·.1) = false := by rfl) : SE X G E (.Call (.Name "max" p) [e, e2] [] pos) (fBlt (two bMax) (fCons f (fCons f2 fNil))) := s_bi2 (call_max2 M.calm) o_max hm (by decide +kernel) ha hb hg (by decide) (by decide) hs hs2 hpl
theorem s_min (M : Amb X G E) (hm : X.mg "min" = none) (ha : SE X G E e f) (hb : SE X G E e2 f2) (hg : Gl X "min" := by rfl) (hs : starEach [e, e2] X.env = (false, eval e X.env) :: starEach [e2] X.env := by rfl) (hs2 : starEach [e2] X.env = (false, eval e2 X.env) :: starEach [] X.env := by rfl) (hpl : (backTo pos (starEach [e2] X.env)).any (·.1) = false := by rfl) : SE X G E (.Call (.Name "min" p) [e, e2] [] pos) (fBlt (two bMin) (fCons f (fCons f2 fNil))) := s_bi2 (call_min2 M.calm) o_min hm (by decide +kernel) ha hb hg (by decide) (by decide) hs hs2 hpl
theorem s_tupC (M : Amb X G E) (hm : X.mg "tuple" = none) (ha : SE X G E e f) (hg : Gl X "tuple" := by rfl) (hs : starEach [e] X.env = (false, eval e X.env) :: starEach [] X.env := by rfl) : SE X G E (.Call (.Name "tuple" p) [e] [] pos) (fBlt (one bTup) (fCons f fNil)) := s_ty1 (by rw [← M.K]; exact call_tuple_of) o_tup hm (by decide +kernel) ha hg (by decide) (by decide) hs
end
end AIx
namespace AIx
open PySem L2 PySem.Spec PyProof.Rows
/-! ### enumerate(tuple) -/
theorem enum_newT (a : Addr) (items : Array Value) : Meets (Builtin.«enumerate.__new__» ⟨[.type "enumerate", .ref a], []⟩) (fun _ R s => s.heap.IsTuple a items ∧
    R (.ok (.ret (.ref (s.heap.push { cls := .type "tuple_iterator", data := .fields #[.ref a, .int 0 0] }).objs.size))) { s with heap := (s.heap.push { cls := .type "tuple_iterator", data := .fields #[.ref a, .int 0 0] }).push { cls := .type "enumerate", data := .fields #[.none, .bool false, .ref s.heap.objs.size, rawInt 0, .none, .none] } }) :=
  .of_wp fun prog w A R s z => by
    obtain ⟨hp, g, d, tk, os⟩ := s; obtain ⟨ht, z⟩ := z
    have kin := sub_enumerate
    have hT : Heap.IsTuple (Shared.heap ⟨hp, g, d, tk, os⟩) a items := ht
    wp_walk using wpAny_pyIter_tuple hT
    refine wpAny_stack_any fun skk => wpAny_pure ?_
    split
    · rename_i cl _ _ _ _ _
      cases (cl == Value.type "enumerate")
      · wp_walk using wpAny_pyIter_tuple hT
        exact ⟨_, rfl, z⟩
      · wp_walk using wpAny_pyIter_tuple hT
        exact ⟨_, rfl, z⟩
    · wp_walk using wpAny_pyIter_tuple hT
      exact ⟨_, rfl, z⟩
theorem call_enumT {prog : Program} {w : World} {A : Around} {E : Value → Shared → Prop} {s : Shared} {a : Addr} {items : Array Value} {Q : Value → Shared → Prop} (ht : s.heap.IsTuple a items)
    (q : ∀ h', IsEnum h' (s.heap.objs.size + 1) s.heap.objs.size 0 .none → h'.IsTupleIter s.heap.objs.size a 0 → (∀ b o, s.heap.get? b = some o → h'.get? b = some o) → Q (.ref (s.heap.objs.size + 1)) { s with heap := h' }) : wpAny (model prog w) A (call (.type "enumerate") [.ref a]) Q E s := by
  refine callType_new F.called_enumerate (by decide) (F.typeCall_enumerate_1 _) (F.newCall_enumerate_1 _) (fun obj => F.args_object_init_2 obj _) F.entry_enumerate_new (enum_newT a items) ⟨ht, ?_⟩
  have hz : (s.heap.push { cls := .type "tuple_iterator", data := .fields #[.ref a, .int 0 0] }).objs.size = s.heap.objs.size + 1 := Heap.size_push ..
  show _ ∧ _
  rw [hz]
  have e1 := Heap.get?_push_size (s.heap.push { cls := .type "tuple_iterator", data := .fields #[.ref a, .int 0 0] }) (o := { cls := .type "enumerate", data := .fields #[.none, .bool false, .ref s.heap.objs.size, rawInt 0, .none, .none] }) rfl
  rw [hz] at e1
  exact ⟨⟨_, e1, rfl⟩, q _ e1 ⟨_, Heap.get?_push_of_some _ (Heap.get?_push_size _ rfl), rfl, rfl⟩ fun b o x => Heap.get?_push_of_some _ (Heap.get?_push_of_some _ x)⟩
def ItEnT (K : PySem.W.Frag) (a : Addr) : It := ⟨fun i H => ∃ (xs : List V) (x : V), SqT K H a xs ∧ xs[i]? = some x, fun i H v H' => ∃ T x, v = .ref T ∧ H T = none ∧ H' = upd H T (.tup [.int (i : Nat), x]) ∧ ∀ xs, SqT K H a xs → xs[i]? = some x, fun i H => ∃ xs : List V, SqT K H a xs ∧ xs.length ≤ i⟩
theorem turn_enT {P : Program} {w : World} {K : PySem.W.Frag} {elts : List Expr} {kk : Nat} {tpos : Pos} (a e it : Addr) (nai : a ≠ it) (nae : a ≠ e) :
    Turn P w K (.Tuple elts kk tpos) (ItEnT K a) [e, it] e (fun i h => (∃ old, IsEnum h e it ((i : Nat) : Int) old) ∧ h.IsTupleIter it a i ∧ e ≠ it) where
  mem := by simp
  obj := fun i h z b hb => by
    obtain ⟨⟨old, he⟩, ⟨o, ho, hc, hd⟩, _⟩ := z
    rcases (show b = e ∨ b = it by simpa using hb) with y | y
    · exact ⟨_, by rw [y]; exact he, fun v q => (by cases q)⟩
    · exact ⟨o, by rw [y]; exact ho, fun v q => by rw [hd] at q; cases q⟩
  keep := fun i h h' z kp => by
    obtain ⟨⟨old, he⟩, hi, ne⟩ := z
    exact ⟨⟨old, kp e (by simp) _ he⟩, hi.at fun o q => kp it (by simp) o q, ne⟩
  item := by
    intro X hP hw hK calm i pins s σ H E I free z on
    subst hP hw hK
    obtain ⟨⟨old, he⟩, hit, ne⟩ := z
    obtain ⟨xs, x, sq, hx⟩ := on
    obtain ⟨its, rv, tp, _⟩ := I.tuple sq
    have tp : s.heap.IsTuple a its.toArray := tp
    obtain ⟨u, hu, ru⟩ := rv.get hx; have hel : e < s.heap.objs.size := Heap.lt_size he; have hil : it < s.heap.objs.size := by obtain ⟨_, q, _⟩ := hit; exact Heap.lt_size q
    have D := Draws.tuple (prog := X.prog) (w := X.w) (A := X.A.in1) (I.ok.hd calm) it a nai its.toArray
    have lt : i < its.toArray.size := by
      have := (List.getElem?_eq_some_iff.mp hu).1
      simpa using this
    refine wpAny_pyNext_enum_itemD (P := fun i v => its.toArray[i]? = some v) D he ⟨hit, tp⟩ lt ne (by simp only [List.mem_cons, List.not_mem_nil, or_false, not_or]; exact ⟨ne, fun q => nae q.symm⟩) fun y h' tk hy out hs' hT hz hk => ?_
    have ey : u = y := by
      have : its.toArray[i]? = some u := by simpa using hu
      rw [this] at hy
      exact Option.some.inj hy
    subst ey
    refine ⟨_, rfl, wpAny_letOwnedTupleGo_enum (s := { s with heap := h', toks := tk + 1 }) out fun h'' he' sb => ?_⟩
    have atT : h''.get? s.heap.objs.size = some { cls := .type "tuple", data := .seq #[.int i tk, u] } := (sb.2 _ (Nat.ne_of_gt hel)).trans hT
    have J : Inv X pins σ (upd H s.heap.objs.size (.tup [.int (i : Nat), x])) { s with heap := h'', toks := tk + 1 } :=
      I.turnedNew (ch := [e, it]) (fun b ob hb q => (sb.2 b fun y => hb (by rw [y]; simp)).trans (hk b ob (fun y => hb (by rw [y]; simp)) (fun y => hb (by rw [y]; simp)) q)) free (Nat.le_refl _)
        ⟨by show 2 ≤ sizeLine; decide, [.int i tk, u], .cons ⟨_, rfl⟩ (.cons ru .nil), ⟨_, atT, rfl, _, rfl⟩⟩
    have up : ((i + 1 : Nat) : Int) = (i : Int) + 1 := by omega
    refine ⟨.ref s.heap.objs.size, _, J, rfl, ⟨_, x, rfl, I.fresh, rfl, fun ys hy' => by rw [I.tuple_inj hy' sq]; exact hx⟩, ⟨⟨u, by rw [up]; exact he'⟩, hs'.1.at fun o q => (sb.2 it (Ne.symm ne)).trans q, ne⟩, fun b hb => ?_⟩
    rw [upd_ne (Nat.ne_of_lt (by rcases (show b = e ∨ b = it by simpa using hb) with y | y <;> (rw [y]; assumption)))]
    exact (free b hb).1
  done := by
    intro X hP hw hK calm i pins s σ H E I free z off
    subst hP hw hK
    obtain ⟨⟨old, he⟩, hit, ne⟩ := z
    obtain ⟨xs, sq, hx⟩ := off
    obtain ⟨its, rv, tp, _⟩ := I.tuple sq
    have tp : s.heap.IsTuple a its.toArray := tp
    obtain ⟨f0, f1, f2, f3, f4, f5⟩ := free it (by simp)
    have hl := rv.length
    have none_ : its.toArray[i]? = none := by
      rw [List.getElem?_toArray, List.getElem?_eq_none_iff]
      omega
    have D0 : Draws X.prog X.w X.A.in1 it [it, a] i (fun _ _ => False) (fun n h => n = i ∧ h.IsTupleIter it a i ∧ h.IsTuple a its.toArray) :=
      ⟨fun n h st => let ⟨o, ho, _⟩ := st.2.1; ⟨o, ho⟩, fun n h h' st kp => ⟨st.1, st.2.1.at fun o q => kp it (by simp) o q, st.2.2.at fun o q => kp a (by simp) o q⟩, fun n s Q E lt st => absurd st.1 (Nat.ne_of_lt lt),
        fun s Q E st q => wpAny_nextOf_tuple_end (I.ok.hd calm) st.2.1 st.2.2 none_ q⟩
    exact wpAny_pyNext_enum_endD D0 he ⟨rfl, hit, tp⟩ fun h' eb => ⟨rfl, I.turned (t' := s.toks) (fun b o nb q => eb b o nb q) f0 f1 f3 f4 f5⟩
  self := fun A i s Q E z q => let ⟨⟨_, he⟩, _⟩ := z; wpAny_pyIter_enum he q
theorem i_enumT {X : Cx} {G : GE} {E : XK} {e : Expr} {f : FE} {pos : Pos} {elts : List Expr} {kk : Nat} {tpos p : Pos} (M : Amb X G E) (hm : X.mg "enumerate" = none) (he : SE X G E e f) (hg : Gl X "enumerate" := by rfl) (hs : starEach [e] X.env = [(false, eval e X.env)] := by rfl) : SI X G E (.Tuple elts kk tpos) (.Call (.Name "enumerate" p) [e] [] pos) (fIt isTp yEnu f) := by
  have low : PI X (.Tuple elts kk tpos) (.Call (.Name "enumerate" p) [e] [] pos) (fun σ H R => tCons (rdE G E f) tNil σ H fun vs H1 => ∃ a xs, vs = [.ref a] ∧ Rd H1 a (.tup xs) ∧ R (ItEnT X.K a) H1) := by
    refine ⟨fun pins s σ H R I h => ?_⟩; refine Call_ (ld_blt I hg hm boot_enumerate (PyProof.Rows.callWith_type1 (thn ((pa_cons he pa_nil (by rw [hs]; rfl)).run pos pins s σ H _ I h) fun us s1 ⟨vs, H1, I1, r1, q1⟩ => ?_) hs rfl))
    obtain ⟨a, xs, rfl, hq, q⟩ := q1
    obtain ⟨u, rfl, ru⟩ := r1.one
    cases ru
    obtain ⟨its, rv, tp, _⟩ := I1.tuple (.inl hq)
    have tp : s1.heap.IsTuple a its.toArray := tp
    have la : a < s1.heap.objs.size := by obtain ⟨o, ho, _⟩ := tp; exact Heap.lt_size ho
    refine call_enumT tp fun h' e1 i1 kp => wpAny_pyIter_enum e1 ?_
    have J : Inv X pins σ H1 { s1 with heap := h' } := I1.kept (t' := s1.toks) kp
    refine ⟨s1.heap.objs.size + 1, [s1.heap.objs.size + 1, s1.heap.objs.size], _, _, H1, rfl, J, turn_enT a (s1.heap.objs.size + 1) s1.heap.objs.size (Nat.ne_of_lt la) (Nat.ne_of_lt (Nat.lt_succ_of_lt la)), ⟨⟨.none, e1⟩, i1, Nat.succ_ne_self _⟩, fun b hb => ?_, q⟩
    have ge : s1.heap.objs.size ≤ b := by
      rcases (show b = s1.heap.objs.size + 1 ∨ b = s1.heap.objs.size by simpa using hb) with z | z
      · rw [z]; exact Nat.le_succ _
      · rw [z]; exact Nat.le_refl _
    exact I1.fpOk ge (I1.hok.fresh ge)
  refine PI.imp low fun σc H R ⟨ι, σ, h, A⟩ => ⟨ι, σ, h, A.bind (f := f) (g := fun v σ h k x => match isTp h v with | true => k (itSeq isTp yEnu v) h | false => false) fun ι1 h1 H1 v c s1 v1 A1 => ?_⟩
  obtain ⟨s, r, k, x, e, P⟩ := A1
  split at e
  · rename_i hl
    obtain ⟨n, xs, cs, rfl, rfl, q1, q2, q4⟩ := tp_only (k := fun _ => true) r v1 hl (seqO_no (.inr hl) fun _ => rfl)
    rw [M.K]
    refine ⟨_, cs, rfl, q4, P.ok _ _ _ _ _ (.refl r) (wr_tup v1.1 y_enu (fun H i cs c q z => ⟨cs, c, q, z⟩) (fun H i cs c x H' q z y => ?_) fun H i cs q z => ⟨cs, q, z⟩) e⟩
    obtain ⟨T, x', t1, t2, t3, t4⟩ := y
    have := t4 cs q
    rw [z] at this
    cases this
    exact ⟨T, t1, t2, t3⟩
  · cases e
end AIx
namespace AIx
open PySem L2 PySem.Spec PyProof.Rows
/-! ### list(zip(a, b)) -/
section
variable {prog : Program} {w : World} {A : Around} {E : Value → Shared → Prop} {s : Shared} {z TI TO T i1 i2 : Addr} {fp1 fp2 : List Addr} {n1 n2 i : Nat} {P1 P2 : Nat → Value → Prop} {St1 St2 : Nat → Heap → Prop} {f : Bool} {oT : Obj}
/-- the next pair, while the last one is still held -/
theorem zipH_next {Q : Value → Shared → Prop} (S : ZipSep2 z TI TO i1 i2 fp1 fp2) (D1 : Draws prog w A i1 fp1 n1 P1 St1) (D2 : Draws prog w A i2 fp2 n2 P2 St2) (hz : IsZipHeld s.heap z TI TO T f) (hT : s.heap.get? T = some oT) (hTI : IsTupOf2 s.heap TI (.ref i1) (.ref i2))
    (t1 : St1 i s.heap) (t2 : St2 i s.heap) (l1 : i < n1) (l2 : i < n2)
    (q : ∀ x y h' tk, P1 i x → P2 i y → IsZipHeld h' z TI TO T true → St1 (i + 1) h' → St2 (i + 1) h' → IsTupOf2 h' s.heap.objs.size x y → h'.objs.size = s.heap.objs.size + 1 → (∀ c o, c ≠ z → c ≠ i1 → c ≠ i2 → s.heap.get? c = some o → h'.get? c = some o) → Q (.ref s.heap.objs.size) { s with heap := h', toks := tk }) :
    wpAny (model prog w) A (Builtin.«zip.__next__» ⟨[.ref z], []⟩) (fun e s' => ∃ v, e = .done (.ret v) ∧ Q v s') E s := by
  rcases s with ⟨hp, g, d, tk0, os⟩
  show wpAny _ _ (field (.ref z) 2 >>= _) _ _ _; refine wpAny_bind (wpAny_field hz rfl (x := .bool false) rfl ?_)
  show wpAny _ _ (field (.ref z) 3 >>= _) _ _ _; refine wpAny_bind (wpAny_field hz rfl (x := .ref TI) rfl (wpAny_bind (wpAny_seqItems hTI rfl ?_)))
  show wpAny _ _ (Builtin.SmallTypes.ownedTupleIsFree (.ref z) >>= _) _ _ _; refine wpAny_bind (wpAny_tupleHeld_zip hz hT fun p0 z0 e0 => ?_)
  replace e0 : Heap.SameBut z hp p0 := e0
  simp only [Bool.false_eq_true, if_false]; refine wpAny_bind ?_
  rw [← Array.forIn_toList]
  simp only [List.forIn_cons, List.forIn_nil]; refine wpAny_bind (wpAny_bind (wpAny_holding ?_))
  show wpAny _ _ (Builtin.SmallTypes.nextOf (.ref i1) >>= _) _ _ ⟨p0, g, d, tk0, os⟩
  refine wpAny_bind (D1.item i _ _ _ l1 (D1.over t1 e0 S.zf1) fun x p1 tk1 hx u1 e1 => wpAny_pure ?_)
  replace e1 : Heap.SameBut i1 p0 p1 := e1
  refine wpAny_pure (wpAny_bind (wpAny_bind (wpAny_holding ?_)))
  show wpAny _ _ (Builtin.SmallTypes.nextOf (.ref i2) >>= _) _ _ ⟨p1, g, d, tk1, os⟩
  refine wpAny_bind (D2.item i _ _ _ l2 (D2.over (D2.over t2 e0 S.zf2) e1 S.sep1_2) fun y p2 tk2 hy u2 e2 => wpAny_pure ?_)
  replace e2 : Heap.SameBut i2 p1 p2 := e2
  refine wpAny_pure (wpAny_pure ?_); show wpAny _ _ (newTuple [x, y] >>= _) _ _ _
  refine wpAny_bind (wpAny_newTuple ?_); have sz : p2.objs.size = hp.objs.size := by rw [e2.1, e1.1, e0.1]
  have zz : IsZipHeld p2 z TI TO T true := e2.extBut _ _ S.zi2 (e1.extBut _ _ S.zi1 z0)
  have kp : ∀ c o, c ≠ z → c ≠ i1 → c ≠ i2 → hp.get? c = some o → p2.get? c = some o := fun c o a b c' h => e2.extBut _ _ c' (e1.extBut _ _ b (e0.extBut _ _ a h))
  have v1 : St1 (i + 1) p2 := D1.over u1 e2 S.sep2_1
  refine wpAny_pure ⟨_, rfl, ?_⟩; have tp : IsTupOf2 (p2.push { cls := .type "tuple", data := .seq #[x, y] }) p2.objs.size x y := Heap.get?_push_size _ rfl
  have up : ∀ c o, p2.get? c = some o → (p2.push { cls := .type "tuple", data := .seq #[x, y] }).get? c = some o := fun c o h => Heap.get?_push_of_some _ h
  have z4 : (p2.push { cls := .type "tuple", data := .seq #[x, y] }).objs.size = p2.objs.size + 1 := Heap.size_push ..
  show Q (.ref p2.objs.size) _
  rw [sz] at tp z4 ⊢
  exact q x y _ tk2 hx hy (up _ _ zz) (D1.frame _ _ _ v1 fun b hb o h => up _ _ h) (D2.frame _ _ _ u2 fun b hb o h => up _ _ h) tp z4 fun c o a b c' h => up _ _ (kp c o a b c' h)
theorem zipH_item {Q : Option Value → Shared → Prop} (S : ZipSep2 z TI TO i1 i2 fp1 fp2) (D1 : Draws prog w A.in1 i1 fp1 n1 P1 St1) (D2 : Draws prog w A.in1 i2 fp2 n2 P2 St2) (hz : IsZipHeld s.heap z TI TO T f) (hT : s.heap.get? T = some oT) (hTI : IsTupOf2 s.heap TI (.ref i1) (.ref i2))
    (t1 : St1 i s.heap) (t2 : St2 i s.heap) (l1 : i < n1) (l2 : i < n2)
    (q : ∀ x y h' tk, P1 i x → P2 i y → IsZipHeld h' z TI TO T true → St1 (i + 1) h' → St2 (i + 1) h' → IsTupOf2 h' s.heap.objs.size x y → h'.objs.size = s.heap.objs.size + 1 → (∀ c o, c ≠ z → c ≠ i1 → c ≠ i2 → s.heap.get? c = some o → h'.get? c = some o) → Q (some (.ref s.heap.objs.size)) { s with heap := h', toks := tk }) : wpAny (model prog w) A (pyNext (.ref z)) Q E s := by
  have ty : s.TypeIs (.ref z) "zip" := ⟨_, hz, rfl⟩
  unfold pyNext
  exact wpAny_bind (wpAny_attempt (wpAny_callSpecial?_slot (name := Str.ofString "__next__") ty F.slot_zip_next (wpAny_call_entry F.slot_zip_next ty F.entry_zip_next
    (zipH_next S D1 D2 hz hT hTI t1 t2 l1 l2 fun x y h' tk a b c d e k m n => wpAny_pure (q x y h' tk a b c d e k m n)) (F.args_zip_next_1 _))))
/-- the end, the last pair held -/
theorem zipH_end {Q : Option Value → Shared → Prop} (D1 : Draws prog w A.in1 i1 fp1 n1 P1 St1) (S : ZipSep2 z TI TO i1 i2 fp1 fp2) (hz : IsZipHeld s.heap z TI TO T f) (hT : s.heap.get? T = some oT) (hTI : IsTupOf2 s.heap TI (.ref i1) (.ref i2)) (t1 : St1 n1 s.heap)
    (q : ∀ h', (∀ c o, c ≠ z → c ≠ i1 → s.heap.get? c = some o → h'.get? c = some o) → Q none { s with heap := h' }) : wpAny (model prog w) A (pyNext (.ref z)) Q E s := by
  have ty : s.TypeIs (.ref z) "zip" := ⟨_, hz, rfl⟩
  unfold pyNext
  refine wpAny_bind (wpAny_attempt (wpAny_callSpecial?_slot (name := Str.ofString "__next__") ty F.slot_zip_next (wpAny_call_entry F.slot_zip_next ty F.entry_zip_next ?_ (F.args_zip_next_1 _))))
  rcases s with ⟨hp, g, d, tk0, os⟩
  show wpAny _ _ (field (.ref z) 2 >>= _) _ _ _; refine wpAny_bind (wpAny_field hz rfl (x := .bool false) rfl ?_)
  show wpAny _ _ (field (.ref z) 3 >>= _) _ _ _; refine wpAny_bind (wpAny_field hz rfl (x := .ref TI) rfl (wpAny_bind (wpAny_seqItems hTI rfl ?_)))
  show wpAny _ _ (Builtin.SmallTypes.ownedTupleIsFree (.ref z) >>= _) _ _ _; refine wpAny_bind (wpAny_tupleHeld_zip hz hT fun p0 z0 e0 => ?_)
  replace e0 : Heap.SameBut z hp p0 := e0
  simp only [Bool.false_eq_true, if_false]; refine wpAny_bind ?_
  rw [← Array.forIn_toList]
  simp only [List.forIn_cons, List.forIn_nil]; refine wpAny_bind (wpAny_bind (wpAny_holding ?_))
  show wpAny _ _ (Builtin.SmallTypes.nextOf (.ref i1) >>= _) _ _ ⟨p0, g, d, tk0, os⟩
  refine wpAny_bind (D1.done _ _ _ (D1.over t1 e0 S.zf1) fun p1 e x1 st => ?_)
  obtain ⟨o, ho, hc⟩ := st
  refine wpAny_bind (wpAny_isInstance (T := "StopIteration") (b := true) ⟨o, ho, hc⟩ isSubtype_stop ?_); exact wpAny_pure (q p1 fun c o a b h => x1 _ _ b (e0.extBut _ _ a h))
end
end AIx
namespace AIx
open PySem L2 PySem.Spec PyProof.Rows
/-- the pairs go into the list at m -/
def zipI : List AV → List AV → Nat → AH → (AH → Bool) → Bool
  | [], [], _, h, k => k h
  | a :: r, b :: t, m, h, k => newK (.tup [a, b]) h fun v h => pushK m v h fun h => zipI r t m h k
  | _, _, _, _, _ => false
theorem zipI_step {xs ys : List AV} {i n m : Nat} {h : AH} {k : AH → Bool} (hx : xs.length = n) (hy : ys.length = n) (hi : i < n) (e : zipI (xs.drop i) (ys.drop i) m h k = true) :
    ∃ a b, xs[i]? = some a ∧ ys[i]? = some b ∧ pushK m (.ref h.length) (h ++ [.tup [a, b]]) (fun h => zipI (xs.drop (i + 1)) (ys.drop (i + 1)) m h k) = true := by
  have p : i < xs.length ∧ i < ys.length := by omega
  rw [List.drop_eq_getElem_cons p.1, List.drop_eq_getElem_cons p.2] at e
  unfold zipI at e
  rw [newK_eq] at e
  exact ⟨_, _, List.getElem?_eq_getElem p.1, List.getElem?_eq_getElem p.2, e⟩
theorem zipI_end {xs ys : List AV} {n m : Nat} {h : AH} {k : AH → Bool} (hx : xs.length = n) (hy : ys.length = n) (e : zipI (xs.drop n) (ys.drop n) m h k = true) : k h = true := by
  rw [List.drop_of_length_le (by omega), List.drop_of_length_le (by omega)] at e
  exact e
def ZSt (h : Heap) (z TI TO i1 i2 S : Addr) (i : Nat) : Prop := (i = 0 ∧ IsZip h z TI TO .none ∧ ∃ a1 a2, IsTupOf2 h TO a1 a2) ∨ ∃ T f oT, IsZipHeld h z TI TO T f ∧ h.get? T = some oT ∧ ∀ b ∈ [z, TO, i1, i2, S], T ≠ b
theorem vals_inv : ∀ {cs : List V} {us : List Value} {i : Nat} {u : Value}, Vals cs us → us[i]? = some u → ∃ c, cs[i]? = some c ∧ RelV c u
  | _, _, _, _, .nil, q => by simp at q
  | _, _, 0, _, .cons r _, e => by simp at e; subst e; exact ⟨_, by simp, r⟩
  | _, _, i + 1, _, .cons _ t, e => by
    obtain ⟨c, e1, e2⟩ := vals_inv (i := i) t (by simpa using e)
    exact ⟨c, by simpa using e1, e2⟩
section
variable {X : Cx} {G : GE} {pins : List (Addr × Obj)} {σ : L2.St} {ι0 : Nat → Addr} {h0 : AH} {H0 : Hp} {S z TI TO i1 i2 : Addr} {m n : Nat} {items1 items2 : Array Value} {St1 St2 : Nat → Heap → Prop} {fp1 fp2 : List Addr} {xs ys : List AV} {cs1 cs2 : List V}
structure ZI (X : Cx) (G : GE) (pins : List (Addr × Obj)) (σ : L2.St) (ι0 : Nat → Addr) (h0 : AH) (H0 : Hp) (z TI TO i1 i2 S : Addr) (m : Nat) (St1 St2 : Nat → Heap → Prop) (xs ys : List AV) (k : AH → Bool) (i : Nat) (s : Shared) : Prop where
  ex : ∃ ι' h' H', Inv X pins σ H' s ∧ Stp G ι0 h0 H0 ι' h' H' ∧ (∀ b ∈ [z, TO, i1, i2], FpOk X pins H' b) ∧ zipI (xs.drop i) (ys.drop i) m h' k = true
  zs : ZSt s.heap z TI TO i1 i2 S i
  lt : ∀ b ∈ [z, TO, i1, i2, S], b < s.heap.objs.size
  ti : IsTupOf2 s.heap TI (.ref i1) (.ref i2)
  s1 : St1 i s.heap
  s2 : St2 i s.heap
theorem zip_loop {A : Around} (Sep : ZipSep2 z TI TO i1 i2 fp1 fp2) (D1 : Draws X.prog X.w A.in1.in1 i1 fp1 n (fun j u => items1[j]? = some u) St1) (D2 : Draws X.prog X.w A.in1.in1 i2 fp2 n (fun j u => items2[j]? = some u) St2)
    (rx : VsRel ι0 h0.length xs cs1) (ry : VsRel ι0 h0.length ys cs2) (v1 : Vals cs1 items1.toList) (v2 : Vals cs2 items2.toList) (hx : xs.length = n) (hy : ys.length = n) (hm : m < h0.length) (hS : ι0 m = S) (n1 : S ∉ fp1) (n2 : S ∉ fp2) (nz : S ≠ z) (nT : S ≠ TO) (nI : S ≠ TI) (pos : 0 < n)
    {k : AH → Bool} {R : Result → Shared → Prop} (fin : ∀ s' ι' h' H', Inv X pins σ H' s' → Stp G ι0 h0 H0 ι' h' H' → k h' = true → R (.ok (.ret .none)) s') :
    ∀ (d i : Nat) (s : Shared), n - i = d → i ≤ n → ZI X G pins σ ι0 h0 H0 z TI TO i1 i2 S m St1 St2 xs ys k i s → codeAny (model X.prog X.w) A (.builtin "list.extend.loop" ⟨[.ref S, .ref z, .none], []⟩) R s := by
  intro d
  induction d with
  | zero =>
    intro i s hd hi W
    have ei : i = n := by omega
    subst ei
    obtain ⟨ι', h', H', I, st, ok, e⟩ := W.ex
    rcases W.zs with ⟨q, _⟩ | ⟨T, f, oT, hz, hT, _⟩
    · omega
    · refine codeAny_builtin F.entry_extend_loop ?_
      rw [Around.under_plainId F.plain_extend_loop _]; show wpAny _ A.in1 (pyNext (.ref z) >>= _) _ _ s
      refine wpAny_bind (zipH_end D1 Sep hz hT W.ti W.s1 fun p kp => wpAny_pure ?_)
      exact fin _ ι' h' H' (I.turnedL (t' := s.toks) (ch := [z, i1]) (fun b o hb q => kp b o (fun y => hb (by rw [y]; simp)) (fun y => hb (by rw [y]; simp)) q) fun b hb => ok b (by
        rcases (show b = z ∨ b = i1 by simpa using hb) with y | y <;> simp [y])) st (zipI_end hx hy e)
  | succ d ih =>
    intro i s hd hi W
    have lt : i < n := by omega
    obtain ⟨ι', h', H', I, st, ok, e⟩ := W.ex
    obtain ⟨a, b, ha, hb, e⟩ := zipI_step hx hy lt e
    -- behind the next pair
    have step : ∀ (x y : Value) (p : Heap) (tk : Nat), items1[i]? = some x → items2[i]? = some y → (∃ T f oT, IsZipHeld p z TI TO T f ∧ p.get? T = some oT ∧ ∀ b ∈ [z, TO, i1, i2, S], T ≠ b) → p.objs.size = s.heap.objs.size + 1 → St1 (i + 1) p → St2 (i + 1) p → IsTupOf2 p s.heap.objs.size x y → (∀ c o, c ≠ z → c ≠ TO → c ≠ i1 → c ≠ i2 → s.heap.get? c = some o → p.get? c = some o) →
        wpAny (model X.prog X.w) A.in1 (updateSeq S (·.push (.ref s.heap.objs.size)) >>= fun _ => again (.builtin "list.extend.loop" ⟨[.ref S, .ref z, .none], []⟩)) (fun fin s' => match fin with | .done f => R (.ok f) s' | .again c' => c'.quiet = true ∧ codeAny (model X.prog X.w) A c' R s') (fun e s' => R (.error e) s') { s with heap := p, toks := tk } := by
      intro x y p tk x1 y1 held grown u1 u2 tp kp
      obtain ⟨c1, d1, r1⟩ := vals_inv v1 (by rw [Array.getElem?_toList]; exact x1)
      obtain ⟨c2, d2, r2⟩ := vals_inv v2 (by rw [Array.getElem?_toList]; exact y1)
      have a1 : VRel ι0 h0.length a c1 := by
        obtain ⟨c, q1, q2⟩ := VsRel.get rx ha
        rw [d1] at q1
        cases q1
        exact q2
      have a2 : VRel ι0 h0.length b c2 := by
        obtain ⟨c, q1, q2⟩ := VsRel.get ry hb
        rw [d2] at q1
        cases q1
        exact q2
      have J : Inv X pins σ (upd H' s.heap.objs.size (.tup [c1, c2])) { s with heap := p, toks := tk } :=
        I.turnedNew (ch := [z, TO, i1, i2]) (fun c o hc q => kp c o (fun y => hc (by rw [y]; simp)) (fun y => hc (by rw [y]; simp)) (fun y => hc (by rw [y]; simp)) (fun y => hc (by rw [y]; simp)) q) ok (Nat.le_refl _)
          ⟨by show 2 ≤ sizeLine; decide, [x, y], .cons r1 (.cons r2 .nil), ⟨_, tp, rfl, _, rfl⟩⟩
      have st2 := Stp.newT (p := s.heap.objs.size) st.rel I.fresh (.cons (st.vr a1) (.cons (st.vr a2) .nil))
      obtain ⟨acc, h2, p1, p2, p3, p4⟩ := pushK_ok (c := .ref s.heap.objs.size) st2.rel VRel.new e
      have im : updI ι' h'.length s.heap.objs.size m = S := by rw [updI_lt m (Nat.lt_of_lt_of_le hm st.le), st.agr m hm, hS]
      rw [im] at p1 p3
      obtain ⟨_, its, c, rv, hl, at_⟩ := J.lstM p1
      refine wpAny_bind (wpAny_updateSeq at_ rfl (wpAny_pure ⟨plainId_quiet F.plain_extend_loop _, ih (i + 1) _ (by omega) lt ⟨?_, ?_, ?_, ?_, ?_, ?_⟩⟩) (by rw [List.size_toArray, ← hl]; omega) (by show (its.toArray.push _).size ≤ sizeLine + 1; rw [Array.size_push, List.size_toArray, ← hl]; omega))
      all_goals have oth : ∀ b o, b ≠ S → p.get? b = some o → (p.update S (Obj.mapSeq (·.push (.ref s.heap.objs.size)))).get? b = some o := fun b o nb q => (Heap.get?_update_other _ _ (Ne.symm nb)).trans q
      · refine ⟨_, h2, _, J.lset (its' := its ++ [.ref s.heap.objs.size]) (t' := tk) p1 at_ (by simp) (rv.append (.cons (show RelV (V.ref s.heap.objs.size) (Value.ref s.heap.objs.size) from rfl) .nil)) (by rw [List.length_append]; exact p2), (st.trans st2).trans p3, fun b hb' => ⟨?_, (ok b hb').2⟩, p4⟩
        have nS : b ≠ S := by
          rcases (show b = z ∨ b = TO ∨ b = i1 ∨ b = i2 by simpa using hb') with y | y | y | y
          · rw [y]; exact nz.symm
          · rw [y]; exact nT.symm
          · rw [y]; exact fun q => n1 (by rw [← q]; exact Sep.mem1)
          · rw [y]; exact fun q => n2 (by rw [← q]; exact Sep.mem2)
        rw [upd_ne nS, upd_ne (Nat.ne_of_lt (W.lt b (by simp at hb' ⊢; rcases hb' with y | y | y | y <;> simp [y])))]
        exact (ok b hb').1
      · obtain ⟨T, f, oT, q1, q2, q3⟩ := held
        exact .inr ⟨T, f, oT, oth _ _ nz.symm q1, oth _ _ (q3 S (by simp)) q2, q3⟩
      · intro b hb'
        show b < (p.update S _).objs.size
        rw [Heap.size_update, grown]
        exact Nat.lt_succ_of_lt (W.lt b hb')
      · exact oth _ _ nI.symm (kp _ _ Sep.TIz Sep.TITO Sep.TIi1 Sep.TIi2 W.ti)
      · exact D1.frame _ _ _ u1 fun b hb' o q => oth b o (fun y => n1 (by rw [← y]; exact hb')) q
      · exact D2.frame _ _ _ u2 fun b hb' o q => oth b o (fun y => n2 (by rw [← y]; exact hb')) q
    refine codeAny_builtin F.entry_extend_loop ?_; rw [Around.under_plainId F.plain_extend_loop _]
    show wpAny _ A.in1 (pyNext (.ref z) >>= _) _ _ s
    rcases W.zs with ⟨q0, hz, b1, b2, hTO⟩ | ⟨T, f, oT, hz, hT, nn⟩
    · refine wpAny_bind (wpAny_pyNext_zipD2_item Sep D1 D2 hz W.ti hTO W.s1 W.s2 lt lt fun x y p tk x1 y1 z1 _ u1 u2 tp sz kp => ?_)
      exact step x y p tk x1 y1 ⟨s.heap.objs.size, false, _, z1, tp, fun b hb' => Nat.ne_of_gt (W.lt b hb')⟩ sz u1 u2 tp kp
    · refine wpAny_bind (zipH_item Sep D1 D2 hz hT W.ti W.s1 W.s2 lt lt fun x y p tk x1 y1 z1 u1 u2 tp sz kp => ?_)
      exact step x y p tk x1 y1 ⟨T, true, oT, z1, kp T oT (nn z (by simp)) (nn i1 (by simp)) (nn i2 (by simp)) hT, nn⟩ sz u1 u2 tp fun c o h1 _ h3 h4 q => kp c o h1 h3 h4 q
end
end AIx
namespace AIx
open PySem L2 PySem.Spec PyProof.Rows
theorem zip_len0 : typeLookup (.type "zip") "__len__" = pure none := am_miss_of_fast (by decide +kernel)
theorem zip_hint0 : typeLookup (.type "zip") "__length_hint__" = pure none := am_miss_of_fast (by decide +kernel)
section
variable {prog : Program} {w : World} {A : Around} {E : Value → Shared → Prop} {s : Shared} {z TI TO : Addr}
/-- list(a zip), down to its loop -/
theorem list_zip0 {Q : Value → Shared → Prop} (hz : IsZip s.heap z TI TO .none)
    (loop : ∀ (hS : Heap) (c : Nat), (∀ b o, s.heap.get? b = some o → hS.get? b = some o) → hS.objs.size = s.heap.objs.size + 1 → hS.get? s.heap.objs.size = some { cls := .type "list", dict := none, data := .seq #[] c, slots := #[] } →
      codeAny (model prog w) A.in1 (.builtin "list.extend.loop" ⟨[.ref s.heap.objs.size, .ref z, .none], []⟩) (wants (fun r s₂ => r = .none ∧ Q (.ref s.heap.objs.size) s₂) E) { s with heap := hS }) : wpAny (model prog w) A (call (.type "list") [.ref z]) Q E s := by
  have hne : s.heap.objs.size ≠ z := Nat.ne_of_gt (Heap.lt_size hz)
  refine callType_codes (Q₁ := fun obj s₁ => obj = .ref s.heap.objs.size ∧ s₁ = { s with heap := s.heap.push { cls := .type "list", data := .seq #[] } }) F.called_list (F.typeCall_list_1 _) F.entry_list_init (code_list_new _ ⟨rfl, rfl⟩) fun obj s₁ both => ?_
  obtain ⟨rfl, rfl⟩ := both
  have g0 : (s.heap.push { cls := .type "list", data := .seq #[] }).get? s.heap.objs.size = some { cls := .type "list", data := .seq #[] } := Heap.get?_push_size _ rfl
  refine ⟨⟨_, g0, rfl⟩, F.args_list_init_2 _ _, ?_⟩
  show wpAny _ A.in1.in1 (do let old ← Builtin.List.listItems (.ref s.heap.objs.size); Builtin.List.listUpdate (.ref s.heap.objs.size) (fun _ => #[]); letGo old.toList.reverse; Builtin.List.listExtendWith (.ref s.heap.objs.size) (.ref z) .none) _ _ _
  refine wpAny_bind ?_
  unfold Builtin.List.listItems
  refine wpAny_bind (wpAny_seqItems g0 rfl (wpAny_pure ?_))
  show wpAny _ A.in1.in1 (updateSeq s.heap.objs.size (fun _ => #[]) >>= fun _ => letGo (#[] : Array Value).toList.reverse >>= fun _ => Builtin.List.listExtendWith (.ref s.heap.objs.size) (.ref z) .none) _ _ _
  refine wpAny_bind (wpAny_updateSeq g0 rfl ?_)
  have g1 := Heap.get?_update_self (Obj.mapSeq (fun _ => (#[] : Array Value))) g0 rfl; refine wpAny_bind (wpAny_letGo ?_)
  have k1 : ∀ b o, s.heap.get? b = some o → ((s.heap.push { cls := .type "list", data := .seq #[] }).update s.heap.objs.size (Obj.mapSeq (fun _ => (#[] : Array Value)))).get? b = some o := fun b o q =>
    (Heap.get?_update_other _ _ (Nat.ne_of_gt (Heap.lt_size q))).trans (Heap.get?_push_of_some _ q)
  have z1 := k1 _ _ hz
  generalize eH : (s.heap.push { cls := .type "list", data := .seq #[] }).update s.heap.objs.size (Obj.mapSeq (fun _ => (#[] : Array Value))) = H1 at g1 k1 z1
  have sz1 : H1.objs.size = s.heap.objs.size + 1 := by rw [← eH, Heap.size_update, Heap.size_push]
  have ty : ({ s with heap := H1 } : Shared).TypeIs (.ref z) "zip" := ⟨_, z1, rfl⟩; unfold Builtin.List.listExtendWith

  refine wpAny_bind (wpAny_typeOf ty ?_)
  have n1 : Builtin.List.listSameRef (.ref s.heap.objs.size) (.ref z) = false := by simp [Builtin.List.listSameRef, hne]
  have n2 : (Value.type "zip" == Value.type "list") = false := by decide
  have n3 : (Value.type "zip" == Value.type "tuple") = false := by decide
  simp only [n1, n2, n3, Bool.or_false, Bool.false_eq_true, if_false]
  refine wpAny_bind (wpAny_pyIter_zip z1 (wpAny_bind (wpAny_holding ?_)))
  unfold Builtin.List.listLengthHint; refine wpAny_bind (wpAny_specialOf ty zip_len0 ?_)
  show wpAny _ A.in1.in1 (specialOf (Value.ref z) (Str.ofString "__length_hint__") >>= _) _ _ _
  refine wpAny_bind (wpAny_specialOf ty zip_hint0 (wpAny_pure ?_))
  show wpAny _ A.in1.in1 (rule "list.extend.makes-room" >>= fun _ => Builtin.List.listTouch (.ref s.heap.objs.size) >>= fun _ => again (.builtin "list.extend.loop" ⟨[.ref s.heap.objs.size, .ref z, .none], []⟩)) _ _ _
  refine wpAny_bind (wpAny_rule (wpAny_bind ?_)); show wpAny _ A.in1.in1 (updateSeq s.heap.objs.size (·.push .none) >>= fun _ => updateSeq s.heap.objs.size (·.pop)) _ _ _
  refine wpAny_bind (wpAny_updateSeq g1 rfl ?_)
  have g2 := Heap.get?_update_self (Obj.mapSeq (·.push Value.none)) g1 rfl
  refine wpAny_updateSeq (hz := by seq_fits) g2 rfl ?_
  have g3 := Heap.get?_update_self (Obj.mapSeq (·.pop)) g2 rfl
  refine wpAny_pure ⟨plainId_quiet F.plain_extend_loop _, loop _ _ (fun b o q => ?_) (by rw [Heap.size_update, Heap.size_update, sz1]) g3⟩
  have nb : s.heap.objs.size ≠ b := Nat.ne_of_gt (Heap.lt_size q)
  exact (Heap.get?_update_other _ _ nb).trans ((Heap.get?_update_other _ _ nb).trans (k1 b o q))
end
end AIx
namespace AIx
open PySem L2 PySem.Spec PyProof.Rows
/-- what a zip asks of each of its two -/
structure ZK (P : Program) (w : World) (a : Addr) (items : Array Value) (o : Obj) (Hq : Heap → Prop) (St : Addr → Nat → Heap → Prop) : Prop where
  beg : Begins (.ref a) o Hq
  drw : ∀ (A : Around) (it : Addr), A.handled = none → a ≠ it → Draws P w A it [it, a] items.size (fun j u => items[j]? = some u) (St it)
  st0 : ∀ (it : Addr) (h : Heap), h.get? it = some o → Hq h → St it 0 h
  lt : ∀ h, Hq h → a < h.objs.size
theorem zk_list {P : Program} {w : World} {a : Addr} {items : Array Value} : ZK P w a items { cls := .type "list_iterator", data := .fields #[.ref a, .int 0 0] } (fun h => h.IsList a items) (fun it i h => h.IsListIter it a i ∧ h.IsList a items) :=
  ⟨begins_list a items, fun A it hh ne => Draws.list hh it a ne items, fun it h e q => ⟨⟨_, e, rfl, rfl⟩, q⟩, fun h q => let ⟨o, z, _⟩ := q; Heap.lt_size z⟩
theorem zk_tup {P : Program} {w : World} {a : Addr} {items : Array Value} : ZK P w a items { cls := .type "tuple_iterator", data := .fields #[.ref a, .int 0 0] } (fun h => h.IsTuple a items) (fun it i h => h.IsTupleIter it a i ∧ h.IsTuple a items) :=
  ⟨begins_tuple a items, fun A it hh ne => Draws.tuple hh it a ne items, fun it h e q => ⟨⟨_, e, rfl, rfl⟩, q⟩, fun h q => let ⟨o, z, _⟩ := q; Heap.lt_size z⟩
section
variable {X : Cx} {G : GE} {pins : List (Addr × Obj)} {σ : L2.St} {H : Hp} {s : Shared} {ι : Nat → Addr} {h : AH} {a b : Addr} {items1 items2 : Array Value} {o1 o2 : Obj} {Hq1 Hq2 : Heap → Prop} {St1 St2 : Addr → Nat → Heap → Prop} {cs1 cs2 : List V} {xs ys : List AV} {n : Nat}
/-- zip(a, b), then list of it -/
theorem zip_both (calm : X.calm = true) (I : Inv X pins σ H s) (r : HRel G ι h H) (k1 : ZK X.prog X.w a items1 o1 Hq1 St1) (k2 : ZK X.prog X.w b items2 o2 Hq2 St2) (q1 : Hq1 s.heap) (q2 : Hq2 s.heap) (v1 : Vals cs1 items1.toList) (v2 : Vals cs2 items2.toList) (rx : VsRel ι h.length xs cs1) (ry : VsRel ι h.length ys cs2)
    (hx : xs.length = n) (hy : ys.length = n) (pos : 0 < n) {k : KV} {Q : VK} (e : zipI xs ys h.length (h ++ [.lst []]) (fun h' => k (.ref h.length) h') = true) (p : ∀ ι' h' H' w z, Stp G ι h H ι' h' H' → VRel ι' h'.length w z → k w h' = true → Q z H') :
    wpAny (model X.prog X.w) X.A (call (.type "zip") [.ref a, .ref b]) (fun u s1 => wpAny (model X.prog X.w) X.A (call (.type "list") [u]) (EP X pins σ Q) X.xe s1) X.xe s := by
  refine zip_begins2 k1.beg k2.beg q1 q2 fun p1 hz hTI hTO g1 g2 sz kp => ?_
  have I2 : Inv X pins σ H { s with heap := p1 } := I.kept (t' := s.toks) kp
  refine list_zip0 hz fun pS c kS sS gS => ?_
  have la := k1.lt _ q1
  have lb := k2.lt _ q2
  have new : ∀ m : Nat, s.heap.objs.size ≤ m → H m = none := fun m hm => I.hok.fresh hm
  have sz' : p1.objs.size = s.heap.objs.size + 5 := sz
  have I3 : Inv X pins σ (upd H p1.objs.size (.lst [])) { s with heap := pS } := I2.laid (t' := s.toks) kS (Nat.le_refl _) ⟨Nat.zero_le _, [], c, .nil, gS⟩
  have st0 := Stp.newL (xs := []) (cs := []) r (p := p1.objs.size) (new _ (by omega)) .nil
  have z1 : items1.size = n := by
    have t1 : items1.toList.length = items1.size := by simp
    have t2 : cs1.length = items1.toList.length := Paired.length v1
    have t3 : xs.length = cs1.length := Paired.length rx
    omega
  have z2 : items2.size = n := by
    have t1 : items2.toList.length = items2.size := by simp
    have t2 : cs2.length = items2.toList.length := Paired.length v2
    have t3 : ys.length = cs2.length := Paired.length ry
    omega
  have D1 := k1.drw X.A.in1.in1.in1 s.heap.objs.size (I.ok.hd calm) (Nat.ne_of_lt la)
  have D2 := k2.drw X.A.in1.in1.in1 (s.heap.objs.size + 1) (I.ok.hd calm) (Nat.ne_of_lt (Nat.lt_succ_of_lt lb))
  rw [z1] at D1
  rw [z2] at D2
  have ne : ∀ u v : Nat, u ≠ v → (s.heap.objs.size + u : Nat) ≠ s.heap.objs.size + v := fun u v q y => q (by omega)
  have na : ∀ u : Nat, (s.heap.objs.size + u : Nat) ≠ a := fun u => Nat.ne_of_gt (Nat.lt_of_lt_of_le la (Nat.le_add_right _ _))
  have nb : ∀ u : Nat, (s.heap.objs.size + u : Nat) ≠ b := fun u => Nat.ne_of_gt (Nat.lt_of_lt_of_le lb (Nat.le_add_right _ _))
  have nm : ∀ (x p q : Addr), x ≠ p → x ≠ q → x ∉ [p, q] := fun x p q y1 y2 => by simp [y1, y2]
  have Sep : ZipSep2 (s.heap.objs.size + 4) (s.heap.objs.size + 2) (s.heap.objs.size + 3) s.heap.objs.size (s.heap.objs.size + 1) [s.heap.objs.size, a] [s.heap.objs.size + 1, b] :=
    ⟨ne 2 4 (by decide), ne 3 4 (by decide), ne 2 3 (by decide), ne 2 0 (by decide), List.mem_cons_self, nm _ _ _ (ne 4 0 (by decide)) (na 4), nm _ _ _ (ne 3 0 (by decide)) (na 3), ne 2 1 (by decide), List.mem_cons_self, nm _ _ _ (ne 4 1 (by decide)) (nb 4), nm _ _ _ (ne 3 1 (by decide)) (nb 3), nm _ _ _ (ne 0 1 (by decide)) (nb 0), nm _ _ _ (ne 1 0 (by decide)) (na 1)⟩
  refine codeAny_mono (zip_loop (G := G) (pins := pins) (σ := σ) (S := p1.objs.size) (ι0 := updI ι h.length p1.objs.size) (h0 := h ++ [.lst []]) (H0 := upd H p1.objs.size (.lst [])) (m := h.length) (n := n) Sep D1 D2 (st0.vsr rx) (st0.vsr ry) v1 v2 hx hy (by simp) updI_same ?_ ?_ ?_ ?_ ?_ pos (k := fun h' => k (.ref h.length) h')
    (R := wants (fun r s₂ => r = .none ∧ EP X pins σ Q (.ref p1.objs.size) s₂) X.xe) (fun s' ι' h' H' J st e => ?_) n 0 { s with heap := pS } rfl (Nat.zero_le _) ⟨?_, ?_, ?_, ?_, ?_, ?_⟩) fun _ _ z => z
  · rw [sz']; exact nm _ _ _ (ne 5 0 (by decide)) (na 5)
  · rw [sz']; exact nm _ _ _ (ne 5 1 (by decide)) (nb 5)
  · rw [sz']; exact ne 5 4 (by decide)
  · rw [sz']; exact ne 5 3 (by decide)
  · rw [sz']; exact ne 5 2 (by decide)
  · exact ⟨rfl, .ref p1.objs.size, H', J, rfl, p ι' h' H' (.ref h.length) (.ref p1.objs.size) (st0.trans st) ⟨Nat.lt_of_lt_of_le (by simp) st.le, by rw [st.agr _ (by simp), updI_same]⟩ e⟩
  · refine ⟨_, _, _, I3, .refl st0.rel, fun b hb => ?_, by simpa using e⟩
    have ge : s.heap.objs.size ≤ b ∧ b ≠ p1.objs.size := by
      rw [sz']
      rcases (show b = s.heap.objs.size + 4 ∨ b = s.heap.objs.size + 3 ∨ b = s.heap.objs.size ∨ b = s.heap.objs.size + 1 by simpa using hb) with y | y | y | y <;> subst y <;> simp
    exact I.fpOk ge.1 (by rw [upd_ne ge.2]; exact new _ ge.1)
  · exact .inl ⟨rfl, kS _ _ hz, _, _, kS _ _ hTO⟩
  · intro b hb
    have e1 : pS.objs.size = s.heap.objs.size + 6 := by
      have : pS.objs.size = p1.objs.size + 1 := sS
      omega
    show b < pS.objs.size
    rw [e1]
    rw [sz'] at hb
    rcases (show b = s.heap.objs.size + 4 ∨ b = s.heap.objs.size + 3 ∨ b = s.heap.objs.size ∨ b = s.heap.objs.size + 1 ∨ b = s.heap.objs.size + 5 by simpa using hb) with y | y | y | y | y <;> subst y <;> simp
  · exact kS _ _ hTI
  · exact k1.st0 _ _ (kS _ _ g1) (k1.beg.keeps _ _ q1 fun b o q => kS _ _ (kp b o q))
  · exact k2.st0 _ _ (kS _ _ g2) (k2.beg.keeps _ _ q2 fun b o q => kS _ _ (kp b o q))
end
end AIx
namespace AIx
open PySem L2 PySem.Spec PyProof.Rows
def fZip (c : AH → AV → Bool) (f f2 : FE) : FE := fun σ h k x => f σ h (fun v h => f2 σ h (fun u h => match c h v with
    | true => (match c h u with
      | true => (seqO h v fun xs => seqO h u fun ys => match xs with
        | [] => false
        | _ :: _ => (match Nat.beq (lenN xs) (lenN ys) with | true => nfN (lenN h) fun m => appK h [.lst []] fun h => zipI xs ys m h fun h => k (.ref m) h | false => false))
      | false => false)
    | false => false) x) x
def ZOk (G : GE) (K : PySem.W.Frag) (c : AH → AV → Bool) (B : V → List V → Hp → Prop) : Prop := ∀ ι h H v z (k : List AV → Bool), HRel G ι h H → VRel ι h.length v z → c h v = true → seqO h v k = true → ∃ n xs cs, v = .ref n ∧ z = .ref (ι n) ∧ VsRel ι h.length xs cs ∧ k xs = true ∧ B z cs H
section
variable {X : Cx} {G : GE} {E : XK} {e e2 : Expr} {f f2 : FE} {p : Pos} {c : AH → AV → Bool} {B : V → List V → Hp → Prop}
theorem s_zip {p2 p3 p4 : Pos} (M : Amb X G E) (hl : X.mg "list" = none) (hz : X.mg "zip" = none) (zo : ZOk G X.K c B)
    (zk : ∀ (pins : List (Addr × Obj)) (s : Shared) (σ : L2.St) (H : Hp) (a : Addr) (cs : List V), Inv X pins σ H s → B (.ref a) cs H → ∃ items o Hq St, ZK X.prog X.w a items o Hq St ∧ Hq s.heap ∧ Vals cs items.toList)
    (ha : SE X G E e f) (hb : SE X G E e2 f2) (gl : Gl X "list" := by rfl) (gz : Gl X "zip" := by rfl) (hs : starEach [e, e2] X.env = (false, eval e X.env) :: starEach [e2] X.env := by rfl) (hs2 : starEach [e2] X.env = (false, eval e2 X.env) :: starEach [] X.env := by rfl) (hpl : (backTo p3 (starEach [e2] X.env)).any (·.1) = false := by rfl)
    (hs3 : starEach [.Call (.Name "zip" p2) [e, e2] [] p3] X.env = (false, eval (.Call (.Name "zip" p2) [e, e2] [] p3) X.env) :: starEach [] X.env := by rfl) : SE X G E (.Call (.Name "list" p) [.Call (.Name "zip" p2) [e, e2] [] p3] [] p4) (fZip c f f2) := by
  have low : PE X (.Call (.Name "list" p) [.Call (.Name "zip" p2) [e, e2] [] p3] [] p4) (fun σ H Q => rdA G E (fCons f (fCons f2 fNil)) σ H fun vs H1 => ∃ (a b : Addr) (cs1 cs2 : List V) (ι : Nat → Addr) (h : AH) (xs ys : List AV) (n : Nat) (k : KV), vs = [.ref a, .ref b] ∧ B (.ref a) cs1 H1 ∧ B (.ref b) cs2 H1 ∧ HRel G ι h H1 ∧ VsRel ι h.length xs cs1 ∧ VsRel ι h.length ys cs2 ∧ xs.length = n ∧ ys.length = n ∧ 0 < n ∧
      (zipI xs ys h.length (h ++ [.lst []]) fun h' => k (AV.ref h.length) h') = true ∧ ∀ ι' h' H' w z, Stp G ι h H1 ι' h' H' → VRel ι' h'.length w z → k w h' = true → Q z H') := by
    refine ⟨fun pins s σ H Q I h => ?_⟩; refine Call_ (ld_blt I gl hl boot_list (PyProof.Rows.callWith_type1 (args_cons ?_ hs3) hs3 rfl))
    refine Call_ (ld_blt I gz hz PyProof.Rows.boot_zip (PyProof.Rows.callWith_type1 (thn ((s_arg2 ha hb hs hs2).run p3 pins s σ H _ I h) fun us s1 ⟨vs, H1, I1, r1, q⟩ => ?_) hs hpl))
    obtain ⟨a, b, cs1, cs2, ι, ha', xs, ys, n, k, rfl, b1, b2, rr, rx, ry, hx, hy, pos, e1, P⟩ := q
    obtain ⟨u1, u2, rfl, e3, e4⟩ := Vals.two r1
    cases e3
    cases e4
    obtain ⟨it1, o1, Hq1, St1, k1, q1, v1⟩ := zk _ _ _ _ _ _ I1 b1
    obtain ⟨it2, o2, Hq2, St2, k2, q2, v2⟩ := zk _ _ _ _ _ _ I1 b2
    exact thn (zip_both M.calm I1 rr k1 k2 q1 q2 v1 v2 rx ry hx hy pos e1 P) fun u s2 w => args_nil w
  refine PE.imp low fun σc H Q ⟨ι, σ, h, A⟩ => ?_
  refine ⟨ι, σ, h, At.bind (f := fCons f (fCons f2 fNil)) (g := fun vs σ h k x => match vs with
    | [v, u] => (match c h v with
      | true => (match c h u with
        | true => (seqO h v fun xs => seqO h u fun ys => match xs with
          | [] => false
          | _ :: _ => (match Nat.beq (lenN xs) (lenN ys) with | true => nfN (lenN h) fun m => appK h [.lst []] fun h => zipI xs ys m h fun h => k (AV.ref m) h | false => false))
        | false => false)
      | false => false)
    | _ => false) (A.eq fun k x => rfl) fun ι1 h1 H1 vs cs s1 v1 A1 => ?_⟩
  obtain ⟨s, r, k, x, q, P⟩ := A1
  cases v1 with
  | nil => cases q
  | cons r1 t => cases t with
    | nil => cases q
    | cons r2 t => cases t with
      | cons _ _ => cases q
      | nil =>
        simp only at q
        split at q
        · rename_i c1
          split at q
          · rename_i c2
            obtain ⟨n, xs, cs1, rfl, rfl, x1, x2, x3⟩ := zo _ _ _ _ _ _ r r1 c1 q
            obtain ⟨m, ys, cs2, rfl, rfl, y1, y2, y3⟩ := zo _ _ _ _ _ _ r r2 c2 x2
            split at y2
            · cases y2
            · rename_i a t
              split at y2
              · rename_i hl
                rw [lenN_eq, lenN_eq] at hl
                rw [nfN_eq, appK_eq, lenN_eq] at y2
                exact ⟨_, _, cs1, cs2, ι1, h1, _, ys, _, k, rfl, x3, y3, r, x1, y1, rfl, (Nat.eq_of_beq_eq_true hl).symm, Nat.zero_lt_succ _, y2, P.ok⟩
              · cases y2
          · cases q
        · cases q
abbrev fZipL := fZip isLst
abbrev fZipT := fZip isTp
theorem s_zipL {p2 p3 p4 : Pos} (M : Amb X G E) (hl : X.mg "list" = none) (hz : X.mg "zip" = none) (ha : SE X G E e f) (hb : SE X G E e2 f2) (gl : Gl X "list" := by rfl) (gz : Gl X "zip" := by rfl) (hs : starEach [e, e2] X.env = (false, eval e X.env) :: starEach [e2] X.env := by rfl) (hs2 : starEach [e2] X.env = (false, eval e2 X.env) :: starEach [] X.env := by rfl) (hpl : (backTo p3 (starEach [e2] X.env)).any (·.1) = false := by rfl)
    (hs3 : starEach [.Call (.Name "zip" p2) [e, e2] [] p3] X.env = (false, eval (.Call (.Name "zip" p2) [e, e2] [] p3) X.env) :: starEach [] X.env := by rfl) : SE X G E (.Call (.Name "list" p) [.Call (.Name "zip" p2) [e, e2] [] p3] [] p4) (fZipL f f2) :=
  s_zip M hl hz (B := fun z cs H => ∃ a, z = .ref a ∧ SqL X.K H a cs) (fun ι h H v z k r vr c e => by
    obtain ⟨n, xs, cs, e1, e2, q1, q2, q3, q4⟩ := lst_only r vr c e
    exact ⟨n, xs, cs, e1, e2, q1, q2, _, e2, SqL.of q4⟩) (fun pins s σ H a cs I b => by
    obtain ⟨a', e, sq⟩ := b
    cases e
    obtain ⟨its, rv, p, _⟩ := I.list sq
    exact ⟨its.toArray, _, _, _, zk_list, p.isList, by simpa using rv⟩) ha hb gl gz hs hs2 hpl hs3
theorem s_zipT {p2 p3 p4 : Pos} (M : Amb X G E) (hl : X.mg "list" = none) (hz : X.mg "zip" = none) (ha : SE X G E e f) (hb : SE X G E e2 f2) (gl : Gl X "list" := by rfl) (gz : Gl X "zip" := by rfl) (hs : starEach [e, e2] X.env = (false, eval e X.env) :: starEach [e2] X.env := by rfl) (hs2 : starEach [e2] X.env = (false, eval e2 X.env) :: starEach [] X.env := by rfl) (hpl : (backTo p3 (starEach [e2] X.env)).any (·.1) = false := by rfl)
    (hs3 : starEach [.Call (.Name "zip" p2) [e, e2] [] p3] X.env = (false, eval (.Call (.Name "zip" p2) [e, e2] [] p3) X.env) :: starEach [] X.env := by rfl) : SE X G E (.Call (.Name "list" p) [.Call (.Name "zip" p2) [e, e2] [] p3] [] p4) (fZipT f f2) :=
  s_zip M hl hz (B := fun z cs H => ∃ a, z = .ref a ∧ Rd H a (.tup cs)) (fun ι h H v z k r vr c e => by
    obtain ⟨n, xs, cs, e1, e2, q1, q2, q3⟩ := tp_only r vr c e
    exact ⟨n, xs, cs, e1, e2, q1, q2, _, e2, q3⟩) (fun pins s σ H a cs I b => by
    obtain ⟨a', e, sq⟩ := b
    cases e
    obtain ⟨its, rv, p, _⟩ := I.tuple (.inl sq)
    exact ⟨its.toArray, _, _, _, zk_tup, (show s.heap.IsTuple a its.toArray from p), by simpa using rv⟩) ha hb gl gz hs hs2 hpl hs3
end
end AIx
namespace AIx
open PySem L2
section
variable {P : Program} {w : World} {K : PySem.W.Frag} {mg : Str → Option Value} {base : Heap} {G : GE} {k n c : Nat} {x : Str} {F : FF} {l : Nat → Option LamD}
theorem Fx.wl (T : Fx G mg) : Fx (G.wl l) mg := ⟨T.isinstance, T.int, T.bool, T.tuple, T.len, T.all, T.any, T.sum, T.range, T.max, T.min, T.abs, T.enumerate, T.zip, T.list, T.MOST_SERVERS, T.MOST_ITEMS, T.MOST_ROOM, T.MOST_STARTS, T.MOST_CAPACITY, T.MOST_SHARED, T.BadRooms, T.BadStarts, T.NotPossible, T.BadIndex, T.BadMany, T.BadServers, T.BadCapacities, T.cls, T.kit, T.Settled, T.Shares⟩
theorem CalF.wl (h : CalF P w K mg base G k x n F) : CalF P w K mg base (G.wl l) k x n F := ⟨h.ex, h.len⟩
theorem MakF.wl (h : MakF P w K mg base G k x c n F) : MakF P w K mg base (G.wl l) k x c n F := ⟨h.ex, h.len⟩
theorem MetF.wl (h : MetF P w K mg base G k x c n F) : MetF P w K mg base (G.wl l) k x c n F := ⟨h.ex, h.len⟩
structure DM (K : PySem.W.Frag) (x qual : Str) (st : Stmt) (R : Addr → Prop) : Prop where
  ex : ∃ (f : Addr) (fd : FuncData), Fun K x qual st f fd ∧ R f
end
def mCntL : AV → List AV → AH → KV → Bool := fun v vs h k => match isLst h v with | true => mCnt v vs h k | false => false
theorem m_lcnt' {G : GE} : ∀ ι h H v c vs cs (Q : VK) (k : KV), HRel G ι h H → VRel ι h.length v c → VsRel ι h.length vs cs → mCntL v vs h k = true → (∀ ι' h' H' w z, Stp G ι h H ι' h' H' → VRel ι' h'.length w z → k w h' = true → Q z H') → rCntI G.K c cs H Q := m_lcnt
section
variable {X : Cx} {G : GE} {E : XK} {e e2 tg tg1 iter iter1 elt : Expr} {f f2 : FE} {p pos : Pos}
/-! [e for a in xs for b in ys] -/
def lc2B (d fuel : Nat) (σ : AS) (tg : FG) (tg1 : FG) (fi1 : FI) (vs1 : List Nat) (e : FE) : List AV → AH → (AH → Bool) → Bool := fun vs h k => tg vs σ fun σ => fi1 σ h (fun it h => wipeK σ vs1 fun σ => lcI it (fun vs h k => tg1 vs σ fun σ => e σ h (fun y h => pushK d y h k) noX) k fuel 0 h) noX
def fLc2 (fuel : Nat) (vs vs1 : List Nat) (tg : FG) (fi : FI) (tg1 : FG) (fi1 : FI) (e : FE) : FE := fun σ h k x => fi σ h (fun it h => wipeK σ vs fun σ => appK h [.lst []] fun h1 => nfN (lenN h) fun d => lcI it (lc2B d fuel σ tg tg1 fi1 vs1 e) (fun h => k (.ref d) h) fuel 0 h1) x
theorem wipe_wipe {σ σ2 : St} {ws : List Nat} (h : L2.wipe σ2 ws = L2.wipe (L2.wipe σ ws) ws) : L2.wipe σ2 ws = L2.wipe σ ws := by
  rw [h]
  refine List.ext_getElem? fun j => ?_; rw [wipe_get, wipe_get, wipe_length]
  split <;> rfl
theorem s_lc2 {fi fi1 : FI} {fg fg1 : FG} {g g1 : TG} {is is1 : List Nat} {fe : FE} {own : List (Str × Nat)} {scope : Scope} {vs1 : List Nat} (fuel : Nat) (M : Amb X G E) (hN : X.N.Nodup) (hi : SI X G E tg iter fi) (hf : TgOk G.K g fg is) (hf1 : TgOk G.K g1 fg1 is1) (ok : blkC X.N X.env.scope scope own = true) (hg : Blk X scope fun X => PG X tg g)
    (hi1 : Blk X scope fun X => SI X G EF tg1 iter1 fi1) (hg1 : Blk X scope fun X => PG X tg1 g1) (he : Blk X scope fun X => SE X G EF elt fe) (hw : ∀ i ∈ is, i ∈ own.map (·.2) := by decide) (hw1 : ∀ i ∈ is1, i ∈ vs1 := by decide) (hv : ∀ i ∈ vs1, i ∈ own.map (·.2) := by decide) (hs : ∀ x, foldedSetIterable iter X.env x = pure x := by intro _; rfl) (hs1 : ∀ env x, foldedSetIterable iter1 env x = pure x := by intro _ _; rfl) :
    SE X G E (.ListComp elt [⟨tg, iter, [], 0⟩, ⟨tg1, iter1, [], 0⟩] scope pos) (fLc2 fuel (own.map (·.2)) vs1 fg fi fg1 fi1 fe) := PE.imp (pe_lc2 M.calm hN hi (blkOk_by ok) hv hg (fun s H C cl fp => pts_nil) hi1 hg1 (fun s H C cl fp => pts_nil) he hs hs1) fun σc H Q q => by
  obtain ⟨ι, σ, h, A⟩ := q
  refine ⟨ι, σ, h, A.bind (f := fi) (g := fun it σ h k x => wipeK σ (own.map (·.2)) fun σ => appK h [.lst []] fun h1 => nfN (lenN h) fun d => lcI it (lc2B d fuel σ fg fg1 fi1 vs1 fe) (fun h => k (AV.ref d) h) fuel 0 h1) fun ι1 h1 H1 it J s1 w1 A1 D hD => ?_⟩
  obtain ⟨s, r, k, x, e, P⟩ := A1
  rw [wipeK_eq, appK_eq, nfN_eq, lenN_eq] at e
  have st0 := Stp.newL r hD (xs := []) (cs := []) .nil
  generalize eσ : wipeA σ (own.map (·.2)) = σw at e
  have sw : SRel ι1 h1.length σw (L2.wipe σc (own.map (·.2))) := by rw [← eσ]; exact s.wipe _
  refine ⟨fun i m H' => ∃ ι' h', Stp G (updI ι1 h1.length D) (h1 ++ [.lst []]) (upd H1 D (.lst [])) ι' h' H' ∧ lcI it (lc2B h1.length fuel σw fg fg1 fi1 vs1 fe) (fun h => k (.ref h1.length) h) m i h' = true, ⟨fuel, _, _, .refl st0.rel, e⟩, fun i m H' w => ?_⟩
  obtain ⟨ι', h', st, e⟩ := w
  have ud : ι' h1.length = D := by rw [st.agr _ (by simp), updI_same]
  have dl : h1.length < h'.length := Nat.lt_of_lt_of_le (by simp) st.le
  have stt := st0.trans st
  cases m with
  | zero => cases e
  | succ m =>
    rcases w1 ι' h' H' i _ _ stt.agr stt.le stt.rel e with ⟨a, b⟩ | ⟨a, b⟩
    · exact .inl ⟨a, P.ok _ _ _ (.ref h1.length) _ stt ⟨dl, by rw [ud]⟩ b⟩
    · refine .inr ⟨a, fun H3 => ∃ ι3 h3, Stp G (updI ι1 h1.length D) (h1 ++ [.lst []]) (upd H1 D (.lst [])) ι3 h3 H3 ∧ lcI it (lc2B h1.length fuel σw fg fg1 fi1 vs1 fe) (fun h => k (.ref h1.length) h) m (i + 1) h3 = true, fun H3 w => ⟨m, Nat.lt_succ_self m, w⟩, fun y H2 yl => ?_⟩
      obtain ⟨vs, k1, s2, y2⟩ := b y H2 yl
      refine hf ι' h'.length H2 vs y σw _ _ _ y2 (stt.sr sw) k1 fun σ2 σc2 sr2 ww k2 => ⟨wipe_wipe (ww _ hw), ?_⟩
      unfold tYes
      simp only [if_true]
      refine ⟨ι', σ2, h', sr2, s2.rel, _, noX, k2, ⟨fun ι3 h3 H3 it1 J1 s3 w3 k3 => ?_, fun _ _ _ _ _ z => nomatch z⟩⟩
      rw [wipeK_eq] at k3
      generalize eσ2 : wipeA σ2 vs1 = σw2 at k3
      have sw2 : SRel ι3 h3.length σw2 (L2.wipe σc2 vs1) := by rw [← eσ2]; exact (s3.sr sr2).wipe _
      refine ⟨fun j n H4 => ∃ ι4 h4, Stp G ι3 h3 H3 ι4 h4 H4 ∧ lcI it1 (fun vs h k => fg1 vs σw2 fun σ => fe σ h (fun y h => pushK h1.length y h k) noX) (fun h => lcI it (lc2B h1.length fuel σw fg fg1 fi1 vs1 fe) (fun h => k (.ref h1.length) h) m (i + 1) h) n j h4 = true, ⟨fuel, ι3, h3, .refl s3.rel, k3⟩, fun j n H4 w => ?_⟩
      obtain ⟨ι4, h4, s4, k4⟩ := w
      have up : Stp G ι' h' H' ι4 h4 H4 := (s2.trans s3).trans s4
      cases n with
      | zero => cases k4
      | succ n =>
        rcases w3 ι4 h4 H4 j _ _ s4.agr s4.le s4.rel k4 with ⟨a, b⟩ | ⟨a, b⟩
        · exact .inl ⟨a, ι4, h4, st.trans up, b⟩
        · refine .inr ⟨a, fun H5 => ∃ ι5 h5, Stp G ι3 h3 H3 ι5 h5 H5 ∧ lcI it1 (fun vs h k => fg1 vs σw2 fun σ => fe σ h (fun y h => pushK h1.length y h k) noX) (fun h => lcI it (lc2B h1.length fuel σw fg fg1 fi1 vs1 fe) (fun h => k (.ref h1.length) h) m (i + 1) h) n (j + 1) h5 = true, fun H5 w => ⟨n, Nat.lt_succ_self n, w⟩, fun y H5 yl => ?_⟩
          obtain ⟨vs, k5, s5, y5⟩ := b y H5 yl
          refine hf1 ι4 h4.length H5 vs y σw2 _ _ _ y5 (s4.sr sw2) k5 fun σ3 σc3 sr3 ww k6 => ⟨wipe_wipe (ww _ hw1), ?_⟩
          simp only [tYes, if_true]
          refine ⟨ι4, σ3, h4, sr3, s5.rel, _, noX, k6, ⟨fun ι6 h6 H6 v c s6 v6 k7 => ?_, fun _ _ _ _ _ z => nomatch z⟩⟩
          obtain ⟨acc, h7, p1, p2, p3, p4⟩ := pushK_ok s6.rel v6 k7
          have ud6 : ι6 h1.length = D := by
            rw [s6.agr _ (Nat.lt_of_lt_of_le dl up.le), up.agr _ dl, ud]
          rw [ud6] at p1 p3
          exact ⟨acc, p1, p2, ι6, h7, ((s4.trans s5).trans s6).trans p3, p4⟩
end
end AIx
namespace AIx
open PySem L2
section
variable {P : Program} {w : World} {mg : Str → Option Value} {base : Heap} {G : GE}
/-! is_number -/
abbrev N_is_number : List Str := ["thing", "least", "most"]
theorem n_is_number : FnScope N_is_number ["thing", "least", "most"] (defScope (st 12)) := ⟨rfl, rfl, rfl, by decide +kernel, rfl, by decide +kernel, by decide +kernel⟩
def fs_is_number : FS := (fRet (fAndV (fUnH (bIs 0) (fVar 0)) (fAndV (fNotV (fUnH (bIs 1) (fVar 0))) (fChain gLe gLe (fVar 1) (fVar 0) (fVar 2)))))
def F_is_number : FF := fDef 3 [] fs_is_number
theorem b_is_number (T : Fx G mg)  {f : Addr} {cdv : Value} {A : Around} {outer : List Env} {s : Shared} {H : Hp} {E : XK} (hr : Room 0 (A.deeper (PyProof.Rows.envOfC "is_number" (defScope (st 12)) s.heap.objs.size f cdv))) : SB (cxOf (L2.CX P w) P w G.K mg base N_is_number "is_number" (defScope (st 12)) f cdv A outer s H E) G E (defBody (st 12)) fs_is_number := by
  have M : Amb (cxOf (L2.CX P w) P w G.K mg base N_is_number "is_number" (defScope (st 12)) f cdv A outer s H E) G E := amb_of
  unfold fs_is_number
  exact (b_one (S_ret (s_and (s_isTy 0 (.inl rfl) M.K T.isinstance T.int (by decide +kernel) (s_var 0)) (s_and (s_not (s_isTy 1 (.inr (.inl rfl)) M.K T.isinstance T.bool (by decide +kernel) (s_var 0))) (s_one (s_chain x_le x_le (s_var 1) (s_var 0) (s_var 2)))))))
theorem c_is_number (T : Fx G mg) (D : DF G.K mg "is_number" (st 12))  : CalF P w G.K mg base G 1 "is_number" 3 F_is_number := by
  obtain ⟨f, fd, F, hm⟩ := D.ex
  exact ⟨⟨f, fd, ["thing", "least", "most"], fun l => fn_F F n_is_number rfl rfl (fun l cdv A outer s H E hr => b_is_number (G := G.wl l) T.wl  hr) l, hm, F.kp, F.binds fun _ _ _ _ _ _ us hl => match us, hl with | [_, _, _], _ => rfl⟩, fun as h k x e => (fDef_len e).1⟩
/-! lowest -/
abbrev N_lowest : List Str := ["numerator", "denominator", "one", "other"]
theorem n_lowest : FnScope N_lowest ["numerator", "denominator"] (defScope (st 13)) := ⟨rfl, rfl, rfl, by decide +kernel, rfl, by decide +kernel, by decide +kernel⟩
def fs_lowest : FS := (fSeq (fPar 2 3 (fCons (fBlt (one bAbs) (fCons (fVar 0) fNil)) (fCons (fVar 1) fNil))) (fSeq (fWhile 100 (fTest (fOpH (lift2 gNe) (fVar 3) (fC (.int 0)))) (fPar 2 3 (fCons (fVar 3) (fCons (fOpH (lift2 gMod) (fVar 2) (fVar 3)) fNil)))) (fRet (fTup (fCons (fOpH (lift2 gDiv) (fVar 0) (fVar 2)) (fCons (fOpH (lift2 gDiv) (fVar 1) (fVar 2)) fNil))))))
def F_lowest : FF := fDef 2 [none, none] fs_lowest
theorem b_lowest (T : Fx G mg)  {f : Addr} {cdv : Value} {A : Around} {outer : List Env} {s : Shared} {H : Hp} {E : XK} (hr : Room 0 (A.deeper (PyProof.Rows.envOfC "lowest" (defScope (st 13)) s.heap.objs.size f cdv))) : SB (cxOf (L2.CX P w) P w G.K mg base N_lowest "lowest" (defScope (st 13)) f cdv A outer s H E) G E (defBody (st 13)) fs_lowest := by
  have M : Amb (cxOf (L2.CX P w) P w G.K mg base N_lowest "lowest" (defScope (st 13)) f cdv A outer s H E) G E := amb_of
  unfold fs_lowest
  exact (b_cons (S_par M.calm n_lowest.nd (s_cons (s_abs M T.abs (s_var 0)) (s_cons (s_var 1) s_nil)) (i := 2) (j := 3)) (b_cons (S_while 100 M (t_cmp c_ne (s_var 3) s_int) (b_one (S_par M.calm n_lowest.nd (s_cons (s_var 3) (s_cons (s_mod (s_var 2) (s_var 3)) s_nil)) (i := 2) (j := 3)))) (b_one (S_ret (s_tup (s_cons (s_div (s_var 0) (s_var 2)) (s_cons (s_div (s_var 1) (s_var 2)) s_nil)))))))
theorem c_lowest (T : Fx G mg) (D : DF G.K mg "lowest" (st 13))  : CalF P w G.K mg base G 1 "lowest" 2 F_lowest := by
  obtain ⟨f, fd, F, hm⟩ := D.ex
  exact ⟨⟨f, fd, ["numerator", "denominator"], fun l => fn_F F n_lowest rfl rfl (fun l cdv A outer s H E hr => b_lowest (G := G.wl l) T.wl  hr) l, hm, F.kp, F.binds fun _ _ _ _ _ _ us hl => match us, hl with | [_, _], _ => rfl⟩, fun as h k x e => (fDef_len e).1⟩
/-! check_ring -/
abbrev N_check_ring : List Str := ["rooms", "starts", "room", "start"]
theorem n_check_ring : FnScope N_check_ring ["rooms", "starts"] (defScope (st 17)) := ⟨rfl, rfl, rfl, by decide +kernel, rfl, by decide +kernel, by decide +kernel⟩
def fs_check_ring : FS := (fSeq (fIte (fOrT (fNotT (fTest (fUnH (bIs 5) (fVar 0)))) (fNotT (fTest (fChain gLe gLe (fC (.int 1)) (fBlt (one bLen) (fCons (fVar 0) fNil)) (fC (.int 8)))))) (fRaise 0) fSkip) (fSeq (fIte (fNotT (fTest (fBlt (one bAllL) (fCons (fLc 25 [2] (g1 2) (fIt isTp yOne (fVar 0)) fTrue (fCall F_is_number (fCons (fVar 2) (fCons (fC (.int 0)) (fCons (fC (.int 10)) fNil))))) fNil)))) (fRaise 0) fSkip) (fSeq (fIte (fOrT (fNotT (fTest (fUnH (bIs 5) (fVar 1)))) (fTest (fOpH (lift2 gGt) (fBlt (one bLen) (fCons (fVar 1) fNil)) (fC (.int 20))))) (fRaise 1) fSkip) (fSeq (fIte (fNotT (fTest (fBlt (one bAllL) (fCons (fLc 25 [3] (g1 3) (fIt isTp yOne (fVar 1)) fTrue (fCall F_is_number (fCons (fVar 3) (fCons (fC (.int 0)) (fCons (fOpH (lift2 gSub) (fBlt (one bLen) (fCons (fVar 0) fNil)) (fC (.int 1))) fNil))))) fNil)))) (fRaise 1) fSkip) (fIte (fTest (fOpH (lift2 gGt) (fBlt (one bLen) (fCons (fVar 1) fNil)) (fBlt (one bSum) (fCons (fVar 0) fNil)))) (fRaise 2) fSkip)))))
def F_check_ring : FF := fDef 2 [none, none] fs_check_ring
theorem b_check_ring (T : Fx G mg) (c_is_number : CalF P w G.K mg base G 1 "is_number" 3 F_is_number) {f : Addr} {cdv : Value} {A : Around} {outer : List Env} {s : Shared} {H : Hp} {E : XK} (hr : Room 1 (A.deeper (PyProof.Rows.envOfC "check_ring" (defScope (st 17)) s.heap.objs.size f cdv))) : SB (cxOf (L2.CX P w) P w G.K mg base N_check_ring "check_ring" (defScope (st 17)) f cdv A outer s H E) G E (defBody (st 17)) fs_check_ring := by
  have M : Amb (cxOf (L2.CX P w) P w G.K mg base N_check_ring "check_ring" (defScope (st 17)) f cdv A outer s H E) G E := amb_of
  unfold fs_check_ring
  exact (b_cons (S_if (t_w (w_or (t_not (s_val (s_isTy 5 (.inr (.inr rfl)) M.K T.isinstance T.tuple (by decide +kernel) (s_var 0)))) (w_or1 (t_not (t_chain x_le x_le s_int (s_len M T.len (s_var 0)) (s_globE 8 T.MOST_SERVERS)))))) (b_one (S_raise 0 M T.BadRooms)) b_nil) (b_cons (S_if (t_not (s_val (s_all M T.all (s_lc 25 M n_check_ring.nd (i_tup M.K (s_var 0) y_one) (tg1 2) (show blkC N_check_ring (defScope (st 17)) _ [("room", 2)] = true by decide +kernel) (fun _ _ _ _ _ => (pg_name (i := 2) n_check_ring.nd rfl (Or.inl rfl))) (fun _ _ _ _ _ => (s_call M.blk hr c_is_number (s_cons (s_var 2) (s_cons s_int (s_cons (s_globE 10 T.MOST_ROOM) s_nil))))))))) (b_one (S_raise 0 M T.BadRooms)) b_nil) (b_cons (S_if (t_w (w_or (t_not (s_val (s_isTy 5 (.inr (.inr rfl)) M.K T.isinstance T.tuple (by decide +kernel) (s_var 1)))) (w_or1 (t_cmp c_gt (s_len M T.len (s_var 1)) (s_globE 20 T.MOST_STARTS))))) (b_one (S_raise 1 M T.BadStarts)) b_nil) (b_cons (S_if (t_not (s_val (s_all M T.all (s_lc 25 M n_check_ring.nd (i_tup M.K (s_var 1) y_one) (tg1 3) (show blkC N_check_ring (defScope (st 17)) _ [("start", 3)] = true by decide +kernel) (fun _ _ _ _ _ => (pg_name (i := 3) n_check_ring.nd rfl (Or.inl rfl))) (fun _ _ _ _ _ => (s_call M.blk hr c_is_number (s_cons (s_var 3) (s_cons s_int (s_cons (s_sub (s_len M.blk T.len (s_var 0)) s_int) s_nil))))))))) (b_one (S_raise 1 M T.BadStarts)) b_nil) (b_one (S_if (t_cmp c_gt (s_len M T.len (s_var 1)) (s_sum M T.sum (s_var 0))) (b_one (S_raise 2 M T.NotPossible)) b_nil))))))
theorem c_check_ring (T : Fx G mg) (D : DF G.K mg "check_ring" (st 17)) (c_is_number : CalF P w G.K mg base G 1 "is_number" 3 F_is_number) : CalF P w G.K mg base G 2 "check_ring" 2 F_check_ring := by
  obtain ⟨f, fd, F, hm⟩ := D.ex
  exact ⟨⟨f, fd, ["rooms", "starts"], fun l => fn_F F n_check_ring rfl rfl (fun l cdv A outer s H E hr => b_check_ring (G := G.wl l) T.wl c_is_number.wl hr) l, hm, F.kp, F.binds fun _ _ _ _ _ _ us hl => match us, hl with | [_, _], _ => rfl⟩, fun as h k x e => (fDef_len e).1⟩
/-! settle -/
abbrev N_settle : List Str := ["rooms", "starts", "loads", "found", "start", "at"]
theorem n_settle : FnScope N_settle ["rooms", "starts"] (defScope (st 18)) := ⟨rfl, rfl, rfl, by decide +kernel, rfl, by decide +kernel, by decide +kernel⟩
def fs_settle : FS := (fSeq (fDrop (fCall F_check_ring (fCons (fVar 0) (fCons (fVar 1) fNil)))) (fSeq (fPar 2 3 (fCons (fOpH gRep (fLst (fCons (fC (.int 0)) fNil)) (fBlt (one bLen) (fCons (fVar 0) fNil))) (fCons (fLst fNil) fNil))) (fSeq (fFor 25 (g1 4) (fIt isTp yOne (fVar 1)) (fSeq (fSet 5 (fVar 4)) (fSeq (fWhile 12 (fTest (fOpH (lift2 gEq) (fOpH gIx (fVar 2) (fVar 5)) (fOpH gIx (fVar 0) (fVar 5)))) (fSet 5 (fOpH (lift2 gMod) (fOpH (lift2 gAdd) (fVar 5) (fC (.int 1))) (fBlt (one bLen) (fCons (fVar 0) fNil))))) (fSeq (fAugSub (lift2 gAdd) (fVar 2) (fVar 5) (fC (.int 1))) (fDrop (fLm mApp (fVar 3) (fCons (fVar 5) fNil))))))) (fRet (fVar 3)))))
def F_settle : FF := fDef 2 [none, none, none, none] fs_settle
theorem b_settle (T : Fx G mg) (c_check_ring : CalF P w G.K mg base G 2 "check_ring" 2 F_check_ring) {f : Addr} {cdv : Value} {A : Around} {outer : List Env} {s : Shared} {H : Hp} {E : XK} (hr : Room 2 (A.deeper (PyProof.Rows.envOfC "settle" (defScope (st 18)) s.heap.objs.size f cdv))) : SB (cxOf (L2.CX P w) P w G.K mg base N_settle "settle" (defScope (st 18)) f cdv A outer s H E) G E (defBody (st 18)) fs_settle := by
  have M : Amb (cxOf (L2.CX P w) P w G.K mg base N_settle "settle" (defScope (st 18)) f cdv A outer s H E) G E := amb_of
  unfold fs_settle
  exact (b_cons (S_drop (s_call M hr c_check_ring (s_cons (s_var 0) (s_cons (s_var 1) s_nil)))) (b_cons (S_par M.calm n_settle.nd (s_cons (s_rep (s_lst (s_cons s_int s_nil)) (s_len M T.len (s_var 0))) (s_cons (s_lst s_nil) s_nil)) (i := 2) (j := 3)) (b_cons (S_for 25 M (i_tup M.K (s_var 1) y_one) (pg_name (i := 4) n_settle.nd rfl (Or.inl rfl)) (tg1 4) (b_cons (S_set n_settle.nd (s_var 4) (i := 5)) (b_cons (S_while 12 M (t_cmp c_eq (s_ix M.K (s_var 2) (s_var 5)) (s_ix M.K (s_var 0) (s_var 5))) (b_one (S_set n_settle.nd (s_mod (s_add (s_var 5) s_int) (s_len M T.len (s_var 0))) (i := 5)))) (b_cons (S_augSub M.K iop_add ok_add.h (s_var 2) (s_var 5) s_int) (b_one (S_drop (s_lm M.K PySem.F.slot_list_append PySem.F.type_list_append mt_append (s_var 3) (s_cons (s_var 5) s_nil) m_app))))))) (b_one (S_ret (s_var 3))))))
theorem c_settle (T : Fx G mg) (D : DF G.K mg "settle" (st 18)) (c_check_ring : CalF P w G.K mg base G 2 "check_ring" 2 F_check_ring) : CalF P w G.K mg base G 3 "settle" 2 F_settle := by
  obtain ⟨f, fd, F, hm⟩ := D.ex
  exact ⟨⟨f, fd, ["rooms", "starts"], fun l => fn_F F n_settle rfl rfl (fun l cdv A outer s H E hr => b_settle (G := G.wl l) T.wl c_check_ring.wl hr) l, hm, F.kp, F.binds fun _ _ _ _ _ _ us hl => match us, hl with | [_, _], _ => rfl⟩, fun as h k x e => (fDef_len e).1⟩
/-! passes_of -/
abbrev N_passes_of : List Str := ["rooms", "starts", "many", "found", "lap", "at", "here"]
theorem n_passes_of : FnScope N_passes_of ["rooms", "starts"] (defScope (st 19)) := ⟨rfl, rfl, rfl, by decide +kernel, rfl, by decide +kernel, by decide +kernel⟩
def fs_passes_of : FS := (fSeq (fSet 2 (fBlt (one bLen) (fCons (fVar 0) fNil))) (fSeq (fSet 3 (fOpH gRep (fLst (fCons (fC (.int 0)) fNil)) (fVar 2))) (fSeq (fFor 25 (g1 4) (fItR (fC (.int 2))) (fFor 25 (g1 5) (fItR (fVar 2)) (fSeq (fSet 6 (fOpH (lift2 gAdd) (fTc (fVar 1) (fVar 5)) (fOpH gIx (fVar 3) (fOpH (lift2 gSub) (fVar 5) (fC (.int 1)))))) (fSub (fBlt (two bMax) (fCons (fC (.int 0)) (fCons (fOpH (lift2 gSub) (fVar 6) (fOpH gIx (fVar 0) (fVar 5))) fNil))) (fVar 3) (fVar 5))))) (fRet (fVar 3)))))
def F_passes_of : FF := fDef 2 [none, none, none, none, none] fs_passes_of
theorem b_passes_of (T : Fx G mg)  {f : Addr} {cdv : Value} {A : Around} {outer : List Env} {s : Shared} {H : Hp} {E : XK} (hr : Room 0 (A.deeper (PyProof.Rows.envOfC "passes_of" (defScope (st 19)) s.heap.objs.size f cdv))) : SB (cxOf (L2.CX P w) P w G.K mg base N_passes_of "passes_of" (defScope (st 19)) f cdv A outer s H E) G E (defBody (st 19)) fs_passes_of := by
  have M : Amb (cxOf (L2.CX P w) P w G.K mg base N_passes_of "passes_of" (defScope (st 19)) f cdv A outer s H E) G E := amb_of
  unfold fs_passes_of
  exact (b_cons (S_set n_passes_of.nd (s_len M T.len (s_var 0)) (i := 2)) (b_cons (S_set n_passes_of.nd (s_rep (s_lst (s_cons s_int s_nil)) (s_var 2)) (i := 3)) (b_cons (S_for 25 M (i_range T.range s_int) (pg_name (i := 4) n_passes_of.nd rfl (Or.inl rfl)) (tg1 4) (b_one (S_for 25 M (i_range T.range (s_var 2)) (pg_name (i := 5) n_passes_of.nd rfl (Or.inl rfl)) (tg1 5) (b_cons (S_set n_passes_of.nd (s_add (s_tc (s_var 1) (s_var 5)) (s_ix M.K (s_var 3) (s_sub (s_var 5) s_int))) (i := 6)) (b_one (S_sub (s_max M T.max s_int (s_sub (s_var 6) (s_ix M.K (s_var 0) (s_var 5)))) (s_var 3) (s_var 5))))))) (b_one (S_ret (s_var 3))))))
theorem c_passes_of (T : Fx G mg) (D : DF G.K mg "passes_of" (st 19))  : CalF P w G.K mg base G 1 "passes_of" 2 F_passes_of := by
  obtain ⟨f, fd, F, hm⟩ := D.ex
  exact ⟨⟨f, fd, ["rooms", "starts"], fun l => fn_F F n_passes_of rfl rfl (fun l cdv A outer s H E hr => b_passes_of (G := G.wl l) T.wl  hr) l, hm, F.kp, F.binds fun _ _ _ _ _ _ us hl => match us, hl with | [_, _], _ => rfl⟩, fun as h k x e => (fDef_len e).1⟩
/-! loads_from -/
abbrev N_loads_from : List Str := ["rooms", "starts", "found", "at"]
theorem n_loads_from : FnScope N_loads_from ["rooms", "starts"] (defScope (st 20)) := ⟨rfl, rfl, rfl, by decide +kernel, rfl, by decide +kernel, by decide +kernel⟩
def fs_loads_from : FS := (fSeq (fSet 2 (fCall F_passes_of (fCons (fVar 0) (fCons (fVar 1) fNil)))) (fRet (fLc 25 [3] (g1 3) (fItR (fBlt (one bLen) (fCons (fVar 0) fNil))) fTrue (fOpH (lift2 gSub) (fOpH (lift2 gAdd) (fTc (fVar 1) (fVar 3)) (fOpH gIx (fVar 2) (fOpH (lift2 gSub) (fVar 3) (fC (.int 1))))) (fOpH gIx (fVar 2) (fVar 3))))))
def F_loads_from : FF := fDef 2 [none, none] fs_loads_from
theorem b_loads_from (T : Fx G mg) (c_passes_of : CalF P w G.K mg base G 1 "passes_of" 2 F_passes_of) {f : Addr} {cdv : Value} {A : Around} {outer : List Env} {s : Shared} {H : Hp} {E : XK} (hr : Room 1 (A.deeper (PyProof.Rows.envOfC "loads_from" (defScope (st 20)) s.heap.objs.size f cdv))) : SB (cxOf (L2.CX P w) P w G.K mg base N_loads_from "loads_from" (defScope (st 20)) f cdv A outer s H E) G E (defBody (st 20)) fs_loads_from := by
  have M : Amb (cxOf (L2.CX P w) P w G.K mg base N_loads_from "loads_from" (defScope (st 20)) f cdv A outer s H E) G E := amb_of
  unfold fs_loads_from
  exact (b_cons (S_set n_loads_from.nd (s_call M hr c_passes_of (s_cons (s_var 0) (s_cons (s_var 1) s_nil))) (i := 2)) (b_one (S_ret (s_lc 25 M n_loads_from.nd (i_range T.range (s_len M T.len (s_var 0))) (tg1 3) (show blkC N_loads_from (defScope (st 20)) _ [("at", 3)] = true by decide +kernel) (fun _ _ _ _ _ => (pg_name (i := 3) n_loads_from.nd rfl (Or.inl rfl))) (fun _ _ _ _ _ => (s_sub (s_add (s_tc (s_var 1) (s_var 3)) (s_ix M.blk.K (s_var 2) (s_sub (s_var 3) s_int))) (s_ix M.blk.K (s_var 2) (s_var 3))))))))
theorem c_loads_from (T : Fx G mg) (D : DF G.K mg "loads_from" (st 20)) (c_passes_of : CalF P w G.K mg base G 1 "passes_of" 2 F_passes_of) : CalF P w G.K mg base G 2 "loads_from" 2 F_loads_from := by
  obtain ⟨f, fd, F, hm⟩ := D.ex
  exact ⟨⟨f, fd, ["rooms", "starts"], fun l => fn_F F n_loads_from rfl rfl (fun l cdv A outer s H E hr => b_loads_from (G := G.wl l) T.wl c_passes_of.wl hr) l, hm, F.kp, F.binds fun _ _ _ _ _ _ us hl => match us, hl with | [_, _], _ => rfl⟩, fun as h k x e => (fDef_len e).1⟩
/-! Settled.__init__ -/
abbrev N_Settled_init : List Str := ["self", "passes"]
theorem n_Settled_init : FnScope N_Settled_init ["self", "passes"] (defScope (inClass (st 21) 0)) := ⟨rfl, rfl, rfl, by decide +kernel, rfl, by decide +kernel, by decide +kernel⟩
def fs_Settled_init : FS := (fInit 0 (fBlt (one bTup) (fCons (fVar 1) fNil)) (fVar 0))
def F_Settled_init : FF := fDef 2 [] fs_Settled_init
theorem b_Settled_init (T : Fx G mg)  {f : Addr} {cdv : Value} {A : Around} {outer : List Env} {s : Shared} {H : Hp} {E : XK} (hr : Room 0 (A.deeper (PyProof.Rows.envOfC "Settled.__init__" (defScope (inClass (st 21) 0)) s.heap.objs.size f cdv))) : SB (cxOf (L2.CX P w) P w G.K mg base N_Settled_init "Settled.__init__" (defScope (inClass (st 21) 0)) f cdv A outer s H E) G E (defBody (inClass (st 21) 0)) fs_Settled_init := by
  have M : Amb (cxOf (L2.CX P w) P w G.K mg base N_Settled_init "Settled.__init__" (defScope (inClass (st 21) 0)) f cdv A outer s H E) G E := amb_of
  unfold fs_Settled_init
  exact (b_one (S_init 0 (by decide) M.K T.cls (s_var 0) (s_tupC M T.tuple (s_var 1))))
theorem c_Settled_init (T : Fx G mg) (D : DM G.K "__init__" "Settled.__init__" (inClass (st 21) 0) (fun f => Mk G.K (G.cls 0) f))  : MakF P w G.K mg base G 1 "Settled" 0 2 F_Settled_init := by
  obtain ⟨f, fd, F, hm⟩ := D.ex
  exact ⟨⟨f, fd, ["self", "passes"], fun l => fn_F F n_Settled_init rfl rfl (fun l cdv A outer s H E hr => b_Settled_init (G := G.wl l) T.wl  hr) l, hm, T.Settled, F.binds fun _ _ _ _ _ _ us hl => match us, hl with | [_, _], _ => rfl⟩, fun as h k x e => (fDef_len e).1⟩
/-! Settled.__eq__ -/
abbrev N_Settled_eq : List Str := ["self", "other"]
theorem n_Settled_eq : FnScope N_Settled_eq ["self", "other"] (defScope (inClass (st 21) 1)) := ⟨rfl, rfl, rfl, by decide +kernel, rfl, by decide +kernel, by decide +kernel⟩
def fs_Settled_eq : FS := (fRet (fAndV (fUnH (bIsC 0) (fVar 1)) (fOpH (gSeq id isTp) (fUnH (fFldC 0) (fVar 0)) (fUnH (fFldC 0) (fVar 1)))))
def F_Settled_eq : FF := fDef 2 [] fs_Settled_eq
theorem b_Settled_eq (T : Fx G mg)  {f : Addr} {cdv : Value} {A : Around} {outer : List Env} {s : Shared} {H : Hp} {E : XK} (hr : Room 0 (A.deeper (PyProof.Rows.envOfC "Settled.__eq__" (defScope (inClass (st 21) 1)) s.heap.objs.size f cdv))) : SB (cxOf (L2.CX P w) P w G.K mg base N_Settled_eq "Settled.__eq__" (defScope (inClass (st 21) 1)) f cdv A outer s H E) G E (defBody (inClass (st 21) 1)) fs_Settled_eq := by
  have M : Amb (cxOf (L2.CX P w) P w G.K mg base N_Settled_eq "Settled.__eq__" (defScope (inClass (st 21) 1)) f cdv A outer s H E) G E := amb_of
  unfold fs_Settled_eq
  exact (b_one (S_ret (s_and (s_isCls 0 M.K T.cls (T.kit 0 (by decide)) T.isinstance T.Settled (s_var 1)) (s_one (s_cmp (c_eqT M.K hr.units) (s_fld 0 (by decide) M.K T.cls rfl (s_var 0)) (s_fld 0 (by decide) M.K T.cls rfl (s_var 1)))))))
theorem c_Settled_eq (T : Fx G mg) (D : DM G.K "__eq__" "Settled.__eq__" (inClass (st 21) 1) (fun f => Cls G.K (G.cls 0) ∧ Meth G.K (G.cls 0) "__eq__" f))  : MetF P w G.K mg base G 1 "__eq__" 0 2 F_Settled_eq := by
  obtain ⟨f, fd, F, hm1, hm2⟩ := D.ex
  exact ⟨⟨f, fd, ["self", "other"], fun l => fn_F F n_Settled_eq rfl rfl (fun l cdv A outer s H E hr => b_Settled_eq (G := G.wl l) T.wl  hr) l, hm1, hm2, F.binds fun _ _ _ _ _ _ us hl => match us, hl with | [_, _], _ => rfl⟩, fun as h k x e => (fDef_len e).1⟩
/-! Settled.shows -/
abbrev N_Settled_shows : List Str := ["self", "rooms", "starts", "at", "room", "load"]
theorem n_Settled_shows : FnScope N_Settled_shows ["self", "rooms", "starts"] (defScope (inClass (st 21) 2)) := ⟨rfl, rfl, rfl, by decide +kernel, rfl, by decide +kernel, by decide +kernel⟩
def fs_Settled_shows : FS := (fSeq (fDrop (fCall F_check_ring (fCons (fVar 1) (fCons (fVar 2) fNil)))) (fSeq (fIte (fOrT (fTest (fOpH (lift2 gNe) (fBlt (one bLen) (fCons (fUnH (fFldC 0) (fVar 0)) fNil)) (fBlt (one bLen) (fCons (fVar 1) fNil)))) (fTest (fOpH (lift2 gNe) (fBlt (one bMinT) (fCons (fUnH (fFldC 0) (fVar 0)) fNil)) (fC (.int 0))))) (fRet (fC (.bl false))) fSkip) (fSeq (fFor 25 (g2 3 4) (fIt isTp yEnu (fVar 1)) (fSeq (fSet 5 (fOpH (lift2 gSub) (fOpH (lift2 gAdd) (fTc (fVar 2) (fVar 3)) (fOpH gIx (fUnH (fFldC 0) (fVar 0)) (fOpH (lift2 gSub) (fVar 3) (fC (.int 1))))) (fOpH gIx (fUnH (fFldC 0) (fVar 0)) (fVar 3)))) (fIte (fOrT (fNotT (fTest (fChain gLe gLe (fC (.int 0)) (fVar 5) (fVar 4)))) (fAndT (fTest (fOpH (lift2 gGt) (fOpH gIx (fUnH (fFldC 0) (fVar 0)) (fVar 3)) (fC (.int 0)))) (fTest (fOpH (lift2 gLt) (fVar 5) (fVar 4))))) (fRet (fC (.bl false))) fSkip))) (fRet (fC (.bl true))))))
def F_Settled_shows : FF := fDef 3 [none, none, none] fs_Settled_shows
theorem b_Settled_shows (T : Fx G mg) (c_check_ring : CalF P w G.K mg base G 2 "check_ring" 2 F_check_ring) {f : Addr} {cdv : Value} {A : Around} {outer : List Env} {s : Shared} {H : Hp} {E : XK} (hr : Room 2 (A.deeper (PyProof.Rows.envOfC "Settled.shows" (defScope (inClass (st 21) 2)) s.heap.objs.size f cdv))) : SB (cxOf (L2.CX P w) P w G.K mg base N_Settled_shows "Settled.shows" (defScope (inClass (st 21) 2)) f cdv A outer s H E) G E (defBody (inClass (st 21) 2)) fs_Settled_shows := by
  have M : Amb (cxOf (L2.CX P w) P w G.K mg base N_Settled_shows "Settled.shows" (defScope (inClass (st 21) 2)) f cdv A outer s H E) G E := amb_of
  unfold fs_Settled_shows
  exact (b_cons (S_drop (s_call M hr c_check_ring (s_cons (s_var 1) (s_cons (s_var 2) s_nil)))) (b_cons (S_if (t_w (w_or (t_cmp c_ne (s_len M T.len (s_fld 0 (by decide) M.K T.cls rfl (s_var 0))) (s_len M T.len (s_var 1))) (w_or1 (t_cmp c_ne (s_minT M hr.units T.min (s_fld 0 (by decide) M.K T.cls rfl (s_var 0))) s_int)))) (b_one (S_ret s_bl)) b_nil) (b_cons (S_for 25 M (i_enumT M T.enumerate (s_var 1)) (pg_tup M.calm (pgs_cons (pg_name (i := 3) n_Settled_shows.nd rfl (Or.inl rfl)) (pgs_cons (pg_name (i := 4) n_Settled_shows.nd rfl (Or.inl rfl)) pgs_nil))) (tg2 3 4) (b_cons (S_set n_Settled_shows.nd (s_sub (s_add (s_tc (s_var 2) (s_var 3)) (s_ix M.K (s_fld 0 (by decide) M.K T.cls rfl (s_var 0)) (s_sub (s_var 3) s_int))) (s_ix M.K (s_fld 0 (by decide) M.K T.cls rfl (s_var 0)) (s_var 3))) (i := 5)) (b_one (S_if (t_w (w_or (t_not (t_chain x_le x_le s_int (s_var 5) (s_var 4))) (w_or1 (t_w (w_and (t_cmp c_gt (s_ix M.K (s_fld 0 (by decide) M.K T.cls rfl (s_var 0)) (s_var 3)) s_int) (w_and1 (t_cmp c_lt (s_var 5) (s_var 4)))))))) (b_one (S_ret s_bl)) b_nil)))) (b_one (S_ret s_bl)))))
theorem c_Settled_shows (T : Fx G mg) (D : DM G.K "shows" "Settled.shows" (inClass (st 21) 2) (fun f => Cls G.K (G.cls 0) ∧ Meth G.K (G.cls 0) "shows" f)) (c_check_ring : CalF P w G.K mg base G 2 "check_ring" 2 F_check_ring) : MetF P w G.K mg base G 3 "shows" 0 3 F_Settled_shows := by
  obtain ⟨f, fd, F, hm1, hm2⟩ := D.ex
  exact ⟨⟨f, fd, ["self", "rooms", "starts"], fun l => fn_F F n_Settled_shows rfl rfl (fun l cdv A outer s H E hr => b_Settled_shows (G := G.wl l) T.wl c_check_ring.wl hr) l, hm1, hm2, F.binds fun _ _ _ _ _ _ us hl => match us, hl with | [_, _, _], _ => rfl⟩, fun as h k x e => (fDef_len e).1⟩
/-! settled -/
abbrev N_settled : List Str := ["rooms", "starts"]
theorem n_settled : FnScope N_settled ["rooms", "starts"] (defScope (st 22)) := ⟨rfl, rfl, rfl, by decide +kernel, rfl, by decide +kernel, by decide +kernel⟩
def fs_settled : FS := (fSeq (fDrop (fCall F_check_ring (fCons (fVar 0) (fCons (fVar 1) fNil)))) (fRet (fMake 0 F_Settled_init (fCons (fCall F_passes_of (fCons (fVar 0) (fCons (fVar 1) fNil))) fNil))))
def F_settled : FF := fDef 2 [] fs_settled
theorem b_settled (T : Fx G mg) (c_check_ring : CalF P w G.K mg base G 2 "check_ring" 2 F_check_ring) (c_Settled_init : MakF P w G.K mg base G 1 "Settled" 0 2 F_Settled_init) (c_passes_of : CalF P w G.K mg base G 1 "passes_of" 2 F_passes_of) {f : Addr} {cdv : Value} {A : Around} {outer : List Env} {s : Shared} {H : Hp} {E : XK} (hr : Room 2 (A.deeper (PyProof.Rows.envOfC "settled" (defScope (st 22)) s.heap.objs.size f cdv))) : SB (cxOf (L2.CX P w) P w G.K mg base N_settled "settled" (defScope (st 22)) f cdv A outer s H E) G E (defBody (st 22)) fs_settled := by
  have M : Amb (cxOf (L2.CX P w) P w G.K mg base N_settled "settled" (defScope (st 22)) f cdv A outer s H E) G E := amb_of
  unfold fs_settled
  exact (b_cons (S_drop (s_call M hr c_check_ring (s_cons (s_var 0) (s_cons (s_var 1) s_nil)))) (b_one (S_ret (s_make 0 M hr c_Settled_init (s_cons (s_call M hr c_passes_of (s_cons (s_var 0) (s_cons (s_var 1) s_nil))) s_nil)))))
theorem c_settled (T : Fx G mg) (D : DF G.K mg "settled" (st 22)) (c_check_ring : CalF P w G.K mg base G 2 "check_ring" 2 F_check_ring) (c_Settled_init : MakF P w G.K mg base G 1 "Settled" 0 2 F_Settled_init) (c_passes_of : CalF P w G.K mg base G 1 "passes_of" 2 F_passes_of) : CalF P w G.K mg base G 3 "settled" 2 F_settled := by
  obtain ⟨f, fd, F, hm⟩ := D.ex
  exact ⟨⟨f, fd, ["rooms", "starts"], fun l => fn_F F n_settled rfl rfl (fun l cdv A outer s H E hr => b_settled (G := G.wl l) T.wl c_check_ring.wl c_Settled_init.wl c_passes_of.wl hr) l, hm, F.kp, F.binds fun _ _ _ _ _ _ us hl => match us, hl with | [_, _], _ => rfl⟩, fun as h k x e => (fDef_len e).1⟩
/-! settled_loads -/
abbrev N_settled_loads : List Str := ["rooms", "starts"]
theorem n_settled_loads : FnScope N_settled_loads ["rooms", "starts"] (defScope (st 23)) := ⟨rfl, rfl, rfl, by decide +kernel, rfl, by decide +kernel, by decide +kernel⟩
def fs_settled_loads : FS := (fSeq (fDrop (fCall F_check_ring (fCons (fVar 0) (fCons (fVar 1) fNil)))) (fRet (fCall F_loads_from (fCons (fVar 0) (fCons (fVar 1) fNil)))))
def F_settled_loads : FF := fDef 2 [] fs_settled_loads
theorem b_settled_loads (T : Fx G mg) (c_check_ring : CalF P w G.K mg base G 2 "check_ring" 2 F_check_ring) (c_loads_from : CalF P w G.K mg base G 2 "loads_from" 2 F_loads_from) {f : Addr} {cdv : Value} {A : Around} {outer : List Env} {s : Shared} {H : Hp} {E : XK} (hr : Room 2 (A.deeper (PyProof.Rows.envOfC "settled_loads" (defScope (st 23)) s.heap.objs.size f cdv))) : SB (cxOf (L2.CX P w) P w G.K mg base N_settled_loads "settled_loads" (defScope (st 23)) f cdv A outer s H E) G E (defBody (st 23)) fs_settled_loads := by
  have M : Amb (cxOf (L2.CX P w) P w G.K mg base N_settled_loads "settled_loads" (defScope (st 23)) f cdv A outer s H E) G E := amb_of
  unfold fs_settled_loads
  exact (b_cons (S_drop (s_call M hr c_check_ring (s_cons (s_var 0) (s_cons (s_var 1) s_nil)))) (b_one (S_ret (s_call M hr c_loads_from (s_cons (s_var 0) (s_cons (s_var 1) s_nil))))))
theorem c_settled_loads (T : Fx G mg) (D : DF G.K mg "settled_loads" (st 23)) (c_check_ring : CalF P w G.K mg base G 2 "check_ring" 2 F_check_ring) (c_loads_from : CalF P w G.K mg base G 2 "loads_from" 2 F_loads_from) : CalF P w G.K mg base G 3 "settled_loads" 2 F_settled_loads := by
  obtain ⟨f, fd, F, hm⟩ := D.ex
  exact ⟨⟨f, fd, ["rooms", "starts"], fun l => fn_F F n_settled_loads rfl rfl (fun l cdv A outer s H E hr => b_settled_loads (G := G.wl l) T.wl c_check_ring.wl c_loads_from.wl hr) l, hm, F.kp, F.binds fun _ _ _ _ _ _ us hl => match us, hl with | [_, _], _ => rfl⟩, fun as h k x e => (fDef_len e).1⟩
/-! total_steps -/
abbrev N_total_steps : List Str := ["rooms", "starts"]
theorem n_total_steps : FnScope N_total_steps ["rooms", "starts"] (defScope (st 24)) := ⟨rfl, rfl, rfl, by decide +kernel, rfl, by decide +kernel, by decide +kernel⟩
def fs_total_steps : FS := (fSeq (fDrop (fCall F_check_ring (fCons (fVar 0) (fCons (fVar 1) fNil)))) (fRet (fBlt (one bSum) (fCons (fCall F_passes_of (fCons (fVar 0) (fCons (fVar 1) fNil))) fNil))))
def F_total_steps : FF := fDef 2 [] fs_total_steps
theorem b_total_steps (T : Fx G mg) (c_check_ring : CalF P w G.K mg base G 2 "check_ring" 2 F_check_ring) (c_passes_of : CalF P w G.K mg base G 1 "passes_of" 2 F_passes_of) {f : Addr} {cdv : Value} {A : Around} {outer : List Env} {s : Shared} {H : Hp} {E : XK} (hr : Room 2 (A.deeper (PyProof.Rows.envOfC "total_steps" (defScope (st 24)) s.heap.objs.size f cdv))) : SB (cxOf (L2.CX P w) P w G.K mg base N_total_steps "total_steps" (defScope (st 24)) f cdv A outer s H E) G E (defBody (st 24)) fs_total_steps := by
  have M : Amb (cxOf (L2.CX P w) P w G.K mg base N_total_steps "total_steps" (defScope (st 24)) f cdv A outer s H E) G E := amb_of
  unfold fs_total_steps
  exact (b_cons (S_drop (s_call M hr c_check_ring (s_cons (s_var 0) (s_cons (s_var 1) s_nil)))) (b_one (S_ret (s_sum M T.sum (s_call M hr c_passes_of (s_cons (s_var 0) (s_cons (s_var 1) s_nil)))))))
theorem c_total_steps (T : Fx G mg) (D : DF G.K mg "total_steps" (st 24)) (c_check_ring : CalF P w G.K mg base G 2 "check_ring" 2 F_check_ring) (c_passes_of : CalF P w G.K mg base G 1 "passes_of" 2 F_passes_of) : CalF P w G.K mg base G 3 "total_steps" 2 F_total_steps := by
  obtain ⟨f, fd, F, hm⟩ := D.ex
  exact ⟨⟨f, fd, ["rooms", "starts"], fun l => fn_F F n_total_steps rfl rfl (fun l cdv A outer s H E hr => b_total_steps (G := G.wl l) T.wl c_check_ring.wl c_passes_of.wl hr) l, hm, F.kp, F.binds fun _ _ _ _ _ _ us hl => match us, hl with | [_, _], _ => rfl⟩, fun as h k x e => (fDef_len e).1⟩
/-! vacated -/
abbrev N_vacated : List Str := ["rooms", "starts", "index", "rest", "rows", "one", "other"]
theorem n_vacated : FnScope N_vacated ["rooms", "starts", "index"] (defScope (st 25)) := ⟨rfl, rfl, rfl, by decide +kernel, rfl, by decide +kernel, by decide +kernel⟩
def fs_vacated : FS := (fSeq (fDrop (fCall F_check_ring (fCons (fVar 0) (fCons (fVar 1) fNil)))) (fSeq (fIte (fNotT (fTest (fCall F_is_number (fCons (fVar 2) (fCons (fC (.int 0)) (fCons (fOpH (lift2 gSub) (fBlt (one bLen) (fCons (fVar 1) fNil)) (fC (.int 1))) fNil)))))) (fRaise 3) fSkip) (fSeq (fSet 3 (fTup (fStar (fSlTo (fVar 1) (fVar 2)) (fStar (fSlFrom (fVar 1) (fOpH (lift2 gAdd) (fVar 2) (fC (.int 1)))) fNil)))) (fSeq (fSet 4 (fZipL (fCall F_loads_from (fCons (fVar 0) (fCons (fVar 1) fNil))) (fCall F_loads_from (fCons (fVar 0) (fCons (fVar 3) fNil))))) (fRet (fLm mIdx (fLc 25 [5, 6] (g2 5 6) (fIt isLst yTwo (fVar 4)) fTrue (fOpH (lift2 gGt) (fVar 5) (fVar 6))) (fCons (fC (.bl true)) fNil)))))))
def F_vacated : FF := fDef 3 [none, none, none, none] fs_vacated
theorem b_vacated (T : Fx G mg) (c_check_ring : CalF P w G.K mg base G 2 "check_ring" 2 F_check_ring) (c_is_number : CalF P w G.K mg base G 1 "is_number" 3 F_is_number) (c_loads_from : CalF P w G.K mg base G 2 "loads_from" 2 F_loads_from) {f : Addr} {cdv : Value} {A : Around} {outer : List Env} {s : Shared} {H : Hp} {E : XK} (hr : Room 2 (A.deeper (PyProof.Rows.envOfC "vacated" (defScope (st 25)) s.heap.objs.size f cdv))) : SB (cxOf (L2.CX P w) P w G.K mg base N_vacated "vacated" (defScope (st 25)) f cdv A outer s H E) G E (defBody (st 25)) fs_vacated := by
  have M : Amb (cxOf (L2.CX P w) P w G.K mg base N_vacated "vacated" (defScope (st 25)) f cdv A outer s H E) G E := amb_of
  unfold fs_vacated
  exact (b_cons (S_drop (s_call M hr c_check_ring (s_cons (s_var 0) (s_cons (s_var 1) s_nil)))) (b_cons (S_if (t_not (s_val (s_call M hr c_is_number (s_cons (s_var 2) (s_cons s_int (s_cons (s_sub (s_len M T.len (s_var 1)) s_int) s_nil)))))) (b_one (S_raise 3 M T.BadIndex)) b_nil) (b_cons (S_set n_vacated.nd (s_tup (s_star M.K (s_slTo M.K (s_var 1) (s_var 2)) (s_star M.K (s_slFrom M.K (s_var 1) (s_add (s_var 2) s_int)) s_nil))) (i := 3)) (b_cons (S_set n_vacated.nd (s_zipL M T.list T.zip (s_call M hr c_loads_from (s_cons (s_var 0) (s_cons (s_var 1) s_nil))) (s_call M hr c_loads_from (s_cons (s_var 0) (s_cons (s_var 3) s_nil)))) (i := 4)) (b_one (S_ret (s_lm M.K PySem.F.slot_list_index PySem.F.type_list_index mt_index (s_lc 25 M n_vacated.nd (i_list M.K (s_var 4) y_two) (tg2 5 6) (show blkC N_vacated (defScope (st 25)) _ [("one", 5), ("other", 6)] = true by decide +kernel) (fun _ _ _ _ _ => (pg_tup M.calm (pgs_cons (pg_name (i := 5) n_vacated.nd rfl (Or.inl rfl)) (pgs_cons (pg_name (i := 6) n_vacated.nd rfl (Or.inl rfl)) pgs_nil)))) (fun _ _ _ _ _ => (s_cmp c_gt (s_var 5) (s_var 6)))) (s_cons s_bl s_nil) m_idx)))))))
theorem c_vacated (T : Fx G mg) (D : DF G.K mg "vacated" (st 25)) (c_check_ring : CalF P w G.K mg base G 2 "check_ring" 2 F_check_ring) (c_is_number : CalF P w G.K mg base G 1 "is_number" 3 F_is_number) (c_loads_from : CalF P w G.K mg base G 2 "loads_from" 2 F_loads_from) : CalF P w G.K mg base G 3 "vacated" 3 F_vacated := by
  obtain ⟨f, fd, F, hm⟩ := D.ex
  exact ⟨⟨f, fd, ["rooms", "starts", "index"], fun l => fn_F F n_vacated rfl rfl (fun l cdv A outer s H E hr => b_vacated (G := G.wl l) T.wl c_check_ring.wl c_is_number.wl c_loads_from.wl hr) l, hm, F.kp, F.binds fun _ _ _ _ _ _ us hl => match us, hl with | [_, _, _], _ => rfl⟩, fun as h k x e => (fDef_len e).1⟩
end
end AIx
namespace AIx
open PySem L2
section
variable {P : Program} {w : World} {mg : Str → Option Value} {base : Heap} {G : GE}
/-! check_throw -/
abbrev N_check_throw : List Str := ["items", "servers"]
theorem n_check_throw : FnScope N_check_throw ["items", "servers"] (defScope (st 27)) := ⟨rfl, rfl, rfl, by decide +kernel, rfl, by decide +kernel, by decide +kernel⟩
def fs_check_throw : FS := (fSeq (fIte (fNotT (fTest (fCall F_is_number (fCons (fVar 0) (fCons (fC (.int 0)) (fCons (fC (.int 10)) fNil)))))) (fRaise 4) fSkip) (fIte (fNotT (fTest (fCall F_is_number (fCons (fVar 1) (fCons (fC (.int 1)) (fCons (fC (.int 8)) fNil)))))) (fRaise 5) fSkip))
def F_check_throw : FF := fDef 2 [] fs_check_throw
theorem b_check_throw (T : Fx G mg) (c_is_number : CalF P w G.K mg base G 1 "is_number" 3 F_is_number) {f : Addr} {cdv : Value} {A : Around} {outer : List Env} {s : Shared} {H : Hp} {E : XK} (hr : Room 1 (A.deeper (PyProof.Rows.envOfC "check_throw" (defScope (st 27)) s.heap.objs.size f cdv))) : SB (cxOf (L2.CX P w) P w G.K mg base N_check_throw "check_throw" (defScope (st 27)) f cdv A outer s H E) G E (defBody (st 27)) fs_check_throw := by
  have M : Amb (cxOf (L2.CX P w) P w G.K mg base N_check_throw "check_throw" (defScope (st 27)) f cdv A outer s H E) G E := amb_of
  unfold fs_check_throw
  exact (b_cons (S_if (t_not (s_val (s_call M hr c_is_number (s_cons (s_var 0) (s_cons s_int (s_cons (s_globE 10 T.MOST_ITEMS) s_nil)))))) (b_one (S_raise 4 M T.BadMany)) b_nil) (b_one (S_if (t_not (s_val (s_call M hr c_is_number (s_cons (s_var 1) (s_cons s_int (s_cons (s_globE 8 T.MOST_SERVERS) s_nil)))))) (b_one (S_raise 5 M T.BadServers)) b_nil)))
theorem c_check_throw (T : Fx G mg) (D : DF G.K mg "check_throw" (st 27)) (c_is_number : CalF P w G.K mg base G 1 "is_number" 3 F_is_number) : CalF P w G.K mg base G 2 "check_throw" 2 F_check_throw := by
  obtain ⟨f, fd, F, hm⟩ := D.ex
  exact ⟨⟨f, fd, ["items", "servers"], fun l => fn_F F n_check_throw rfl rfl (fun l cdv A outer s H E hr => b_check_throw (G := G.wl l) T.wl c_is_number.wl hr) l, hm, F.kp, F.binds fun _ _ _ _ _ _ us hl => match us, hl with | [_, _], _ => rfl⟩, fun as h k x e => (fDef_len e).1⟩
/-! choose -/
abbrev N_choose : List Str := ["many", "few", "found", "step"]
theorem n_choose : FnScope N_choose ["many", "few"] (defScope (st 28)) := ⟨rfl, rfl, rfl, by decide +kernel, rfl, by decide +kernel, by decide +kernel⟩
def fs_choose : FS := (fSeq (fSet 2 (fC (.int 1))) (fSeq (fFor 25 (g1 3) (fItR (fVar 1)) (fSet 2 (fOpH (lift2 gDiv) (fOpH (lift2 gMul) (fVar 2) (fOpH (lift2 gSub) (fVar 0) (fVar 3))) (fOpH (lift2 gAdd) (fVar 3) (fC (.int 1)))))) (fRet (fVar 2))))
def F_choose : FF := fDef 2 [none, none] fs_choose
theorem b_choose (T : Fx G mg)  {f : Addr} {cdv : Value} {A : Around} {outer : List Env} {s : Shared} {H : Hp} {E : XK} (hr : Room 0 (A.deeper (PyProof.Rows.envOfC "choose" (defScope (st 28)) s.heap.objs.size f cdv))) : SB (cxOf (L2.CX P w) P w G.K mg base N_choose "choose" (defScope (st 28)) f cdv A outer s H E) G E (defBody (st 28)) fs_choose := by
  have M : Amb (cxOf (L2.CX P w) P w G.K mg base N_choose "choose" (defScope (st 28)) f cdv A outer s H E) G E := amb_of
  unfold fs_choose
  exact (b_cons (S_set n_choose.nd s_int (i := 2)) (b_cons (S_for 25 M (i_range T.range (s_var 1)) (pg_name (i := 3) n_choose.nd rfl (Or.inl rfl)) (tg1 3) (b_one (S_set n_choose.nd (s_div (s_mul (s_var 2) (s_sub (s_var 0) (s_var 3))) (s_add (s_var 3) s_int)) (i := 2)))) (b_one (S_ret (s_var 2)))))
theorem c_choose (T : Fx G mg) (D : DF G.K mg "choose" (st 28))  : CalF P w G.K mg base G 1 "choose" 2 F_choose := by
  obtain ⟨f, fd, F, hm⟩ := D.ex
  exact ⟨⟨f, fd, ["many", "few"], fun l => fn_F F n_choose rfl rfl (fun l cdv A outer s H E hr => b_choose (G := G.wl l) T.wl  hr) l, hm, F.kp, F.binds fun _ _ _ _ _ _ us hl => match us, hl with | [_, _], _ => rfl⟩, fun as h k x e => (fDef_len e).1⟩
/-! power_of -/
abbrev N_power_of : List Str := ["base", "exponent", "found", "turn"]
theorem n_power_of : FnScope N_power_of ["base", "exponent"] (defScope (st 29)) := ⟨rfl, rfl, rfl, by decide +kernel, rfl, by decide +kernel, by decide +kernel⟩
def fs_power_of : FS := (fSeq (fSet 2 (fC (.int 1))) (fSeq (fFor 25 (g1 3) (fItR (fVar 1)) (fAug 2 (lift2 gMul) (fVar 0))) (fRet (fVar 2))))
def F_power_of : FF := fDef 2 [none, none] fs_power_of
theorem b_power_of (T : Fx G mg)  {f : Addr} {cdv : Value} {A : Around} {outer : List Env} {s : Shared} {H : Hp} {E : XK} (hr : Room 0 (A.deeper (PyProof.Rows.envOfC "power_of" (defScope (st 29)) s.heap.objs.size f cdv))) : SB (cxOf (L2.CX P w) P w G.K mg base N_power_of "power_of" (defScope (st 29)) f cdv A outer s H E) G E (defBody (st 29)) fs_power_of := by
  have M : Amb (cxOf (L2.CX P w) P w G.K mg base N_power_of "power_of" (defScope (st 29)) f cdv A outer s H E) G E := amb_of
  unfold fs_power_of
  exact (b_cons (S_set n_power_of.nd s_int (i := 2)) (b_cons (S_for 25 M (i_range T.range (s_var 1)) (pg_name (i := 3) n_power_of.nd rfl (Or.inl rfl)) (tg1 3) (b_one (S_aug n_power_of.nd iop_mul ok_mul.h (s_var 0) (i := 2)))) (b_one (S_ret (s_var 2)))))
theorem c_power_of (T : Fx G mg) (D : DF G.K mg "power_of" (st 29))  : CalF P w G.K mg base G 1 "power_of" 2 F_power_of := by
  obtain ⟨f, fd, F, hm⟩ := D.ex
  exact ⟨⟨f, fd, ["base", "exponent"], fun l => fn_F F n_power_of rfl rfl (fun l cdv A outer s H E hr => b_power_of (G := G.wl l) T.wl  hr) l, hm, F.kp, F.binds fun _ _ _ _ _ _ us hl => match us, hl with | [_, _], _ => rfl⟩, fun as h k x e => (fDef_len e).1⟩
/-! ways_more -/
abbrev N_ways_more : List Str := ["rows", "many", "most", "few"]
theorem n_ways_more : FnScope N_ways_more ["rows", "many", "most"] (defScope (st 31)) := ⟨rfl, rfl, rfl, by decide +kernel, rfl, by decide +kernel, by decide +kernel⟩
def fs_ways_more : FS := (fRet (fBlt (one bSum) (fCons (fLc 25 [3] (g1 3) (fItR (fOpH (lift2 gAdd) (fBlt (two bMin) (fCons (fVar 1) (fCons (fVar 2) fNil))) (fC (.int 1)))) fTrue (fOpH (lift2 gMul) (fOpH gIx (fVar 0) (fOpH (lift2 gSub) (fVar 1) (fVar 3))) (fCallI F_choose (fCons (fVar 1) (fCons (fVar 3) fNil))))) fNil)))
def F_ways_more : FF := fDef 3 [none] fs_ways_more
theorem b_ways_more (T : Fx G mg) (c_choose : CalF P w G.K mg base G 1 "choose" 2 F_choose) {f : Addr} {cdv : Value} {A : Around} {outer : List Env} {s : Shared} {H : Hp} {E : XK} (hr : Room 1 (A.deeper (PyProof.Rows.envOfC "ways_more" (defScope (st 31)) s.heap.objs.size f cdv))) : SB (cxOf (L2.CX P w) P w G.K mg base N_ways_more "ways_more" (defScope (st 31)) f cdv A outer s H E) G E (defBody (st 31)) fs_ways_more := by
  have M : Amb (cxOf (L2.CX P w) P w G.K mg base N_ways_more "ways_more" (defScope (st 31)) f cdv A outer s H E) G E := amb_of
  unfold fs_ways_more
  exact (b_one (S_ret (s_sum M T.sum (s_lc 25 M n_ways_more.nd (i_range T.range (s_add (s_min M T.min (s_var 1) (s_var 2)) s_int)) (tg1 3) (show blkC N_ways_more (defScope (st 31)) _ [("few", 3)] = true by decide +kernel) (fun _ _ _ _ _ => (pg_name (i := 3) n_ways_more.nd rfl (Or.inl rfl))) (fun _ _ _ _ _ => (s_mul (s_ix M.blk.K (s_var 0) (s_sub (s_var 1) (s_var 3))) (s_callI M.blk hr c_choose (s_cons (s_var 1) (s_cons (s_var 3) s_nil)))))))))
theorem c_ways_more (T : Fx G mg) (D : DF G.K mg "ways_more" (st 31)) (c_choose : CalF P w G.K mg base G 1 "choose" 2 F_choose) : CalF P w G.K mg base G 2 "ways_more" 3 F_ways_more := by
  obtain ⟨f, fd, F, hm⟩ := D.ex
  exact ⟨⟨f, fd, ["rows", "many", "most"], fun l => fn_F F n_ways_more rfl rfl (fun l cdv A outer s H E hr => b_ways_more (G := G.wl l) T.wl c_choose.wl hr) l, hm, F.kp, F.binds fun _ _ _ _ _ _ us hl => match us, hl with | [_, _, _], _ => rfl⟩, fun as h k x e => (fDef_len e).1⟩
/-! ways_with -/
abbrev N_ways_with : List Str := ["items", "servers", "most", "rows", "server", "many"]
theorem n_ways_with : FnScope N_ways_with ["items", "servers", "most"] (defScope (st 30)) := ⟨rfl, rfl, rfl, by decide +kernel, rfl, by decide +kernel, by decide +kernel⟩
def fs_ways_with : FS := (fSeq (fSet 3 (fLst (fCons (fC (.int 1)) (fStar (fOpH gRep (fLst (fCons (fC (.int 0)) fNil)) (fVar 0)) fNil)))) (fSeq (fFor 25 (g1 4) (fItR (fVar 1)) (fSet 3 (fLc 25 [5] (g1 5) (fItR (fOpH (lift2 gAdd) (fVar 0) (fC (.int 1)))) fTrue (fCall F_ways_more (fCons (fVar 3) (fCons (fVar 5) (fCons (fVar 2) fNil))))))) (fRet (fOpH gIx (fVar 3) (fVar 0)))))
def F_ways_with : FF := fDef 3 [none, none, none] fs_ways_with
theorem b_ways_with (T : Fx G mg) (c_ways_more : CalF P w G.K mg base G 2 "ways_more" 3 F_ways_more) {f : Addr} {cdv : Value} {A : Around} {outer : List Env} {s : Shared} {H : Hp} {E : XK} (hr : Room 2 (A.deeper (PyProof.Rows.envOfC "ways_with" (defScope (st 30)) s.heap.objs.size f cdv))) : SB (cxOf (L2.CX P w) P w G.K mg base N_ways_with "ways_with" (defScope (st 30)) f cdv A outer s H E) G E (defBody (st 30)) fs_ways_with := by
  have M : Amb (cxOf (L2.CX P w) P w G.K mg base N_ways_with "ways_with" (defScope (st 30)) f cdv A outer s H E) G E := amb_of
  unfold fs_ways_with
  exact (b_cons (S_set n_ways_with.nd (s_lst (s_cons s_int (s_star M.K (s_rep (s_lst (s_cons s_int s_nil)) (s_var 0)) s_nil))) (i := 3)) (b_cons (S_for 25 M (i_range T.range (s_var 1)) (pg_name (i := 4) n_ways_with.nd rfl (Or.inl rfl)) (tg1 4) (b_one (S_set n_ways_with.nd (s_lc 25 M n_ways_with.nd (i_range T.range (s_add (s_var 0) s_int)) (tg1 5) (show blkC N_ways_with (defScope (st 30)) _ [("many", 5)] = true by decide +kernel) (fun _ _ _ _ _ => (pg_name (i := 5) n_ways_with.nd rfl (Or.inl rfl))) (fun _ _ _ _ _ => (s_call M.blk hr c_ways_more (s_cons (s_var 3) (s_cons (s_var 5) (s_cons (s_var 2) s_nil)))))) (i := 3)))) (b_one (S_ret (s_ix M.K (s_var 3) (s_var 0))))))
theorem c_ways_with (T : Fx G mg) (D : DF G.K mg "ways_with" (st 30)) (c_ways_more : CalF P w G.K mg base G 2 "ways_more" 3 F_ways_more) : CalF P w G.K mg base G 3 "ways_with" 3 F_ways_with := by
  obtain ⟨f, fd, F, hm⟩ := D.ex
  exact ⟨⟨f, fd, ["items", "servers", "most"], fun l => fn_F F n_ways_with rfl rfl (fun l cdv A outer s H E hr => b_ways_with (G := G.wl l) T.wl c_ways_more.wl hr) l, hm, F.kp, F.binds fun _ _ _ _ _ _ us hl => match us, hl with | [_, _, _], _ => rfl⟩, fun as h k x e => (fDef_len e).1⟩
def tabW : List Int := [0, 0, 254016000, 841444800, 1035484800, 1069360656, 1073394336, 1073723616, 1073741256, 1073741816, 1073741824]
def isI (v : AV) (r : Int) : Bool := match v with | .int i => iEq i r | _ => false
theorem tw_0 : F_ways_with [.int 10, .int 8, .int 0] [] (fun v _ => isI v 0) noX = true := by decide +kernel
theorem tw_1 : F_ways_with [.int 10, .int 8, .int 1] [] (fun v _ => isI v 0) noX = true := by decide +kernel
theorem tw_2 : F_ways_with [.int 10, .int 8, .int 2] [] (fun v _ => isI v 254016000) noX = true := by decide +kernel
theorem tw_3 : F_ways_with [.int 10, .int 8, .int 3] [] (fun v _ => isI v 841444800) noX = true := by decide +kernel
theorem tw_4 : F_ways_with [.int 10, .int 8, .int 4] [] (fun v _ => isI v 1035484800) noX = true := by decide +kernel
theorem tw_5 : F_ways_with [.int 10, .int 8, .int 5] [] (fun v _ => isI v 1069360656) noX = true := by decide +kernel
theorem tw_6 : F_ways_with [.int 10, .int 8, .int 6] [] (fun v _ => isI v 1073394336) noX = true := by decide +kernel
theorem tw_7 : F_ways_with [.int 10, .int 8, .int 7] [] (fun v _ => isI v 1073723616) noX = true := by decide +kernel
theorem tw_8 : F_ways_with [.int 10, .int 8, .int 8] [] (fun v _ => isI v 1073741256) noX = true := by decide +kernel
theorem tw_9 : F_ways_with [.int 10, .int 8, .int 9] [] (fun v _ => isI v 1073741816) noX = true := by decide +kernel
theorem tw_10 : F_ways_with [.int 10, .int 8, .int 10] [] (fun v _ => isI v 1073741824) noX = true := by decide +kernel
theorem tw_all : ∀ (m : Nat) (r : Int), tabW[m]? = some r → F_ways_with [.int 10, .int 8, .int (.ofNat m)] [] (fun v _ => isI v r) noX = true
  | 0, _, e => by cases e; exact tw_0
  | 1, _, e => by cases e; exact tw_1
  | 2, _, e => by cases e; exact tw_2
  | 3, _, e => by cases e; exact tw_3
  | 4, _, e => by cases e; exact tw_4
  | 5, _, e => by cases e; exact tw_5
  | 6, _, e => by cases e; exact tw_6
  | 7, _, e => by cases e; exact tw_7
  | 8, _, e => by cases e; exact tw_8
  | 9, _, e => by cases e; exact tw_9
  | 10, _, e => by cases e; exact tw_10
  | _ + 11, _, e => by cases e
def F_ways_withT : FF := fun as h k x => match as with
  | [.int (.ofNat 10), .int (.ofNat 8), .int (.ofNat m)] => (match getO tabW m with | some r => k (.int r) h | none => false)
  | as => F_ways_with as h k x
theorem c_ways_withT (c : CalF P w G.K mg base G 3 "ways_with" 3 F_ways_with) : CalF P w G.K mg base G 3 "ways_with" 3 F_ways_withT := by
  obtain ⟨f, fd, ps, Fn, hm, kp, hb⟩ := c.ex
  refine ⟨⟨f, fd, ps, fun l => (Fn l).imp fun vs H Q E h => ?_, hm, kp, hb⟩, fun as h k x e => ?_⟩
  · obtain ⟨hl, ι, h, as, k, x, q, r, e, Ps⟩ := h
    unfold F_ways_withT at e
    split at e
    · rename_i m
      rw [getO_eq] at e
      split at e
      · rename_i v hv
        refine ⟨hl, ι, [], _, fun u _ => isI u v, noX, noRef_ok rfl q, r.empty, tw_all m v hv, ⟨fun ι' h' H' a b st vr e' => ?_, fun _ _ _ _ _ z => nomatch z⟩⟩
        cases a with
        | int i =>
          have e' : iEq i v = true := e'
          rw [iEq_eq, decide_eq_true_iff] at e'
          subst e'
          exact Ps.ok _ _ _ (.int i) _ (Stp.iso r st) vr e
        | _ => cases e'
      · cases e
    · exact ⟨hl, ι, h, _, k, x, q, r, e, Ps⟩
  · unfold F_ways_withT at e
    split at e
    · rfl
    · exact c.len _ _ _ _ e

/-! most_chance -/
abbrev N_most_chance : List Str := ["items", "servers", "most"]
theorem n_most_chance : FnScope N_most_chance ["items", "servers", "most"] (defScope (st 32)) := ⟨rfl, rfl, rfl, by decide +kernel, rfl, by decide +kernel, by decide +kernel⟩
def fs_most_chance : FS := (fSeq (fDrop (fCall F_check_throw (fCons (fVar 0) (fCons (fVar 1) fNil)))) (fSeq (fIte (fNotT (fTest (fCall F_is_number (fCons (fVar 2) (fCons (fC (.int 0)) (fCons (fC (.int 10)) fNil)))))) (fRaise 3) fSkip) (fRet (fCallI F_lowest (fCons (fCall F_ways_withT (fCons (fVar 0) (fCons (fVar 1) (fCons (fVar 2) fNil)))) (fCons (fCallI F_power_of (fCons (fVar 1) (fCons (fVar 0) fNil))) fNil))))))
def F_most_chance : FF := fDef 3 [] fs_most_chance
theorem b_most_chance (T : Fx G mg) (c_check_throw : CalF P w G.K mg base G 2 "check_throw" 2 F_check_throw) (c_is_number : CalF P w G.K mg base G 1 "is_number" 3 F_is_number) (c_lowest : CalF P w G.K mg base G 1 "lowest" 2 F_lowest) (c_ways_withT : CalF P w G.K mg base G 3 "ways_with" 3 F_ways_withT) (c_power_of : CalF P w G.K mg base G 1 "power_of" 2 F_power_of) {f : Addr} {cdv : Value} {A : Around} {outer : List Env} {s : Shared} {H : Hp} {E : XK} (hr : Room 3 (A.deeper (PyProof.Rows.envOfC "most_chance" (defScope (st 32)) s.heap.objs.size f cdv))) : SB (cxOf (L2.CX P w) P w G.K mg base N_most_chance "most_chance" (defScope (st 32)) f cdv A outer s H E) G E (defBody (st 32)) fs_most_chance := by
  have M : Amb (cxOf (L2.CX P w) P w G.K mg base N_most_chance "most_chance" (defScope (st 32)) f cdv A outer s H E) G E := amb_of
  unfold fs_most_chance
  exact (b_cons (S_drop (s_call M hr c_check_throw (s_cons (s_var 0) (s_cons (s_var 1) s_nil)))) (b_cons (S_if (t_not (s_val (s_call M hr c_is_number (s_cons (s_var 2) (s_cons s_int (s_cons (s_globE 10 T.MOST_ITEMS) s_nil)))))) (b_one (S_raise 3 M T.BadIndex)) b_nil) (b_one (S_ret (s_callI M hr c_lowest (s_cons (s_call M hr c_ways_withT (s_cons (s_var 0) (s_cons (s_var 1) (s_cons (s_var 2) s_nil)))) (s_cons (s_callI M hr c_power_of (s_cons (s_var 1) (s_cons (s_var 0) s_nil))) s_nil)))))))
theorem c_most_chance (T : Fx G mg) (D : DF G.K mg "most_chance" (st 32)) (c_check_throw : CalF P w G.K mg base G 2 "check_throw" 2 F_check_throw) (c_is_number : CalF P w G.K mg base G 1 "is_number" 3 F_is_number) (c_lowest : CalF P w G.K mg base G 1 "lowest" 2 F_lowest) (c_ways_withT : CalF P w G.K mg base G 3 "ways_with" 3 F_ways_withT) (c_power_of : CalF P w G.K mg base G 1 "power_of" 2 F_power_of) : CalF P w G.K mg base G 4 "most_chance" 3 F_most_chance := by
  obtain ⟨f, fd, F, hm⟩ := D.ex
  exact ⟨⟨f, fd, ["items", "servers", "most"], fun l => fn_F F n_most_chance rfl rfl (fun l cdv A outer s H E hr => b_most_chance (G := G.wl l) T.wl c_check_throw.wl c_is_number.wl c_lowest.wl c_ways_withT.wl c_power_of.wl hr) l, hm, F.kp, F.binds fun _ _ _ _ _ _ us hl => match us, hl with | [_, _, _], _ => rfl⟩, fun as h k x e => (fDef_len e).1⟩
/-! expected_most -/
abbrev N_expected_most : List Str := ["items", "servers", "rows", "whole", "most", "ways"]
theorem n_expected_most : FnScope N_expected_most ["items", "servers"] (defScope (st 33)) := ⟨rfl, rfl, rfl, by decide +kernel, rfl, by decide +kernel, by decide +kernel⟩
def fs_expected_most : FS := (fSeq (fDrop (fCall F_check_throw (fCons (fVar 0) (fCons (fVar 1) fNil)))) (fSeq (fSet 2 (fLc 25 [4] (g1 4) (fItR (fOpH (lift2 gAdd) (fVar 0) (fC (.int 1)))) fTrue (fCall F_ways_withT (fCons (fVar 0) (fCons (fVar 1) (fCons (fVar 4) fNil)))))) (fSeq (fSet 3 (fBlt (one bSum) (fCons (fLc 25 [5] (g1 5) (fIt isLst yOne (fVar 2)) fTrue (fOpH (lift2 gSub) (fCallI F_power_of (fCons (fVar 1) (fCons (fVar 0) fNil))) (fVar 5))) fNil))) (fRet (fCallI F_lowest (fCons (fVar 3) (fCons (fCallI F_power_of (fCons (fVar 1) (fCons (fVar 0) fNil))) fNil)))))))
def F_expected_most : FF := fDef 2 [none, none, none, none] fs_expected_most
theorem b_expected_most (T : Fx G mg) (c_check_throw : CalF P w G.K mg base G 2 "check_throw" 2 F_check_throw) (c_ways_withT : CalF P w G.K mg base G 3 "ways_with" 3 F_ways_withT) (c_power_of : CalF P w G.K mg base G 1 "power_of" 2 F_power_of) (c_lowest : CalF P w G.K mg base G 1 "lowest" 2 F_lowest) {f : Addr} {cdv : Value} {A : Around} {outer : List Env} {s : Shared} {H : Hp} {E : XK} (hr : Room 3 (A.deeper (PyProof.Rows.envOfC "expected_most" (defScope (st 33)) s.heap.objs.size f cdv))) : SB (cxOf (L2.CX P w) P w G.K mg base N_expected_most "expected_most" (defScope (st 33)) f cdv A outer s H E) G E (defBody (st 33)) fs_expected_most := by
  have M : Amb (cxOf (L2.CX P w) P w G.K mg base N_expected_most "expected_most" (defScope (st 33)) f cdv A outer s H E) G E := amb_of
  unfold fs_expected_most
  exact (b_cons (S_drop (s_call M hr c_check_throw (s_cons (s_var 0) (s_cons (s_var 1) s_nil)))) (b_cons (S_setLc 25 M n_expected_most.nd (i_range T.range (s_add (s_var 0) s_int)) (tg1 4) (show blkC N_expected_most (defScope (st 33)) _ [("most", 4)] = true by decide +kernel) (fun _ _ _ _ _ => (pg_name (i := 4) n_expected_most.nd rfl (Or.inl rfl))) (fun _ _ _ _ _ => (s_call M.blk hr c_ways_withT (s_cons (s_var 0) (s_cons (s_var 1) (s_cons (s_var 4) s_nil))))) (sw_true rfl rfl rfl (by decide +kernel))) (b_cons (S_set n_expected_most.nd (s_sum M T.sum (s_lc 25 M n_expected_most.nd (i_list M.K (s_var 2) y_one) (tg1 5) (show blkC N_expected_most (defScope (st 33)) _ [("ways", 5)] = true by decide +kernel) (fun _ _ _ _ _ => (pg_name (i := 5) n_expected_most.nd rfl (Or.inl rfl))) (fun _ _ _ _ _ => (s_sub (s_callI M.blk hr c_power_of (s_cons (s_var 1) (s_cons (s_var 0) s_nil))) (s_var 5))))) (i := 3)) (b_one (S_ret (s_callI M hr c_lowest (s_cons (s_var 3) (s_cons (s_callI M hr c_power_of (s_cons (s_var 1) (s_cons (s_var 0) s_nil))) s_nil))))))))
theorem c_expected_most (T : Fx G mg) (D : DF G.K mg "expected_most" (st 33)) (c_check_throw : CalF P w G.K mg base G 2 "check_throw" 2 F_check_throw) (c_ways_withT : CalF P w G.K mg base G 3 "ways_with" 3 F_ways_withT) (c_power_of : CalF P w G.K mg base G 1 "power_of" 2 F_power_of) (c_lowest : CalF P w G.K mg base G 1 "lowest" 2 F_lowest) : CalF P w G.K mg base G 4 "expected_most" 2 F_expected_most := by
  obtain ⟨f, fd, F, hm⟩ := D.ex
  exact ⟨⟨f, fd, ["items", "servers"], fun l => fn_F F n_expected_most rfl rfl (fun l cdv A outer s H E hr => b_expected_most (G := G.wl l) T.wl c_check_throw.wl c_ways_withT.wl c_power_of.wl c_lowest.wl hr) l, hm, F.kp, F.binds fun _ _ _ _ _ _ us hl => match us, hl with | [_, _], _ => rfl⟩, fun as h k x e => (fDef_len e).1⟩
/-! used_ways -/
abbrev N_used_ways : List Str := ["items", "servers", "used", "ways", "signed", "some", "many"]
theorem n_used_ways : FnScope N_used_ways ["items", "servers", "used"] (defScope (st 34)) := ⟨rfl, rfl, rfl, by decide +kernel, rfl, by decide +kernel, by decide +kernel⟩
def fs_used_ways : FS := (fSeq (fSet 3 (fLc 25 [5] (g1 5) (fItR (fOpH (lift2 gAdd) (fVar 2) (fC (.int 1)))) fTrue (fOpH (lift2 gMul) (fCallI F_choose (fCons (fVar 2) (fCons (fVar 5) fNil))) (fCallI F_power_of (fCons (fVar 5) (fCons (fVar 0) fNil)))))) (fSeq (fSet 4 (fLc 25 [5, 6] (g2 5 6) (fIt isLst yEnu (fVar 3)) fTrue (fIf (fTest (fOpH (lift2 gEq) (fOpH (lift2 gMod) (fOpH (lift2 gSub) (fVar 2) (fVar 5)) (fC (.int 2))) (fC (.int 0)))) (fVar 6) (fOpH (lift2 gSub) (fC (.int 0)) (fVar 6))))) (fRet (fOpH (lift2 gMul) (fCallI F_choose (fCons (fVar 1) (fCons (fVar 2) fNil))) (fBlt (one bSum) (fCons (fVar 4) fNil))))))
def F_used_ways : FF := fDef 3 [none, none, none, none] fs_used_ways
theorem b_used_ways (T : Fx G mg) (c_choose : CalF P w G.K mg base G 1 "choose" 2 F_choose) (c_power_of : CalF P w G.K mg base G 1 "power_of" 2 F_power_of) {f : Addr} {cdv : Value} {A : Around} {outer : List Env} {s : Shared} {H : Hp} {E : XK} (hr : Room 1 (A.deeper (PyProof.Rows.envOfC "used_ways" (defScope (st 34)) s.heap.objs.size f cdv))) : SB (cxOf (L2.CX P w) P w G.K mg base N_used_ways "used_ways" (defScope (st 34)) f cdv A outer s H E) G E (defBody (st 34)) fs_used_ways := by
  have M : Amb (cxOf (L2.CX P w) P w G.K mg base N_used_ways "used_ways" (defScope (st 34)) f cdv A outer s H E) G E := amb_of
  unfold fs_used_ways
  exact (b_cons (S_setLc 25 M n_used_ways.nd (i_range T.range (s_add (s_var 2) s_int)) (tg1 5) (show blkC N_used_ways (defScope (st 34)) _ [("some", 5)] = true by decide +kernel) (fun _ _ _ _ _ => (pg_name (i := 5) n_used_ways.nd rfl (Or.inl rfl))) (fun _ _ _ _ _ => (s_mul (s_callI M.blk hr c_choose (s_cons (s_var 2) (s_cons (s_var 5) s_nil))) (s_callI M.blk hr c_power_of (s_cons (s_var 5) (s_cons (s_var 0) s_nil))))) (sw_true rfl rfl rfl (by decide +kernel))) (b_cons (S_setLc 25 M n_used_ways.nd (i_enumL M.K T.enumerate (s_var 3)) (tg2 5 6) (show blkC N_used_ways (defScope (st 34)) _ [("some", 5), ("many", 6)] = true by decide +kernel) (fun _ _ _ _ _ => (pg_tup M.calm (pgs_cons (pg_name (i := 5) n_used_ways.nd rfl (Or.inl rfl)) (pgs_cons (pg_name (i := 6) n_used_ways.nd rfl (Or.inl rfl)) pgs_nil)))) (fun _ _ _ _ _ => (s_if (t_cmp c_eq (s_mod (s_sub (s_var 2) (s_var 5)) s_int) s_int) (s_var 6) (s_sub s_int (s_var 6)))) (sw_true rfl rfl rfl (by decide +kernel))) (b_one (S_ret (s_mul (s_callI M hr c_choose (s_cons (s_var 1) (s_cons (s_var 2) s_nil))) (s_sum M T.sum (s_var 4)))))))
theorem c_used_ways (T : Fx G mg) (D : DF G.K mg "used_ways" (st 34)) (c_choose : CalF P w G.K mg base G 1 "choose" 2 F_choose) (c_power_of : CalF P w G.K mg base G 1 "power_of" 2 F_power_of) : CalF P w G.K mg base G 2 "used_ways" 3 F_used_ways := by
  obtain ⟨f, fd, F, hm⟩ := D.ex
  exact ⟨⟨f, fd, ["items", "servers", "used"], fun l => fn_F F n_used_ways rfl rfl (fun l cdv A outer s H E hr => b_used_ways (G := G.wl l) T.wl c_choose.wl c_power_of.wl hr) l, hm, F.kp, F.binds fun _ _ _ _ _ _ us hl => match us, hl with | [_, _, _], _ => rfl⟩, fun as h k x e => (fDef_len e).1⟩
/-! used_chances -/
abbrev N_used_chances : List Str := ["items", "servers", "used"]
theorem n_used_chances : FnScope N_used_chances ["items", "servers"] (defScope (st 35)) := ⟨rfl, rfl, rfl, by decide +kernel, rfl, by decide +kernel, by decide +kernel⟩
def fs_used_chances : FS := (fSeq (fDrop (fCall F_check_throw (fCons (fVar 0) (fCons (fVar 1) fNil)))) (fRet (fBlt (one bTup) (fCons (fLc 25 [2] (g1 2) (fItR (fOpH (lift2 gAdd) (fVar 1) (fC (.int 1)))) fTrue (fCallI F_lowest (fCons (fCall F_used_ways (fCons (fVar 0) (fCons (fVar 1) (fCons (fVar 2) fNil)))) (fCons (fCallI F_power_of (fCons (fVar 1) (fCons (fVar 0) fNil))) fNil)))) fNil))))
def F_used_chances : FF := fDef 2 [none] fs_used_chances
theorem b_used_chances (T : Fx G mg) (c_check_throw : CalF P w G.K mg base G 2 "check_throw" 2 F_check_throw) (c_lowest : CalF P w G.K mg base G 1 "lowest" 2 F_lowest) (c_used_ways : CalF P w G.K mg base G 2 "used_ways" 3 F_used_ways) (c_power_of : CalF P w G.K mg base G 1 "power_of" 2 F_power_of) {f : Addr} {cdv : Value} {A : Around} {outer : List Env} {s : Shared} {H : Hp} {E : XK} (hr : Room 2 (A.deeper (PyProof.Rows.envOfC "used_chances" (defScope (st 35)) s.heap.objs.size f cdv))) : SB (cxOf (L2.CX P w) P w G.K mg base N_used_chances "used_chances" (defScope (st 35)) f cdv A outer s H E) G E (defBody (st 35)) fs_used_chances := by
  have M : Amb (cxOf (L2.CX P w) P w G.K mg base N_used_chances "used_chances" (defScope (st 35)) f cdv A outer s H E) G E := amb_of
  unfold fs_used_chances
  exact (b_cons (S_drop (s_call M hr c_check_throw (s_cons (s_var 0) (s_cons (s_var 1) s_nil)))) (b_one (S_ret (s_tupC M T.tuple (s_lc 25 M n_used_chances.nd (i_range T.range (s_add (s_var 1) s_int)) (tg1 2) (show blkC N_used_chances (defScope (st 35)) _ [("used", 2)] = true by decide +kernel) (fun _ _ _ _ _ => (pg_name (i := 2) n_used_chances.nd rfl (Or.inl rfl))) (fun _ _ _ _ _ => (s_callI M.blk hr c_lowest (s_cons (s_call M.blk hr c_used_ways (s_cons (s_var 0) (s_cons (s_var 1) (s_cons (s_var 2) s_nil)))) (s_cons (s_callI M.blk hr c_power_of (s_cons (s_var 1) (s_cons (s_var 0) s_nil))) s_nil)))))))))
theorem c_used_chances (T : Fx G mg) (D : DF G.K mg "used_chances" (st 35)) (c_check_throw : CalF P w G.K mg base G 2 "check_throw" 2 F_check_throw) (c_lowest : CalF P w G.K mg base G 1 "lowest" 2 F_lowest) (c_used_ways : CalF P w G.K mg base G 2 "used_ways" 3 F_used_ways) (c_power_of : CalF P w G.K mg base G 1 "power_of" 2 F_power_of) : CalF P w G.K mg base G 3 "used_chances" 2 F_used_chances := by
  obtain ⟨f, fd, F, hm⟩ := D.ex
  exact ⟨⟨f, fd, ["items", "servers"], fun l => fn_F F n_used_chances rfl rfl (fun l cdv A outer s H E hr => b_used_chances (G := G.wl l) T.wl c_check_throw.wl c_lowest.wl c_used_ways.wl c_power_of.wl hr) l, hm, F.kp, F.binds fun _ _ _ _ _ _ us hl => match us, hl with | [_, _], _ => rfl⟩, fun as h k x e => (fDef_len e).1⟩
/-! apart_chance -/
abbrev N_apart_chance : List Str := ["items", "servers", "ways", "step"]
theorem n_apart_chance : FnScope N_apart_chance ["items", "servers"] (defScope (st 36)) := ⟨rfl, rfl, rfl, by decide +kernel, rfl, by decide +kernel, by decide +kernel⟩
def fs_apart_chance : FS := (fSeq (fDrop (fCall F_check_throw (fCons (fVar 0) (fCons (fVar 1) fNil)))) (fSeq (fSet 2 (fC (.int 1))) (fSeq (fFor 25 (g1 3) (fItR (fVar 0)) (fAug 2 (lift2 gMul) (fBlt (two bMax) (fCons (fC (.int 0)) (fCons (fOpH (lift2 gSub) (fVar 1) (fVar 3)) fNil))))) (fRet (fCallI F_lowest (fCons (fVar 2) (fCons (fCallI F_power_of (fCons (fVar 1) (fCons (fVar 0) fNil))) fNil)))))))
def F_apart_chance : FF := fDef 2 [none, none] fs_apart_chance
theorem b_apart_chance (T : Fx G mg) (c_check_throw : CalF P w G.K mg base G 2 "check_throw" 2 F_check_throw) (c_lowest : CalF P w G.K mg base G 1 "lowest" 2 F_lowest) (c_power_of : CalF P w G.K mg base G 1 "power_of" 2 F_power_of) {f : Addr} {cdv : Value} {A : Around} {outer : List Env} {s : Shared} {H : Hp} {E : XK} (hr : Room 2 (A.deeper (PyProof.Rows.envOfC "apart_chance" (defScope (st 36)) s.heap.objs.size f cdv))) : SB (cxOf (L2.CX P w) P w G.K mg base N_apart_chance "apart_chance" (defScope (st 36)) f cdv A outer s H E) G E (defBody (st 36)) fs_apart_chance := by
  have M : Amb (cxOf (L2.CX P w) P w G.K mg base N_apart_chance "apart_chance" (defScope (st 36)) f cdv A outer s H E) G E := amb_of
  unfold fs_apart_chance
  exact (b_cons (S_drop (s_call M hr c_check_throw (s_cons (s_var 0) (s_cons (s_var 1) s_nil)))) (b_cons (S_set n_apart_chance.nd s_int (i := 2)) (b_cons (S_for 25 M (i_range T.range (s_var 0)) (pg_name (i := 3) n_apart_chance.nd rfl (Or.inl rfl)) (tg1 3) (b_one (S_aug n_apart_chance.nd iop_mul ok_mul.h (s_max M T.max s_int (s_sub (s_var 1) (s_var 3))) (i := 2)))) (b_one (S_ret (s_callI M hr c_lowest (s_cons (s_var 2) (s_cons (s_callI M hr c_power_of (s_cons (s_var 1) (s_cons (s_var 0) s_nil))) s_nil))))))))
theorem c_apart_chance (T : Fx G mg) (D : DF G.K mg "apart_chance" (st 36)) (c_check_throw : CalF P w G.K mg base G 2 "check_throw" 2 F_check_throw) (c_lowest : CalF P w G.K mg base G 1 "lowest" 2 F_lowest) (c_power_of : CalF P w G.K mg base G 1 "power_of" 2 F_power_of) : CalF P w G.K mg base G 3 "apart_chance" 2 F_apart_chance := by
  obtain ⟨f, fd, F, hm⟩ := D.ex
  exact ⟨⟨f, fd, ["items", "servers"], fun l => fn_F F n_apart_chance rfl rfl (fun l cdv A outer s H E hr => b_apart_chance (G := G.wl l) T.wl c_check_throw.wl c_lowest.wl c_power_of.wl hr) l, hm, F.kp, F.binds fun _ _ _ _ _ _ us hl => match us, hl with | [_, _], _ => rfl⟩, fun as h k x e => (fDef_len e).1⟩
end
end AIx
namespace AIx
open PySem L2
section
variable {P : Program} {w : World} {mg : Str → Option Value} {base : Heap} {G : GE}
/-! check_share -/
abbrev N_check_share : List Str := ["capacities", "items", "capacity"]
theorem n_check_share : FnScope N_check_share ["capacities", "items"] (defScope (st 40)) := ⟨rfl, rfl, rfl, by decide +kernel, rfl, by decide +kernel, by decide +kernel⟩
def fs_check_share : FS := (fSeq (fIte (fOrT (fNotT (fTest (fUnH (bIs 5) (fVar 0)))) (fNotT (fTest (fChain gLe gLe (fC (.int 1)) (fBlt (one bLen) (fCons (fVar 0) fNil)) (fC (.int 8)))))) (fRaise 6) fSkip) (fSeq (fIte (fNotT (fTest (fBlt (one bAllL) (fCons (fLc 25 [2] (g1 2) (fIt isTp yOne (fVar 0)) fTrue (fCall F_is_number (fCons (fVar 2) (fCons (fC (.int 1)) (fCons (fC (.int 10)) fNil))))) fNil)))) (fRaise 6) fSkip) (fIte (fNotT (fTest (fCall F_is_number (fCons (fVar 1) (fCons (fC (.int 0)) (fCons (fC (.int 20)) fNil)))))) (fRaise 4) fSkip)))
def F_check_share : FF := fDef 2 [none] fs_check_share
theorem b_check_share (T : Fx G mg) (c_is_number : CalF P w G.K mg base G 1 "is_number" 3 F_is_number) {f : Addr} {cdv : Value} {A : Around} {outer : List Env} {s : Shared} {H : Hp} {E : XK} (hr : Room 1 (A.deeper (PyProof.Rows.envOfC "check_share" (defScope (st 40)) s.heap.objs.size f cdv))) : SB (cxOf (L2.CX P w) P w G.K mg base N_check_share "check_share" (defScope (st 40)) f cdv A outer s H E) G E (defBody (st 40)) fs_check_share := by
  have M : Amb (cxOf (L2.CX P w) P w G.K mg base N_check_share "check_share" (defScope (st 40)) f cdv A outer s H E) G E := amb_of
  unfold fs_check_share
  exact (b_cons (S_if (t_w (w_or (t_not (s_val (s_isTy 5 (.inr (.inr rfl)) M.K T.isinstance T.tuple (by decide +kernel) (s_var 0)))) (w_or1 (t_not (t_chain x_le x_le s_int (s_len M T.len (s_var 0)) (s_globE 8 T.MOST_SERVERS)))))) (b_one (S_raise 6 M T.BadCapacities)) b_nil) (b_cons (S_if (t_not (s_val (s_all M T.all (s_lc 25 M n_check_share.nd (i_tup M.K (s_var 0) y_one) (tg1 2) (show blkC N_check_share (defScope (st 40)) _ [("capacity", 2)] = true by decide +kernel) (fun _ _ _ _ _ => (pg_name (i := 2) n_check_share.nd rfl (Or.inl rfl))) (fun _ _ _ _ _ => (s_call M.blk hr c_is_number (s_cons (s_var 2) (s_cons s_int (s_cons (s_globE 10 T.MOST_CAPACITY) s_nil))))))))) (b_one (S_raise 6 M T.BadCapacities)) b_nil) (b_one (S_if (t_not (s_val (s_call M hr c_is_number (s_cons (s_var 1) (s_cons s_int (s_cons (s_globE 20 T.MOST_SHARED) s_nil)))))) (b_one (S_raise 4 M T.BadMany)) b_nil))))
theorem c_check_share (T : Fx G mg) (D : DF G.K mg "check_share" (st 40)) (c_is_number : CalF P w G.K mg base G 1 "is_number" 3 F_is_number) : CalF P w G.K mg base G 2 "check_share" 2 F_check_share := by
  obtain ⟨f, fd, F, hm⟩ := D.ex
  exact ⟨⟨f, fd, ["capacities", "items"], fun l => fn_F F n_check_share rfl rfl (fun l cdv A outer s H E hr => b_check_share (G := G.wl l) T.wl c_is_number.wl hr) l, hm, F.kp, F.binds fun _ _ _ _ _ _ us hl => match us, hl with | [_, _], _ => rfl⟩, fun as h k x e => (fDef_len e).1⟩
/-! is_before -/
abbrev N_is_before : List Str := ["capacities", "loads", "one", "other"]
theorem n_is_before : FnScope N_is_before ["capacities", "loads", "one", "other"] (defScope (st 41)) := ⟨rfl, rfl, rfl, by decide +kernel, rfl, by decide +kernel, by decide +kernel⟩
def fs_is_before : FS := (fRet (fOpH (lift2 gLt) (fOpH (lift2 gMul) (fOpH (lift2 gAdd) (fOpH gIx (fVar 1) (fVar 2)) (fC (.int 1))) (fOpH gIx (fVar 0) (fVar 3))) (fOpH (lift2 gMul) (fOpH (lift2 gAdd) (fOpH gIx (fVar 1) (fVar 3)) (fC (.int 1))) (fOpH gIx (fVar 0) (fVar 2)))))
def F_is_before : FF := fDef 4 [] fs_is_before
theorem b_is_before (T : Fx G mg)  {f : Addr} {cdv : Value} {A : Around} {outer : List Env} {s : Shared} {H : Hp} {E : XK} (hr : Room 0 (A.deeper (PyProof.Rows.envOfC "is_before" (defScope (st 41)) s.heap.objs.size f cdv))) : SB (cxOf (L2.CX P w) P w G.K mg base N_is_before "is_before" (defScope (st 41)) f cdv A outer s H E) G E (defBody (st 41)) fs_is_before := by
  have M : Amb (cxOf (L2.CX P w) P w G.K mg base N_is_before "is_before" (defScope (st 41)) f cdv A outer s H E) G E := amb_of
  unfold fs_is_before
  exact (b_one (S_ret (s_cmp c_lt (s_mul (s_add (s_ix M.K (s_var 1) (s_var 2)) s_int) (s_ix M.K (s_var 0) (s_var 3))) (s_mul (s_add (s_ix M.K (s_var 1) (s_var 3)) s_int) (s_ix M.K (s_var 0) (s_var 2))))))
theorem c_is_before (T : Fx G mg) (D : DF G.K mg "is_before" (st 41))  : CalF P w G.K mg base G 1 "is_before" 4 F_is_before := by
  obtain ⟨f, fd, F, hm⟩ := D.ex
  exact ⟨⟨f, fd, ["capacities", "loads", "one", "other"], fun l => fn_F F n_is_before rfl rfl (fun l cdv A outer s H E hr => b_is_before (G := G.wl l) T.wl  hr) l, hm, F.kp, F.binds fun _ _ _ _ _ _ us hl => match us, hl with | [_, _, _, _], _ => rfl⟩, fun as h k x e => (fDef_len e).1⟩
/-! next_server -/
abbrev N_next_server : List Str := ["capacities", "loads", "found", "server"]
theorem n_next_server : FnScope N_next_server ["capacities", "loads"] (defScope (st 42)) := ⟨rfl, rfl, rfl, by decide +kernel, rfl, by decide +kernel, by decide +kernel⟩
def fs_next_server : FS := (fSeq (fSet 2 (fC (.int 0))) (fSeq (fFor 25 (g1 3) (fItR2 (fC (.int 1)) (fBlt (one bLen) (fCons (fVar 0) fNil))) (fIte (fTest (fCall F_is_before (fCons (fVar 0) (fCons (fVar 1) (fCons (fVar 3) (fCons (fVar 2) fNil)))))) (fSet 2 (fVar 3)) fSkip)) (fRet (fVar 2))))
def F_next_server : FF := fDef 2 [none, none] fs_next_server
theorem b_next_server (T : Fx G mg) (c_is_before : CalF P w G.K mg base G 1 "is_before" 4 F_is_before) {f : Addr} {cdv : Value} {A : Around} {outer : List Env} {s : Shared} {H : Hp} {E : XK} (hr : Room 1 (A.deeper (PyProof.Rows.envOfC "next_server" (defScope (st 42)) s.heap.objs.size f cdv))) : SB (cxOf (L2.CX P w) P w G.K mg base N_next_server "next_server" (defScope (st 42)) f cdv A outer s H E) G E (defBody (st 42)) fs_next_server := by
  have M : Amb (cxOf (L2.CX P w) P w G.K mg base N_next_server "next_server" (defScope (st 42)) f cdv A outer s H E) G E := amb_of
  unfold fs_next_server
  exact (b_cons (S_set n_next_server.nd s_int (i := 2)) (b_cons (S_for 25 M (i_range2 T.range s_int (s_len M T.len (s_var 0))) (pg_name (i := 3) n_next_server.nd rfl (Or.inl rfl)) (tg1 3) (b_one (S_if (s_val (s_call M hr c_is_before (s_cons (s_var 0) (s_cons (s_var 1) (s_cons (s_var 3) (s_cons (s_var 2) s_nil)))))) (b_one (S_set n_next_server.nd (s_var 3) (i := 2))) b_nil))) (b_one (S_ret (s_var 2)))))
theorem c_next_server (T : Fx G mg) (D : DF G.K mg "next_server" (st 42)) (c_is_before : CalF P w G.K mg base G 1 "is_before" 4 F_is_before) : CalF P w G.K mg base G 2 "next_server" 2 F_next_server := by
  obtain ⟨f, fd, F, hm⟩ := D.ex
  exact ⟨⟨f, fd, ["capacities", "loads"], fun l => fn_F F n_next_server rfl rfl (fun l cdv A outer s H E hr => b_next_server (G := G.wl l) T.wl c_is_before.wl hr) l, hm, F.kp, F.binds fun _ _ _ _ _ _ us hl => match us, hl with | [_, _], _ => rfl⟩, fun as h k x e => (fDef_len e).1⟩
/-! servers_in_turn -/
abbrev N_servers_in_turn : List Str := ["capacities", "items", "loads", "found", "turn", "server"]
theorem n_servers_in_turn : FnScope N_servers_in_turn ["capacities", "items"] (defScope (st 43)) := ⟨rfl, rfl, rfl, by decide +kernel, rfl, by decide +kernel, by decide +kernel⟩
def fs_servers_in_turn : FS := (fSeq (fPar 2 3 (fCons (fOpH gRep (fLst (fCons (fC (.int 0)) fNil)) (fBlt (one bLen) (fCons (fVar 0) fNil))) (fCons (fLst fNil) fNil))) (fSeq (fFor 25 (g1 4) (fItR (fVar 1)) (fSeq (fSet 5 (fCall F_next_server (fCons (fVar 0) (fCons (fVar 2) fNil)))) (fSeq (fAugSub (lift2 gAdd) (fVar 2) (fVar 5) (fC (.int 1))) (fDrop (fLm mApp (fVar 3) (fCons (fVar 5) fNil)))))) (fRet (fVar 3))))
def F_servers_in_turn : FF := fDef 2 [none, none, none, none] fs_servers_in_turn
theorem b_servers_in_turn (T : Fx G mg) (c_next_server : CalF P w G.K mg base G 2 "next_server" 2 F_next_server) {f : Addr} {cdv : Value} {A : Around} {outer : List Env} {s : Shared} {H : Hp} {E : XK} (hr : Room 2 (A.deeper (PyProof.Rows.envOfC "servers_in_turn" (defScope (st 43)) s.heap.objs.size f cdv))) : SB (cxOf (L2.CX P w) P w G.K mg base N_servers_in_turn "servers_in_turn" (defScope (st 43)) f cdv A outer s H E) G E (defBody (st 43)) fs_servers_in_turn := by
  have M : Amb (cxOf (L2.CX P w) P w G.K mg base N_servers_in_turn "servers_in_turn" (defScope (st 43)) f cdv A outer s H E) G E := amb_of
  unfold fs_servers_in_turn
  exact (b_cons (S_par M.calm n_servers_in_turn.nd (s_cons (s_rep (s_lst (s_cons s_int s_nil)) (s_len M T.len (s_var 0))) (s_cons (s_lst s_nil) s_nil)) (i := 2) (j := 3)) (b_cons (S_for 25 M (i_range T.range (s_var 1)) (pg_name (i := 4) n_servers_in_turn.nd rfl (Or.inl rfl)) (tg1 4) (b_cons (S_set n_servers_in_turn.nd (s_call M hr c_next_server (s_cons (s_var 0) (s_cons (s_var 2) s_nil))) (i := 5)) (b_cons (S_augSub M.K iop_add ok_add.h (s_var 2) (s_var 5) s_int) (b_one (S_drop (s_lm M.K PySem.F.slot_list_append PySem.F.type_list_append mt_append (s_var 3) (s_cons (s_var 5) s_nil) m_app)))))) (b_one (S_ret (s_var 3)))))
theorem c_servers_in_turn (T : Fx G mg) (D : DF G.K mg "servers_in_turn" (st 43)) (c_next_server : CalF P w G.K mg base G 2 "next_server" 2 F_next_server) : CalF P w G.K mg base G 3 "servers_in_turn" 2 F_servers_in_turn := by
  obtain ⟨f, fd, F, hm⟩ := D.ex
  exact ⟨⟨f, fd, ["capacities", "items"], fun l => fn_F F n_servers_in_turn rfl rfl (fun l cdv A outer s H E hr => b_servers_in_turn (G := G.wl l) T.wl c_next_server.wl hr) l, hm, F.kp, F.binds fun _ _ _ _ _ _ us hl => match us, hl with | [_, _], _ => rfl⟩, fun as h k x e => (fDef_len e).1⟩
/-! Shares.__init__ -/
abbrev N_Shares_init : List Str := ["self", "counts"]
theorem n_Shares_init : FnScope N_Shares_init ["self", "counts"] (defScope (inClass (st 44) 0)) := ⟨rfl, rfl, rfl, by decide +kernel, rfl, by decide +kernel, by decide +kernel⟩
def fs_Shares_init : FS := (fInit 1 (fBlt (one bTup) (fCons (fVar 1) fNil)) (fVar 0))
def F_Shares_init : FF := fDef 2 [] fs_Shares_init
theorem b_Shares_init (T : Fx G mg)  {f : Addr} {cdv : Value} {A : Around} {outer : List Env} {s : Shared} {H : Hp} {E : XK} (hr : Room 0 (A.deeper (PyProof.Rows.envOfC "Shares.__init__" (defScope (inClass (st 44) 0)) s.heap.objs.size f cdv))) : SB (cxOf (L2.CX P w) P w G.K mg base N_Shares_init "Shares.__init__" (defScope (inClass (st 44) 0)) f cdv A outer s H E) G E (defBody (inClass (st 44) 0)) fs_Shares_init := by
  have M : Amb (cxOf (L2.CX P w) P w G.K mg base N_Shares_init "Shares.__init__" (defScope (inClass (st 44) 0)) f cdv A outer s H E) G E := amb_of
  unfold fs_Shares_init
  exact (b_one (S_init 1 (by decide) M.K T.cls (s_var 0) (s_tupC M T.tuple (s_var 1))))
theorem c_Shares_init (T : Fx G mg) (D : DM G.K "__init__" "Shares.__init__" (inClass (st 44) 0) (fun f => Mk G.K (G.cls 1) f))  : MakF P w G.K mg base G 1 "Shares" 1 2 F_Shares_init := by
  obtain ⟨f, fd, F, hm⟩ := D.ex
  exact ⟨⟨f, fd, ["self", "counts"], fun l => fn_F F n_Shares_init rfl rfl (fun l cdv A outer s H E hr => b_Shares_init (G := G.wl l) T.wl  hr) l, hm, T.Shares, F.binds fun _ _ _ _ _ _ us hl => match us, hl with | [_, _], _ => rfl⟩, fun as h k x e => (fDef_len e).1⟩
/-! Shares.__eq__ -/
abbrev N_Shares_eq : List Str := ["self", "other"]
theorem n_Shares_eq : FnScope N_Shares_eq ["self", "other"] (defScope (inClass (st 44) 1)) := ⟨rfl, rfl, rfl, by decide +kernel, rfl, by decide +kernel, by decide +kernel⟩
def fs_Shares_eq : FS := (fRet (fAndV (fUnH (bIsC 1) (fVar 1)) (fOpH (gSeq id isTp) (fUnH (fFldC 1) (fVar 0)) (fUnH (fFldC 1) (fVar 1)))))
def F_Shares_eq : FF := fDef 2 [] fs_Shares_eq
theorem b_Shares_eq (T : Fx G mg)  {f : Addr} {cdv : Value} {A : Around} {outer : List Env} {s : Shared} {H : Hp} {E : XK} (hr : Room 0 (A.deeper (PyProof.Rows.envOfC "Shares.__eq__" (defScope (inClass (st 44) 1)) s.heap.objs.size f cdv))) : SB (cxOf (L2.CX P w) P w G.K mg base N_Shares_eq "Shares.__eq__" (defScope (inClass (st 44) 1)) f cdv A outer s H E) G E (defBody (inClass (st 44) 1)) fs_Shares_eq := by
  have M : Amb (cxOf (L2.CX P w) P w G.K mg base N_Shares_eq "Shares.__eq__" (defScope (inClass (st 44) 1)) f cdv A outer s H E) G E := amb_of
  unfold fs_Shares_eq
  exact (b_one (S_ret (s_and (s_isCls 1 M.K T.cls (T.kit 1 (by decide)) T.isinstance T.Shares (s_var 1)) (s_one (s_cmp (c_eqT M.K hr.units) (s_fld 1 (by decide) M.K T.cls rfl (s_var 0)) (s_fld 1 (by decide) M.K T.cls rfl (s_var 1)))))))
theorem c_Shares_eq (T : Fx G mg) (D : DM G.K "__eq__" "Shares.__eq__" (inClass (st 44) 1) (fun f => Cls G.K (G.cls 1) ∧ Meth G.K (G.cls 1) "__eq__" f))  : MetF P w G.K mg base G 1 "__eq__" 1 2 F_Shares_eq := by
  obtain ⟨f, fd, F, hm1, hm2⟩ := D.ex
  exact ⟨⟨f, fd, ["self", "other"], fun l => fn_F F n_Shares_eq rfl rfl (fun l cdv A outer s H E hr => b_Shares_eq (G := G.wl l) T.wl  hr) l, hm1, hm2, F.binds fun _ _ _ _ _ _ us hl => match us, hl with | [_, _], _ => rfl⟩, fun as h k x e => (fDef_len e).1⟩
/-! Shares.shows -/
abbrev N_Shares_shows : List Str := ["self", "capacities", "items", "pairs", "one", "other"]
theorem n_Shares_shows : FnScope N_Shares_shows ["self", "capacities", "items"] (defScope (inClass (st 44) 2)) := ⟨rfl, rfl, rfl, by decide +kernel, rfl, by decide +kernel, by decide +kernel⟩
def fs_Shares_shows : FS := (fSeq (fDrop (fCall F_check_share (fCons (fVar 1) (fCons (fVar 2) fNil)))) (fSeq (fIte (fOrT (fTest (fOpH (lift2 gNe) (fBlt (one bLen) (fCons (fUnH (fFldC 1) (fVar 0)) fNil)) (fBlt (one bLen) (fCons (fVar 1) fNil)))) (fOrT (fTest (fOpH (lift2 gLt) (fBlt (one bMinT) (fCons (fUnH (fFldC 1) (fVar 0)) fNil)) (fC (.int 0)))) (fTest (fOpH (lift2 gNe) (fBlt (one bSum) (fCons (fUnH (fFldC 1) (fVar 0)) fNil)) (fVar 2))))) (fRet (fC (.bl false))) fSkip) (fSeq (fSet 3 (fZipT (fUnH (fFldC 1) (fVar 0)) (fVar 1))) (fRet (fBlt (one bAllL) (fCons (fLc2 25 [4, 5] [5] (g1 4) (fIt isLst yOne (fVar 3)) (g1 5) (fIt isLst yOne (fVar 3)) (fOpH (lift2 gLe) (fOpH (lift2 gMul) (fOpH gIx (fVar 4) (fC (.int 0))) (fOpH gIx (fVar 5) (fC (.int 1)))) (fOpH (lift2 gMul) (fOpH (lift2 gAdd) (fOpH gIx (fVar 5) (fC (.int 0))) (fC (.int 1))) (fOpH gIx (fVar 4) (fC (.int 1)))))) fNil))))))
def F_Shares_shows : FF := fDef 3 [none, none, none] fs_Shares_shows
theorem b_Shares_shows (T : Fx G mg) (c_check_share : CalF P w G.K mg base G 2 "check_share" 2 F_check_share) {f : Addr} {cdv : Value} {A : Around} {outer : List Env} {s : Shared} {H : Hp} {E : XK} (hr : Room 2 (A.deeper (PyProof.Rows.envOfC "Shares.shows" (defScope (inClass (st 44) 2)) s.heap.objs.size f cdv))) : SB (cxOf (L2.CX P w) P w G.K mg base N_Shares_shows "Shares.shows" (defScope (inClass (st 44) 2)) f cdv A outer s H E) G E (defBody (inClass (st 44) 2)) fs_Shares_shows := by
  have M : Amb (cxOf (L2.CX P w) P w G.K mg base N_Shares_shows "Shares.shows" (defScope (inClass (st 44) 2)) f cdv A outer s H E) G E := amb_of
  unfold fs_Shares_shows
  exact (b_cons (S_drop (s_call M hr c_check_share (s_cons (s_var 1) (s_cons (s_var 2) s_nil)))) (b_cons (S_if (t_w (w_or (t_cmp c_ne (s_len M T.len (s_fld 1 (by decide) M.K T.cls rfl (s_var 0))) (s_len M T.len (s_var 1))) (w_or (t_cmp c_lt (s_minT M hr.units T.min (s_fld 1 (by decide) M.K T.cls rfl (s_var 0))) s_int) (w_or1 (t_cmp c_ne (s_sum M T.sum (s_fld 1 (by decide) M.K T.cls rfl (s_var 0))) (s_var 2)))))) (b_one (S_ret s_bl)) b_nil) (b_cons (S_set n_Shares_shows.nd (s_zipT M T.list T.zip (s_fld 1 (by decide) M.K T.cls rfl (s_var 0)) (s_var 1)) (i := 3)) (b_one (S_ret (s_all M T.all (s_lc2 25 M n_Shares_shows.nd (i_list M.K (s_var 3) y_one) (tg1 4) (tg1 5) (show blkC N_Shares_shows (defScope (inClass (st 44) 2)) _ [("one", 4), ("other", 5)] = true by decide +kernel) (fun _ _ _ _ _ => (pg_name (i := 4) n_Shares_shows.nd rfl (Or.inl rfl))) (fun _ _ _ _ _ => (i_list M.blk.K (s_var 3) y_one)) (fun _ _ _ _ _ => (pg_name (i := 5) n_Shares_shows.nd rfl (Or.inl rfl))) (fun _ _ _ _ _ => (s_cmp c_le (s_mul (s_ix M.blk.K (s_var 4) s_int) (s_ix M.blk.K (s_var 5) s_int)) (s_mul (s_add (s_ix M.blk.K (s_var 5) s_int) s_int) (s_ix M.blk.K (s_var 4) s_int)))) (vs1 := [5]))))))))
theorem c_Shares_shows (T : Fx G mg) (D : DM G.K "shows" "Shares.shows" (inClass (st 44) 2) (fun f => Cls G.K (G.cls 1) ∧ Meth G.K (G.cls 1) "shows" f)) (c_check_share : CalF P w G.K mg base G 2 "check_share" 2 F_check_share) : MetF P w G.K mg base G 3 "shows" 1 3 F_Shares_shows := by
  obtain ⟨f, fd, F, hm1, hm2⟩ := D.ex
  exact ⟨⟨f, fd, ["self", "capacities", "items"], fun l => fn_F F n_Shares_shows rfl rfl (fun l cdv A outer s H E hr => b_Shares_shows (G := G.wl l) T.wl c_check_share.wl hr) l, hm1, hm2, F.binds fun _ _ _ _ _ _ us hl => match us, hl with | [_, _, _], _ => rfl⟩, fun as h k x e => (fDef_len e).1⟩
/-! share_out -/
abbrev N_share_out : List Str := ["capacities", "items", "turns", "server"]
theorem n_share_out : FnScope N_share_out ["capacities", "items"] (defScope (st 45)) := ⟨rfl, rfl, rfl, by decide +kernel, rfl, by decide +kernel, by decide +kernel⟩
def fs_share_out : FS := (fSeq (fDrop (fCall F_check_share (fCons (fVar 0) (fCons (fVar 1) fNil)))) (fSeq (fSet 2 (fCall F_servers_in_turn (fCons (fVar 0) (fCons (fVar 1) fNil)))) (fRet (fMake 1 F_Shares_init (fCons (fLc 25 [3] (g1 3) (fItR (fBlt (one bLen) (fCons (fVar 0) fNil))) fTrue (fLm mCntL (fVar 2) (fCons (fVar 3) fNil))) fNil)))))
def F_share_out : FF := fDef 2 [none, none] fs_share_out
theorem b_share_out (T : Fx G mg) (c_check_share : CalF P w G.K mg base G 2 "check_share" 2 F_check_share) (c_servers_in_turn : CalF P w G.K mg base G 3 "servers_in_turn" 2 F_servers_in_turn) (c_Shares_init : MakF P w G.K mg base G 1 "Shares" 1 2 F_Shares_init) {f : Addr} {cdv : Value} {A : Around} {outer : List Env} {s : Shared} {H : Hp} {E : XK} (hr : Room 3 (A.deeper (PyProof.Rows.envOfC "share_out" (defScope (st 45)) s.heap.objs.size f cdv))) : SB (cxOf (L2.CX P w) P w G.K mg base N_share_out "share_out" (defScope (st 45)) f cdv A outer s H E) G E (defBody (st 45)) fs_share_out := by
  have M : Amb (cxOf (L2.CX P w) P w G.K mg base N_share_out "share_out" (defScope (st 45)) f cdv A outer s H E) G E := amb_of
  unfold fs_share_out
  exact (b_cons (S_drop (s_call M hr c_check_share (s_cons (s_var 0) (s_cons (s_var 1) s_nil)))) (b_cons (S_set n_share_out.nd (s_call M hr c_servers_in_turn (s_cons (s_var 0) (s_cons (s_var 1) s_nil))) (i := 2)) (b_one (S_ret (s_make 1 M hr c_Shares_init (s_cons (s_lc 25 M n_share_out.nd (i_range T.range (s_len M T.len (s_var 0))) (tg1 3) (show blkC N_share_out (defScope (st 45)) _ [("server", 3)] = true by decide +kernel) (fun _ _ _ _ _ => (pg_name (i := 3) n_share_out.nd rfl (Or.inl rfl))) (fun _ _ _ _ _ => (s_lm M.blk.K PySem.F.slot_list_count PySem.F.type_list_count mt_lcount (s_var 2) (s_cons (s_var 3) s_nil) m_lcnt'))) s_nil))))))
theorem c_share_out (T : Fx G mg) (D : DF G.K mg "share_out" (st 45)) (c_check_share : CalF P w G.K mg base G 2 "check_share" 2 F_check_share) (c_servers_in_turn : CalF P w G.K mg base G 3 "servers_in_turn" 2 F_servers_in_turn) (c_Shares_init : MakF P w G.K mg base G 1 "Shares" 1 2 F_Shares_init) : CalF P w G.K mg base G 4 "share_out" 2 F_share_out := by
  obtain ⟨f, fd, F, hm⟩ := D.ex
  exact ⟨⟨f, fd, ["capacities", "items"], fun l => fn_F F n_share_out rfl rfl (fun l cdv A outer s H E hr => b_share_out (G := G.wl l) T.wl c_check_share.wl c_servers_in_turn.wl c_Shares_init.wl hr) l, hm, F.kp, F.binds fun _ _ _ _ _ _ us hl => match us, hl with | [_, _], _ => rfl⟩, fun as h k x e => (fDef_len e).1⟩
/-! in_turn -/
abbrev N_in_turn : List Str := ["capacities", "items"]
theorem n_in_turn : FnScope N_in_turn ["capacities", "items"] (defScope (st 46)) := ⟨rfl, rfl, rfl, by decide +kernel, rfl, by decide +kernel, by decide +kernel⟩
def fs_in_turn : FS := (fSeq (fDrop (fCall F_check_share (fCons (fVar 0) (fCons (fVar 1) fNil)))) (fRet (fCall F_servers_in_turn (fCons (fVar 0) (fCons (fVar 1) fNil)))))
def F_in_turn : FF := fDef 2 [] fs_in_turn
theorem b_in_turn (T : Fx G mg) (c_check_share : CalF P w G.K mg base G 2 "check_share" 2 F_check_share) (c_servers_in_turn : CalF P w G.K mg base G 3 "servers_in_turn" 2 F_servers_in_turn) {f : Addr} {cdv : Value} {A : Around} {outer : List Env} {s : Shared} {H : Hp} {E : XK} (hr : Room 3 (A.deeper (PyProof.Rows.envOfC "in_turn" (defScope (st 46)) s.heap.objs.size f cdv))) : SB (cxOf (L2.CX P w) P w G.K mg base N_in_turn "in_turn" (defScope (st 46)) f cdv A outer s H E) G E (defBody (st 46)) fs_in_turn := by
  have M : Amb (cxOf (L2.CX P w) P w G.K mg base N_in_turn "in_turn" (defScope (st 46)) f cdv A outer s H E) G E := amb_of
  unfold fs_in_turn
  exact (b_cons (S_drop (s_call M hr c_check_share (s_cons (s_var 0) (s_cons (s_var 1) s_nil)))) (b_one (S_ret (s_call M hr c_servers_in_turn (s_cons (s_var 0) (s_cons (s_var 1) s_nil))))))
theorem c_in_turn (T : Fx G mg) (D : DF G.K mg "in_turn" (st 46)) (c_check_share : CalF P w G.K mg base G 2 "check_share" 2 F_check_share) (c_servers_in_turn : CalF P w G.K mg base G 3 "servers_in_turn" 2 F_servers_in_turn) : CalF P w G.K mg base G 4 "in_turn" 2 F_in_turn := by
  obtain ⟨f, fd, F, hm⟩ := D.ex
  exact ⟨⟨f, fd, ["capacities", "items"], fun l => fn_F F n_in_turn rfl rfl (fun l cdv A outer s H E hr => b_in_turn (G := G.wl l) T.wl c_check_share.wl c_servers_in_turn.wl hr) l, hm, F.kp, F.binds fun _ _ _ _ _ _ us hl => match us, hl with | [_, _], _ => rfl⟩, fun as h k x e => (fDef_len e).1⟩
/-! least_ratio -/
abbrev N_least_ratio : List Str := ["capacities", "items", "turns", "best", "server", "capacity"]
theorem n_least_ratio : FnScope N_least_ratio ["capacities", "items"] (defScope (st 47)) := ⟨rfl, rfl, rfl, by decide +kernel, rfl, by decide +kernel, by decide +kernel⟩
def fs_least_ratio : FS := (fSeq (fDrop (fCall F_check_share (fCons (fVar 0) (fCons (fVar 1) fNil)))) (fSeq (fSet 2 (fCall F_servers_in_turn (fCons (fVar 0) (fCons (fVar 1) fNil)))) (fSeq (fSet 3 (fTup (fCons (fC (.int 0)) (fCons (fC (.int 1)) fNil)))) (fSeq (fFor 25 (g2 4 5) (fIt isTp yEnu (fVar 0)) (fIte (fTest (fOpH (lift2 gGt) (fOpH (lift2 gMul) (fLm mCntL (fVar 2) (fCons (fVar 4) fNil)) (fOpH gIx (fVar 3) (fC (.int 1)))) (fOpH (lift2 gMul) (fOpH gIx (fVar 3) (fC (.int 0))) (fVar 5)))) (fSet 3 (fTup (fCons (fLm mCntL (fVar 2) (fCons (fVar 4) fNil)) (fCons (fVar 5) fNil)))) fSkip)) (fRet (fCallI F_lowest (fCons (fOpH gIx (fVar 3) (fC (.int 0))) (fCons (fOpH gIx (fVar 3) (fC (.int 1))) fNil))))))))
def F_least_ratio : FF := fDef 2 [none, none, none, none] fs_least_ratio
theorem b_least_ratio (T : Fx G mg) (c_check_share : CalF P w G.K mg base G 2 "check_share" 2 F_check_share) (c_servers_in_turn : CalF P w G.K mg base G 3 "servers_in_turn" 2 F_servers_in_turn) (c_lowest : CalF P w G.K mg base G 1 "lowest" 2 F_lowest) {f : Addr} {cdv : Value} {A : Around} {outer : List Env} {s : Shared} {H : Hp} {E : XK} (hr : Room 3 (A.deeper (PyProof.Rows.envOfC "least_ratio" (defScope (st 47)) s.heap.objs.size f cdv))) : SB (cxOf (L2.CX P w) P w G.K mg base N_least_ratio "least_ratio" (defScope (st 47)) f cdv A outer s H E) G E (defBody (st 47)) fs_least_ratio := by
  have M : Amb (cxOf (L2.CX P w) P w G.K mg base N_least_ratio "least_ratio" (defScope (st 47)) f cdv A outer s H E) G E := amb_of
  unfold fs_least_ratio
  exact (b_cons (S_drop (s_call M hr c_check_share (s_cons (s_var 0) (s_cons (s_var 1) s_nil)))) (b_cons (S_set n_least_ratio.nd (s_call M hr c_servers_in_turn (s_cons (s_var 0) (s_cons (s_var 1) s_nil))) (i := 2)) (b_cons (S_set n_least_ratio.nd (s_tup (s_cons s_int (s_cons s_int s_nil))) (i := 3)) (b_cons (S_for 25 M (i_enumT M T.enumerate (s_var 0)) (pg_tup M.calm (pgs_cons (pg_name (i := 4) n_least_ratio.nd rfl (Or.inl rfl)) (pgs_cons (pg_name (i := 5) n_least_ratio.nd rfl (Or.inl rfl)) pgs_nil))) (tg2 4 5) (b_one (S_if (t_cmp c_gt (s_mul (s_lm M.K PySem.F.slot_list_count PySem.F.type_list_count mt_lcount (s_var 2) (s_cons (s_var 4) s_nil) m_lcnt') (s_ix M.K (s_var 3) s_int)) (s_mul (s_ix M.K (s_var 3) s_int) (s_var 5))) (b_one (S_set n_least_ratio.nd (s_tup (s_cons (s_lm M.K PySem.F.slot_list_count PySem.F.type_list_count mt_lcount (s_var 2) (s_cons (s_var 4) s_nil) m_lcnt') (s_cons (s_var 5) s_nil))) (i := 3))) b_nil))) (b_one (S_ret (s_callI M hr c_lowest (s_cons (s_ix M.K (s_var 3) s_int) (s_cons (s_ix M.K (s_var 3) s_int) s_nil)))))))))
theorem c_least_ratio (T : Fx G mg) (D : DF G.K mg "least_ratio" (st 47)) (c_check_share : CalF P w G.K mg base G 2 "check_share" 2 F_check_share) (c_servers_in_turn : CalF P w G.K mg base G 3 "servers_in_turn" 2 F_servers_in_turn) (c_lowest : CalF P w G.K mg base G 1 "lowest" 2 F_lowest) : CalF P w G.K mg base G 4 "least_ratio" 2 F_least_ratio := by
  obtain ⟨f, fd, F, hm⟩ := D.ex
  exact ⟨⟨f, fd, ["capacities", "items"], fun l => fn_F F n_least_ratio rfl rfl (fun l cdv A outer s H E hr => b_least_ratio (G := G.wl l) T.wl c_check_share.wl c_servers_in_turn.wl c_lowest.wl hr) l, hm, F.kp, F.binds fun _ _ _ _ _ _ us hl => match us, hl with | [_, _], _ => rfl⟩, fun as h k x e => (fDef_len e).1⟩
/-! count_shares -/
abbrev N_count_shares : List Str := ["capacities", "items", "turns", "last", "rows", "nexts", "equal", "server", "capacity", "row"]
theorem n_count_shares : FnScope N_count_shares ["capacities", "items"] (defScope (st 48)) := ⟨rfl, rfl, rfl, by decide +kernel, rfl, by decide +kernel, by decide +kernel⟩
def fs_count_shares : FS := (fSeq (fDrop (fCall F_check_share (fCons (fVar 0) (fCons (fVar 1) fNil)))) (fSeq (fIte (fTest (fOpH (lift2 gEq) (fVar 1) (fC (.int 0)))) (fRet (fC (.int 1))) fSkip) (fSeq (fSet 2 (fCall F_servers_in_turn (fCons (fVar 0) (fCons (fVar 1) fNil)))) (fSeq (fSet 3 (fTup (fCons (fLm mCntL (fVar 2) (fCons (fOpH gIx (fVar 2) (fUn gNeg (fC (.int 1)))) fNil)) (fCons (fOpH gIx (fVar 0) (fOpH gIx (fVar 2) (fUn gNeg (fC (.int 1))))) fNil)))) (fSeq (fSet 4 (fLc 25 [7, 8] (g2 7 8) (fIt isTp yEnu (fVar 0)) fTrue (fOpH (lift2 gSub) (fOpH (lift2 gMul) (fLm mCntL (fVar 2) (fCons (fVar 7) fNil)) (fOpH gIx (fVar 3) (fC (.int 1)))) (fOpH (lift2 gMul) (fOpH gIx (fVar 3) (fC (.int 0))) (fVar 8))))) (fSeq (fSet 5 (fLc 25 [7, 8] (g2 7 8) (fIt isTp yEnu (fVar 0)) fTrue (fOpH (lift2 gSub) (fOpH (lift2 gMul) (fOpH (lift2 gAdd) (fLm mCntL (fVar 2) (fCons (fVar 7) fNil)) (fC (.int 1))) (fOpH gIx (fVar 3) (fC (.int 1)))) (fOpH (lift2 gMul) (fOpH gIx (fVar 3) (fC (.int 0))) (fVar 8))))) (fSeq (fSet 6 (fBlt (one bLen) (fCons (fLc 25 [9] (g1 9) (fIt isLst yOne (fVar 4)) (fTest (fOpH (lift2 gEq) (fVar 9) (fC (.int 0)))) (fVar 9)) fNil))) (fRet (fCallI F_choose (fCons (fOpH (lift2 gAdd) (fVar 6) (fBlt (one bLen) (fCons (fLc 25 [9] (g1 9) (fIt isLst yOne (fVar 5)) (fTest (fOpH (lift2 gEq) (fVar 9) (fC (.int 0)))) (fVar 9)) fNil))) (fCons (fVar 6) fNil)))))))))))
def F_count_shares : FF := fDef 2 [none, none, none, none, none, none, none, none] fs_count_shares
theorem b_count_shares (T : Fx G mg) (c_check_share : CalF P w G.K mg base G 2 "check_share" 2 F_check_share) (c_servers_in_turn : CalF P w G.K mg base G 3 "servers_in_turn" 2 F_servers_in_turn) (c_choose : CalF P w G.K mg base G 1 "choose" 2 F_choose) {f : Addr} {cdv : Value} {A : Around} {outer : List Env} {s : Shared} {H : Hp} {E : XK} (hr : Room 3 (A.deeper (PyProof.Rows.envOfC "count_shares" (defScope (st 48)) s.heap.objs.size f cdv))) : SB (cxOf (L2.CX P w) P w G.K mg base N_count_shares "count_shares" (defScope (st 48)) f cdv A outer s H E) G E (defBody (st 48)) fs_count_shares := by
  have M : Amb (cxOf (L2.CX P w) P w G.K mg base N_count_shares "count_shares" (defScope (st 48)) f cdv A outer s H E) G E := amb_of
  unfold fs_count_shares
  exact (b_cons (S_drop (s_call M hr c_check_share (s_cons (s_var 0) (s_cons (s_var 1) s_nil)))) (b_cons (S_if (t_cmp c_eq (s_var 1) s_int) (b_one (S_ret s_int)) b_nil) (b_cons (S_set n_count_shares.nd (s_call M hr c_servers_in_turn (s_cons (s_var 0) (s_cons (s_var 1) s_nil))) (i := 2)) (b_cons (S_set n_count_shares.nd (s_tup (s_cons (s_lm M.K PySem.F.slot_list_count PySem.F.type_list_count mt_lcount (s_var 2) (s_cons (s_ix M.K (s_var 2) (s_neg s_int)) s_nil) m_lcnt') (s_cons (s_ix M.K (s_var 0) (s_ix M.K (s_var 2) (s_neg s_int))) s_nil))) (i := 3)) (b_cons (S_setLc 25 M n_count_shares.nd (i_enumT M T.enumerate (s_var 0)) (tg2 7 8) (show blkC N_count_shares (defScope (st 48)) _ [("server", 7), ("capacity", 8)] = true by decide +kernel) (fun _ _ _ _ _ => (pg_tup M.calm (pgs_cons (pg_name (i := 7) n_count_shares.nd rfl (Or.inl rfl)) (pgs_cons (pg_name (i := 8) n_count_shares.nd rfl (Or.inl rfl)) pgs_nil)))) (fun _ _ _ _ _ => (s_sub (s_mul (s_lm M.blk.K PySem.F.slot_list_count PySem.F.type_list_count mt_lcount (s_var 2) (s_cons (s_var 7) s_nil) m_lcnt') (s_ix M.blk.K (s_var 3) s_int)) (s_mul (s_ix M.blk.K (s_var 3) s_int) (s_var 8)))) (sw_true rfl rfl rfl (by decide +kernel))) (b_cons (S_setLc 25 M n_count_shares.nd (i_enumT M T.enumerate (s_var 0)) (tg2 7 8) (show blkC N_count_shares (defScope (st 48)) _ [("server", 7), ("capacity", 8)] = true by decide +kernel) (fun _ _ _ _ _ => (pg_tup M.calm (pgs_cons (pg_name (i := 7) n_count_shares.nd rfl (Or.inl rfl)) (pgs_cons (pg_name (i := 8) n_count_shares.nd rfl (Or.inl rfl)) pgs_nil)))) (fun _ _ _ _ _ => (s_sub (s_mul (s_add (s_lm M.blk.K PySem.F.slot_list_count PySem.F.type_list_count mt_lcount (s_var 2) (s_cons (s_var 7) s_nil) m_lcnt') s_int) (s_ix M.blk.K (s_var 3) s_int)) (s_mul (s_ix M.blk.K (s_var 3) s_int) (s_var 8)))) (sw_true rfl rfl rfl (by decide +kernel))) (b_cons (S_set n_count_shares.nd (s_len M T.len (s_lcIf 25 M n_count_shares.nd (i_list M.K (s_var 4) y_one) (tg1 9) (show blkC N_count_shares (defScope (st 48)) _ [("row", 9)] = true by decide +kernel) (fun _ _ _ _ _ => (pg_name (i := 9) n_count_shares.nd rfl (Or.inl rfl))) (fun _ _ _ _ _ => (t_cmp c_eq (s_var 9) s_int)) (fun _ _ _ _ _ => (s_var 9)))) (i := 6)) (b_one (S_ret (s_callI M hr c_choose (s_cons (s_add (s_var 6) (s_len M T.len (s_lcIf 25 M n_count_shares.nd (i_list M.K (s_var 5) y_one) (tg1 9) (show blkC N_count_shares (defScope (st 48)) _ [("row", 9)] = true by decide +kernel) (fun _ _ _ _ _ => (pg_name (i := 9) n_count_shares.nd rfl (Or.inl rfl))) (fun _ _ _ _ _ => (t_cmp c_eq (s_var 9) s_int)) (fun _ _ _ _ _ => (s_var 9))))) (s_cons (s_var 6) s_nil))))))))))))
theorem c_count_shares (T : Fx G mg) (D : DF G.K mg "count_shares" (st 48)) (c_check_share : CalF P w G.K mg base G 2 "check_share" 2 F_check_share) (c_servers_in_turn : CalF P w G.K mg base G 3 "servers_in_turn" 2 F_servers_in_turn) (c_choose : CalF P w G.K mg base G 1 "choose" 2 F_choose) : CalF P w G.K mg base G 4 "count_shares" 2 F_count_shares := by
  obtain ⟨f, fd, F, hm⟩ := D.ex
  exact ⟨⟨f, fd, ["capacities", "items"], fun l => fn_F F n_count_shares rfl rfl (fun l cdv A outer s H E hr => b_count_shares (G := G.wl l) T.wl c_check_share.wl c_servers_in_turn.wl c_choose.wl hr) l, hm, F.kp, F.binds fun _ _ _ _ _ _ us hl => match us, hl with | [_, _], _ => rfl⟩, fun as h k x e => (fDef_len e).1⟩
end
end AIx
namespace AIx
open PySem L2
section
variable {P : Program} {w : World} {mg : Str → Option Value} {base : Heap} {G : GE}
/-! _law_is_number -/
abbrev N__law_is_number : List Str := ["_law_thing", "_law_low", "_law_high"]
theorem n__law_is_number : FnScope N__law_is_number ["_law_thing", "_law_low", "_law_high"] (defScope (st 53)) := ⟨rfl, rfl, rfl, by decide +kernel, rfl, by decide +kernel, by decide +kernel⟩
def fs__law_is_number : FS := (fRet (fAndV (fUnH (bIs 0) (fVar 0)) (fAndV (fNotV (fUnH (bIs 1) (fVar 0))) (fChain gLe gLe (fVar 1) (fVar 0) (fVar 2)))))
def F__law_is_number : FF := fDef 3 [] fs__law_is_number
theorem b__law_is_number (T : Fx G mg)  {f : Addr} {cdv : Value} {A : Around} {outer : List Env} {s : Shared} {H : Hp} {E : XK} (hr : Room 0 (A.deeper (PyProof.Rows.envOfC "_law_is_number" (defScope (st 53)) s.heap.objs.size f cdv))) : SB (cxOf (L2.CX P w) P w G.K mg base N__law_is_number "_law_is_number" (defScope (st 53)) f cdv A outer s H E) G E (defBody (st 53)) fs__law_is_number := by
  have M : Amb (cxOf (L2.CX P w) P w G.K mg base N__law_is_number "_law_is_number" (defScope (st 53)) f cdv A outer s H E) G E := amb_of
  unfold fs__law_is_number
  exact (b_one (S_ret (s_and (s_isTy 0 (.inl rfl) M.K T.isinstance T.int (by decide +kernel) (s_var 0)) (s_and (s_not (s_isTy 1 (.inr (.inl rfl)) M.K T.isinstance T.bool (by decide +kernel) (s_var 0))) (s_one (s_chain x_le x_le (s_var 1) (s_var 0) (s_var 2)))))))
theorem c__law_is_number (T : Fx G mg) (D : DF G.K mg "_law_is_number" (st 53))  : CalF P w G.K mg base G 1 "_law_is_number" 3 F__law_is_number := by
  obtain ⟨f, fd, F, hm⟩ := D.ex
  exact ⟨⟨f, fd, ["_law_thing", "_law_low", "_law_high"], fun l => fn_F F n__law_is_number rfl rfl (fun l cdv A outer s H E hr => b__law_is_number (G := G.wl l) T.wl  hr) l, hm, F.kp, F.binds fun _ _ _ _ _ _ us hl => match us, hl with | [_, _, _], _ => rfl⟩, fun as h k x e => (fDef_len e).1⟩
/-! _law_first -/
abbrev N__law_first : List Str := ["_law_words", "_law_some", "_law_word_here"]
theorem n__law_first : FnScope N__law_first ["_law_words"] (defScope (st 55)) := ⟨rfl, rfl, rfl, by decide +kernel, rfl, by decide +kernel, by decide +kernel⟩
def fs__law_first : FS := (fSeq (fSet 1 (fLc 25 [2] (g1 2) (fIt isLst yOne (fVar 0)) (fTest (fOpH (lift2 gNe) (fVar 2) (fC (.str 0)))) (fVar 2))) (fRet (fIf (fTest (fOpH (gNil not) (fVar 1) (fLst fNil))) (fOpH gIx (fVar 1) (fC (.int 0))) (fC (.str 0)))))
def F__law_first : FF := fDef 1 [none, none] fs__law_first
theorem b__law_first (T : Fx G mg)  {f : Addr} {cdv : Value} {A : Around} {outer : List Env} {s : Shared} {H : Hp} {E : XK} (hr : Room 0 (A.deeper (PyProof.Rows.envOfC "_law_first" (defScope (st 55)) s.heap.objs.size f cdv))) : SB (cxOf (L2.CX P w) P w G.K mg base N__law_first "_law_first" (defScope (st 55)) f cdv A outer s H E) G E (defBody (st 55)) fs__law_first := by
  have M : Amb (cxOf (L2.CX P w) P w G.K mg base N__law_first "_law_first" (defScope (st 55)) f cdv A outer s H E) G E := amb_of
  unfold fs__law_first
  exact (b_cons (S_setLcIf 25 M n__law_first.nd (i_list M.K (s_var 0) y_one) (tg1 2) (show blkC N__law_first (defScope (st 55)) _ [("_law_word_here", 2)] = true by decide +kernel) (fun _ _ _ _ _ => (pg_name (i := 2) n__law_first.nd rfl (Or.inl rfl))) (fun _ _ _ _ _ => (t_cmp c_ne (s_var 2) (s_str 0))) (fun _ _ _ _ _ => (s_var 2)) (sw_true rfl rfl rfl (by decide +kernel))) (b_one (S_ret (s_if (t_cmp (c_neN M.K hr.units) (s_var 1) (s_lst s_nil)) (s_ix M.K (s_var 1) s_int) (s_str 0)))))
theorem c__law_first (T : Fx G mg) (D : DF G.K mg "_law_first" (st 55))  : CalF P w G.K mg base G 1 "_law_first" 1 F__law_first := by
  obtain ⟨f, fd, F, hm⟩ := D.ex
  exact ⟨⟨f, fd, ["_law_words"], fun l => fn_F F n__law_first rfl rfl (fun l cdv A outer s H E hr => b__law_first (G := G.wl l) T.wl  hr) l, hm, F.kp, F.binds fun _ _ _ _ _ _ us hl => match us, hl with | [_], _ => rfl⟩, fun as h k x e => (fDef_len e).1⟩
/-! _law_no -/
abbrev N__law_no : List Str := ["_law_is_good", "_law_word_here"]
theorem n__law_no : FnScope N__law_no ["_law_is_good", "_law_word_here"] (defScope (st 56)) := ⟨rfl, rfl, rfl, by decide +kernel, rfl, by decide +kernel, by decide +kernel⟩
def fs__law_no : FS := (fRet (fIf (fTest (fVar 0)) (fC (.str 0)) (fVar 1)))
def F__law_no : FF := fDef 2 [] fs__law_no
theorem b__law_no (T : Fx G mg)  {f : Addr} {cdv : Value} {A : Around} {outer : List Env} {s : Shared} {H : Hp} {E : XK} (hr : Room 0 (A.deeper (PyProof.Rows.envOfC "_law_no" (defScope (st 56)) s.heap.objs.size f cdv))) : SB (cxOf (L2.CX P w) P w G.K mg base N__law_no "_law_no" (defScope (st 56)) f cdv A outer s H E) G E (defBody (st 56)) fs__law_no := by
  have M : Amb (cxOf (L2.CX P w) P w G.K mg base N__law_no "_law_no" (defScope (st 56)) f cdv A outer s H E) G E := amb_of
  unfold fs__law_no
  exact (b_one (S_ret (s_if (s_val (s_var 0)) (s_str 0) (s_var 1))))
theorem c__law_no (T : Fx G mg) (D : DF G.K mg "_law_no" (st 56))  : CalF P w G.K mg base G 1 "_law_no" 2 F__law_no := by
  obtain ⟨f, fd, F, hm⟩ := D.ex
  exact ⟨⟨f, fd, ["_law_is_good", "_law_word_here"], fun l => fn_F F n__law_no rfl rfl (fun l cdv A outer s H E hr => b__law_no (G := G.wl l) T.wl  hr) l, hm, F.kp, F.binds fun _ _ _ _ _ _ us hl => match us, hl with | [_, _], _ => rfl⟩, fun as h k x e => (fDef_len e).1⟩
/-! _law_is_tuple -/
abbrev N__law_is_tuple : List Str := ["_law_thing", "_law_least", "_law_most", "_law_low", "_law_high", "_law_one"]
theorem n__law_is_tuple : FnScope N__law_is_tuple ["_law_thing", "_law_least", "_law_most", "_law_low", "_law_high"] (defScope (st 57)) := ⟨rfl, rfl, rfl, by decide +kernel, rfl, by decide +kernel, by decide +kernel⟩
def fs__law_is_tuple : FS := (fSeq (fIte (fOrT (fNotT (fTest (fUnH (bIs 5) (fVar 0)))) (fNotT (fTest (fChain gLe gLe (fVar 1) (fBlt (one bLen) (fCons (fVar 0) fNil)) (fVar 2))))) (fRet (fC (.bl false))) fSkip) (fRet (fBlt (one bAllL) (fCons (fLc 25 [5] (g1 5) (fIt isTp yOne (fVar 0)) fTrue (fCall F__law_is_number (fCons (fVar 5) (fCons (fVar 3) (fCons (fVar 4) fNil))))) fNil))))
def F__law_is_tuple : FF := fDef 5 [none] fs__law_is_tuple
theorem b__law_is_tuple (T : Fx G mg) (c__law_is_number : CalF P w G.K mg base G 1 "_law_is_number" 3 F__law_is_number) {f : Addr} {cdv : Value} {A : Around} {outer : List Env} {s : Shared} {H : Hp} {E : XK} (hr : Room 1 (A.deeper (PyProof.Rows.envOfC "_law_is_tuple" (defScope (st 57)) s.heap.objs.size f cdv))) : SB (cxOf (L2.CX P w) P w G.K mg base N__law_is_tuple "_law_is_tuple" (defScope (st 57)) f cdv A outer s H E) G E (defBody (st 57)) fs__law_is_tuple := by
  have M : Amb (cxOf (L2.CX P w) P w G.K mg base N__law_is_tuple "_law_is_tuple" (defScope (st 57)) f cdv A outer s H E) G E := amb_of
  unfold fs__law_is_tuple
  exact (b_cons (S_if (t_w (w_or (t_not (s_val (s_isTy 5 (.inr (.inr rfl)) M.K T.isinstance T.tuple (by decide +kernel) (s_var 0)))) (w_or1 (t_not (t_chain x_le x_le (s_var 1) (s_len M T.len (s_var 0)) (s_var 2)))))) (b_one (S_ret s_bl)) b_nil) (b_one (S_ret (s_all M T.all (s_lc 25 M n__law_is_tuple.nd (i_tup M.K (s_var 0) y_one) (tg1 5) (show blkC N__law_is_tuple (defScope (st 57)) _ [("_law_one", 5)] = true by decide +kernel) (fun _ _ _ _ _ => (pg_name (i := 5) n__law_is_tuple.nd rfl (Or.inl rfl))) (fun _ _ _ _ _ => (s_call M.blk hr c__law_is_number (s_cons (s_var 5) (s_cons (s_var 3) (s_cons (s_var 4) s_nil))))))))))
theorem c__law_is_tuple (T : Fx G mg) (D : DF G.K mg "_law_is_tuple" (st 57)) (c__law_is_number : CalF P w G.K mg base G 1 "_law_is_number" 3 F__law_is_number) : CalF P w G.K mg base G 2 "_law_is_tuple" 5 F__law_is_tuple := by
  obtain ⟨f, fd, F, hm⟩ := D.ex
  exact ⟨⟨f, fd, ["_law_thing", "_law_least", "_law_most", "_law_low", "_law_high"], fun l => fn_F F n__law_is_tuple rfl rfl (fun l cdv A outer s H E hr => b__law_is_tuple (G := G.wl l) T.wl c__law_is_number.wl hr) l, hm, F.kp, F.binds fun _ _ _ _ _ _ us hl => match us, hl with | [_, _, _, _, _], _ => rfl⟩, fun as h k x e => (fDef_len e).1⟩
end
end AIx
namespace AIx
open PySem L2 NdefX
/-! ### lambda: .. -/
section
variable {G : GE} {ι : Nat → Addr} {h : AH} {H H' : Hp}
/-- all but the tables stays -/
theorem Stp.tbl (r : HRel G ι h H) (kp : ∀ b u, H b = some u → (∀ ps, u ≠ .tbl ps) → H' b = some u) (mo : ∀ a, H a ≠ none → H' a ≠ none) (tb : LamX.Tabs G.T H') : Stp G ι h H ι h H' := by
  refine ⟨Nat.le_refl _, fun _ _ => rfl, ⟨r.inj, fun n o e => ?_, ?_, tb⟩, fun a u e _ t => kp a u e t, fun n a b => absurd b (Nat.not_lt.mpr a), mo, fun a u e m => kp a u e fun ps z => by rw [z] at m; exact m⟩
  · have q := r.obj n o e
    cases o with
    | lst xs => obtain ⟨cs, e1, q1⟩ := q; exact ⟨cs, kp _ _ e1 (fun _ z => by cases z), q1⟩
    | tup xs => obtain ⟨cs, e1, q1⟩ := q; exact ⟨cs, kp _ _ e1 (fun _ z => by cases z), q1⟩
    | ptup xs => obtain ⟨cs, o, e1, d, q1⟩ := q; exact ⟨cs, o, kp _ _ e1 (fun _ z => by cases z), d, q1⟩
    | ins c v => obtain ⟨dx, fs, e1, q1⟩ := q; exact ⟨dx, fs, kp _ _ e1 (fun _ z => by cases z), q1⟩
    | draw => obtain ⟨z, e1⟩ := q; exact ⟨z, kp _ _ e1 (fun _ z => by cases z)⟩
    | lam j => obtain ⟨D, c', e1, e2, e3⟩ := q; exact ⟨D, c', e1, kp _ _ e2 lamO_ne, kp _ _ e3 (fun _ z => by unfold LamX.CodeO at z; cases z)⟩
    | gone => exact mo _ q
  · rcases r.scr with t | ⟨o, t⟩ | t
    · exact .inl ⟨kp _ _ t.1 (fun _ z => by cases z), t.2⟩
    · exact .inr (.inl ⟨o, kp _ _ t (fun _ z => by cases z)⟩)
    · exact .inr (.inr t)
end
def fLam (j : Nat) : FE := fun _ h k _ => newK (.lam j) h k
/-- where the maker's code object and its table lie -/
structure LamT (X : Cx) (G : GE) (c Pt : Addr) : Prop where
  tb : LamX.TabB X.base X.mg c Pt
  code : X.env.code = .ref c
  mem : (Pt, X.env.qual ++ "<lambda>") ∈ G.T
  uni : ∀ p ∈ G.T, p.1 = Pt → p.2 = X.env.qual ++ "<lambda>"
abbrev lamD (X : Cx) (params : Arguments) (body : Expr) (scope : Scope) : LamD := ⟨X.env.qual ++ "<lambda>", params, body, scope, cloFrom X.env.cells scope.names []⟩
section
variable {X : Cx} {G : GE} {E : XK} {c Pt : Addr} {params : Arguments} {body : Expr} {scope : Scope} {pos : Pos}
theorem lam_new {pins : List (Addr × Obj)} {σ : L2.St} {H : Hp} {s : Shared} {ι : Nat → Addr} {h : AH} {j : Nat} {D : LamD} {Q : VK} {k : KV} {ctv pm : Value} {c' : Addr} (I : Inv X pins σ H s) (r : HRel G ι h H) (hj : G.lam j = some D) (hc : H c' = some (LamX.CodeO c' D.q))
    (p : ∀ ι' h' H' w z, Stp G ι h H ι' h' H' → VRel ι' h'.length w z → k w h' = true → Q z H') (e : k (.ref h.length) (h ++ [.lam j]) = true) :
    EP X pins σ Q (.ref s.heap.objs.size) { s with heap := s.heap.push (PySem.W.kla_obj "<lambda>" D.q D.params D.body D.scope D.cl pm c' ctv) } := by
  have fr : H s.heap.objs.size = none := I.fresh
  have at_ : (s.heap.push (PySem.W.kla_obj "<lambda>" D.q D.params D.body D.scope D.cl pm c' ctv)).get? s.heap.objs.size = some (PySem.W.kla_obj "<lambda>" D.q D.params D.body D.scope D.cl pm c' ctv) := Heap.get?_push_size _ rfl
  have I2 := I.laid (t' := s.toks) (a := s.heap.objs.size) (o := LamO s.heap.objs.size D c') (fun b u q => Heap.get?_push_of_some (PySem.W.kla_obj "<lambda>" D.q D.params D.body D.scope D.cl pm c' ctv) q) (Nat.le_refl _)
    ⟨⟨pm, ctv, at_⟩, ⟨_, at_⟩, fun h1 h2 ⟨a, b, z⟩ st => ⟨a, b, st _ z⟩⟩
  have nc : c' ≠ s.heap.objs.size := ne_of_none hc fr
  have st := Stp.alloc (o := .lam j) (oc := LamO s.heap.objs.size D c') r fr ⟨D, c', hj, upd_same, by rw [upd_ne nc]; exact hc⟩
  exact ⟨.ref s.heap.objs.size, _, I2, rfl, p _ _ _ _ _ st VRel.new e⟩
theorem s_lam (j : Nat) (L : LamT X G c Pt) (hdef : defaultsOf params X.env = ([], []) := by rfl) (hfree : ∀ y ∈ scope.names, y.2 = .free → X.env.scope.names.lookup y.1 = some .cell ∨ X.env.scope.names.lookup y.1 = some .free) (hj : G.lam j = some (lamD X params body scope)) :
    SE X G E (.Lambda params body scope pos) (fLam j) := ⟨fun pins s σ H Q I h => by
  obtain ⟨ι, σa, ha, S, r, k, x, e, P⟩ := h
  have e : newK (.lam j) ha k = true := e
  rw [newK_eq] at e
  obtain ⟨ps, t1, t2, t3⟩ := r.tab _ L.mem
  have cells : ∀ y ∈ scope.names, y.2 = .free → ∃ c, X.env.cells.lookup y.1 = some c := fun y hy z => (hfree y hy z).elim (fun q => I.ok.has _ (.inl q)) fun q => I.ok.has _ (.inr q)
  have inB : s.heap.BuiltinsAt X.mg Pt := L.tb.bm.keeps I.bk
  have atP : s.heap.get? Pt = some { cls := .none, data := .fields ps } := I.hok Pt _ t1
  refine PySem.W.kla_eval hdef ?_; cases hm : codeAmong pos ps.toList with
  | some cv =>
    obtain ⟨c', rfl, hco⟩ := t3 pos cv hm
    refine PySem.W.kla_makeFunctionHit (closure_ok cells) I.ok.glob (I.mod.glob.keeps I.bk) L.code (L.tb.code.keeps I.bk) atP t2 hm inB fun ctv h' tk ext _ => ?_
    exact lam_new (D := lamD X params body scope) (s := { s with heap := h', toks := tk }) (I.kept ext) r hj hco P.ok e
  | none =>
    refine PySem.W.kla_makeFunction (closure_ok cells) I.ok.glob (I.mod.glob.keeps I.bk) L.code (L.tb.code.keeps I.bk) atP t2 hm L.tb.gP inB fun c' ctv h' tk ext ge lt cr tab => ?_
    obtain ⟨c0, oc, vs, t, q0, q1, q2, q3⟩ := cr
    cases q0
    have nw : H c' = none := I.hok.fresh ge
    have J := LamX.inv_table (t' := tk) (q := X.env.qual ++ "<lambda>") (more := #[rawInt pos.line, rawInt pos.col, .ref c']) I t1 (fun b o nb z => ext b o nb z) tab ge ⟨oc, vs, t, q1, q2, q3⟩
    have stay : ∀ b u, H b = some u → (∀ ps, u ≠ .tbl ps) → upd (upd H Pt (.tbl (ps ++ #[rawInt pos.line, rawInt pos.col, .ref c']))) c' (LamX.CodeO c' (X.env.qual ++ "<lambda>")) b = some u := fun b u z n => by
      rw [upd_ne (ne_of_none z nw), upd_ne fun y => by rw [y, t1] at z; exact n ps (Option.some.inj z).symm]
      exact z
    have more : ∀ a, H a ≠ none → upd (upd H Pt (.tbl (ps ++ #[rawInt pos.line, rawInt pos.col, .ref c']))) c' (LamX.CodeO c' (X.env.qual ++ "<lambda>")) a ≠ none := fun a z y => z (upd_none (upd_none y))
    have cdn : ∀ (a : Addr) (q : Str) (ps : Array Value), LamX.CodeO a q ≠ .tbl ps := fun a q ps z => by unfold LamX.CodeO at z; cases z
    have tabs : LamX.Tabs G.T (upd (upd H Pt (.tbl (ps ++ #[rawInt pos.line, rawInt pos.col, .ref c']))) c' (LamX.CodeO c' (X.env.qual ++ "<lambda>"))) := fun p hp => by
      by_cases pe : p.1 = Pt
      · rw [L.uni p hp pe, pe]
        have tl : (ps ++ #[rawInt pos.line, rawInt pos.col, .ref c']).toList = ps.toList ++ [rawInt pos.line, rawInt pos.col, .ref c'] := by simp
        refine ⟨_, (upd_ne (ne_of_none t1 nw)).trans upd_same, ?_, fun pos' cv z => ?_⟩
        · rw [tl]; exact PySem.TriplesOk_snoc _ _ _ _ t2
        · rw [tl] at z
          rcases LamX.among_app _ t2 z with z | z
          · obtain ⟨d, d1, d2⟩ := t3 pos' cv z
            exact ⟨d, d1, stay _ _ d2 (cdn _ _)⟩
          · exact ⟨c', z, upd_same⟩
      · obtain ⟨qs, d1, d2, d3⟩ := r.tab p hp
        refine ⟨qs, ?_, d2, fun pos' cv z => ?_⟩
        · rw [upd_ne (ne_of_none d1 nw), upd_ne pe]; exact d1
        · obtain ⟨d, y1, y2⟩ := d3 pos' cv z
          exact ⟨d, y1, stay _ _ y2 (cdn _ _)⟩
    have st := Stp.tbl r stay more tabs
    exact lam_new (D := lamD X params body scope) J st.rel hj upd_same (fun ι' h' H' w z s2 => P.ok ι' h' H' w z (st.trans s2)) e⟩
end
/-! ### a lambda runs -/
abbrev lamF (D : LamD) (c' : Addr) : NF := ⟨"<lambda>", D.q, D.params, [], D.scope, D.cl, c'⟩
theorem lam_run {P : Program} {w : World} {K : PySem.W.Frag} {mg : Str → Option Value} {base : Heap} {D : LamD} {f c' : Addr} {Nl fr : List Str} {p : Str} {ws : List (Option V)} {k : Nat} {A : Around} {outer : List Env} {s : Shared} {H : Hp} {Q : VK} {E : XK} {u : Value} {v : V} {t : TE} (S : NScope Nl [p] fr D.scope)
    (hb : ∀ (pm cv ctv u : Value), bindArgs (PySem.W.kla_fn "<lambda>" D.q D.params D.body D.scope D.cl pm cv ctv) ⟨[u], []⟩ = pure [(p, u)]) (hr : Room (k + 1) A) (e0 : Env0 P w K mg base A outer s H) (hf : H f = some (LamO f D c')) (hc : H c' = some (LamX.CodeO c' D.q)) (C : CellsAt D.cl fr ws s.heap H) (ru : RelV v u)
    (body : Room k (A.deeper (envF (lamF D c') f s.heap.objs.size)) → PE (ncx (L2.CX P w) P w K mg base Nl (lamF D c') f A outer s H E) D.body t) (q : t (startF Nl [v] ws) H Q) : codeAny (model P w) A (.call (.ref f) ⟨[u], []⟩) (CR (L2.CX P w) outer P w H s Q E) s := by
  obtain ⟨⟨pm, ctv, ob⟩, _, _⟩ := e0.hok f _ hf
  have lim : s.heap.NoLimit := e0.mod.nolimit.keeps fun b o e => (e0.bs b o e).1; refine PySem.W.kla_callFunE hr.depth ob rfl S.co S.gen rfl (codeO_at e0.hok hc) ?_
  rw [hb]
  refine wpAny_pure (wpAny_newFunctionEnv S.nocell (fun y hy => ?_) (fun h₁ ns sb => ⟨lim.fresh _ sb, ?_⟩) S.kind)
  · have : y = (p, u) := by simpa using hy
    rw [this]
    exact S.par p (by simp)
  · have kp : ∀ b o, s.heap.get? b = some o → h₁.get? b = some o := fun b o e => sb.extBut b o (Nat.ne_of_lt (Heap.lt_size e)) (Heap.get?_push_of_some _ e)
    have J : Inv (ncx (L2.CX P w) P w K mg base Nl (lamF D c') f A outer s H E) [] (startF Nl [v] ws) H { s with heap := h₁, toks := s.toks + ([(p, u)] : List (Str × Value)).length } :=
      inv_startN (F := lamF D c') (ps := [p]) (us := [u]) S hr.hd e0 rfl (.cons ru .nil) C ns kp
    refine PySem.W.kla_codeExpr (wpAny_mono ((body (hr.deeper _)).run [] _ _ H Q J q) (fun z s' hz => ?_) fun _ _ z => z)
    obtain ⟨zv, H', J', rz, qz⟩ := hz
    exact ⟨zv, H', J'.os, J'.bare, J'.base, J'.hok, rz, qz⟩
end AIx
namespace AIx
open PySem L2 NdefX
/-! ### what a lambda captured -/
theorem cells_un {cl : List (Str × Addr)} {fr : List Str} {ws : List (Option V)} {h h' : Heap} {H H' : Hp} {fs ex : List Addr} (C : CellsAt cl fr ws h H) (u : Un fs ex H H' h h') (nx : ∀ y c, cl.lookup y = some c → c ∉ ex) : CellsAt cl fr ws h' H' := by
  have go : ∀ y c, cl.lookup y = some c → ∀ v, h.IsCell c v → h'.IsCell c v := fun y c e v ⟨o, ho, hd⟩ => by
    obtain ⟨sl, z⟩ := u.any ho (C.all y c e).1 (nx y c e)
    exact ⟨_, z, hd⟩
  refine ⟨C.len, fun y c q => ?_, C.inj, fun j y q => ?_⟩
  · obtain ⟨n, v, z⟩ := C.all y c q
    exact ⟨let ⟨o, ho, _⟩ := z; u.free c o ho n (nx y c q), v, go y c q v z⟩
  · obtain ⟨c, hc, hv⟩ := C.has j y q
    exact ⟨c, hc, fun v ev => let ⟨u', r, z⟩ := hv v ev; ⟨u', r, go y c hc _ z⟩⟩
def capK (σ : AS) : List Nat → (AS → Bool) → Bool
  | [], k => k []
  | j :: js, k => capK σ js fun r => match getO σ j with | some o => k (o :: r) | none => k (none :: r)
def capA (σ : AS) (js : List Nat) : AS := js.map fun j => match σ[j]? with | some o => o | none => none
theorem capK_eq (σ : AS) : ∀ (js : List Nat) (k : AS → Bool), capK σ js k = k (capA σ js)
  | [], _ => rfl
  | j :: js, k => by
    rw [capK, capK_eq σ js]
    simp only [getO_eq]
    unfold capA
    rw [List.map_cons]
    split <;> (rename_i q; simp only [q])
theorem sr_cap {ι : Nat → Addr} {N : Nat} {σ : AS} {σc : St} (s : SRel ι N σ σc) (js : List Nat) (i : Nat) (v : AV) (e : (capA σ js)[i]? = some (some v)) : ∃ c, (js.map (slotAt σc))[i]? = some (some c) ∧ VRel ι N v c := by
  unfold capA at e
  rw [List.getElem?_map] at e
  cases ej : js[i]? with
  | none => rw [ej] at e; cases e
  | some j =>
    rw [ej] at e
    have e : (match σ[j]? with | some o => o | none => none) = some v := Option.some.inj e
    split at e
    · rename_i o q
      subst e
      obtain ⟨c, h1, h2⟩ := s.2 j v q
      exact ⟨c, by rw [List.getElem?_map, ej]; show some (slotAt σc j) = _; rw [slotAt_of h1], h2⟩
    · cases e
theorem sr_lam {ι : Nat → Addr} {N : Nat} {σ : AS} {σc : St} {Nl : List Str} {js : List Nat} (s : SRel ι N σ σc) (hl : Nl.length = js.length + 1) : SRel ι N (some (.int 0) :: capA σ js) (startF Nl [.int 0] (js.map (slotAt σc))) := by
  have e0 : startF Nl [.int 0] (js.map (slotAt σc)) = some (.int 0) :: js.map (slotAt σc) := by
    unfold startF
    rw [hl, List.length_map]
    simp
  rw [e0]
  refine ⟨by simp [capA], fun i v e => ?_⟩
  cases i with
  | zero => cases e; exact ⟨_, rfl, rfl⟩
  | succ i =>
    obtain ⟨c, h1, h2⟩ := sr_cap s js i v (by simpa using e)
    exact ⟨c, by simpa using h1, h2⟩
/-- a lambda of the text, its body's run -/
structure LamI (P : Program) (w : World) (mg : Str → Option Value) (base : Heap) (G : GE) (D : LamD) (Nl : List Str) (p : Str) (fr : List Str) (k : Nat) (fe : FE) : Prop where
  S : NScope Nl [p] fr D.scope
  bind : ∀ (pm cv ctv u : Value), bindArgs (PySem.W.kla_fn "<lambda>" D.q D.params D.body D.scope D.cl pm cv ctv) ⟨[u], []⟩ = pure [(p, u)]
  body : ∀ (A : Around) (outer : List Env) (s : Shared) (H : Hp) (E : XK) (f c' : Addr), Room k (A.deeper (envF (lamF D c') f s.heap.objs.size)) → SE (ncx (L2.CX P w) P w G.K mg base Nl (lamF D c') f A outer s H E) G E D.body fe
def lamB (js : List Nat) (fe : FE) : AS → AH → KV → KX → Bool := fun σ h k x => capK σ js fun ws => fe (some (.int 0) :: ws) h k x
section
variable {Z : Cx} {G : GE} {E : XK} {D : LamD} {Nl fr : List Str} {p : Str} {k j : Nat} {fe : FE} {js : List Nat} {f c' : Addr} {ι : Nat → Addr} {σ : AS} {h : AH} {H : Hp}
/-- a lambda called from Z, its cells known -/
theorem lam_call {pins : List (Addr × Obj)} {σz σm : L2.St} {sz : Shared} {Q : VK} {K : KV} {x : KX} {tk : Tok} (hZ : Z.K = G.K) (L : LamI Z.prog Z.w Z.mg Z.base G D Nl p fr k fe) (hx : PassesAt (L2.CX Z.prog Z.w) Z σz E) (hr : Room j Z.A) (hk : k + 1 ≤ j) (I : Inv Z pins σz H sz) (hf : H f = some (LamO f D c')) (hc : H c' = some (LamX.CodeO c' D.q))
    (C : CellsAt D.cl fr (js.map (slotAt σm)) sz.heap H) (hl : Nl.length = js.length + 1) (s : SRel ι h.length σ σm) (r : HRel G ι h H) (e : lamB js fe σ h K x = true) (P : Pst G VRel E ι h H K x Q) : wpAny (model Z.prog Z.w) Z.A (call (.ref f) [.int 0 tk]) (EP Z pins σz Q) Z.xe sz := by
  unfold lamB at e
  rw [capK_eq] at e
  have run := lam_run (t := rdE G E fe) (v := .int 0) (u := .int 0 tk) (Q := Q) (E := E) L.S L.bind (hr.mono hk) (by have := I.env0; rw [hZ] at this; exact this) hf hc C ⟨tk, rfl⟩ (fun hr' => L.body _ _ _ _ _ _ _ hr') ⟨ι, _, h, sr_lam s hl, r, K, x, e, P⟩
  refine wpAny_call (codeAny_mono run fun r s' hq => ?_)
  cases r with
  | error e => exact hx pins H sz e s' I hq
  | ok fl =>
    cases fl with
    | ret u => exact I.after hq
    | next => exact False.elim hq
    | brk => exact False.elim hq
    | cont => exact False.elim hq
end
end AIx
namespace AIx
open PySem L2 NdefX
/-! ### _law_word -/
structure WordF (G : GE) (mg : Str → Option Value) (g : Addr) : Prop where
  df : ∃ fd : FuncData, Fun G.K "_law_word" "_law_word" (st 54) g fd
  mgf : mg "_law_word" = some (.ref g)
  lot : ∃ CL : Addr, mg "LotError" = some (.ref CL)
  exm : ∀ c, c < 7 → ∀ d, d ≤ c → PySem.W.exmOne G.K (.ref (G.exc c)) (.ref (G.exc d)) = some (Nat.beq c d)
theorem n_word : FnScope ["_law_call"] ["_law_call"] (defScope (st 54)) := ⟨rfl, rfl, rfl, by decide +kernel, rfl, by decide +kernel, by decide +kernel⟩
abbrev tSay (z : Str) : Addr → Value → Option Addr → TS := fun _ _ _ D _ H => D.rt (.str z) H
abbrev wordL (G : GE) (CL : Addr) : List (Value × (Addr → Value → Option Addr → TS)) :=
  [(.ref (G.exc 0), tSay "rooms"), (.ref (G.exc 1), tSay "starts"), (.ref (G.exc 2), tSay "not possible"), (.ref (G.exc 3), tSay "index"), (.ref (G.exc 4), tSay "many"), (.ref (G.exc 5), tSay "servers"), (.ref (G.exc 6), tSay "capacities"), (.ref CL, tSay "other")]
section
variable {K : PySem.W.Frag} {Wo : WX} {D : Ends} {r : List (Value × (Addr → Value → Option Addr → TS))} {cls c : Value} {d : Option Addr} {σ : L2.St} {H : Hp} {z : Str}
theorem wm_hit (h : PySem.W.exmOne K cls c = some true) (q : D.rt (.str z) H) : wMany K Wo D ((c, tSay z) :: r) cls d σ H := ⟨true, h, fun _ _ _ => q, fun e => by cases e⟩
theorem wm_skip {ts : Addr → Value → Option Addr → TS} (h : PySem.W.exmOne K cls c = some false) (q : wMany K Wo D r cls d σ H) : wMany K Wo D ((c, ts) :: r) cls d σ H := ⟨false, h, (fun e => by cases e), fun _ => q⟩
end
theorem wm_word {G : GE} {mg : Str → Option Value} {g CL : Addr} (F : WordF G mg g) {Wo : WX} {D : Ends} {σ : L2.St} {H : Hp} : ∀ c, c < 7 → D.rt (.str (strT (c + 1))) H → wMany G.K Wo D (wordL G CL) (.ref (G.exc c)) none σ H
  | 0, _, q => wm_hit (F.exm 0 (by decide) 0 (by decide)) q
  | 1, _, q => wm_skip (F.exm 1 (by decide) 0 (by decide)) (wm_hit (F.exm 1 (by decide) 1 (by decide)) q)
  | 2, _, q => wm_skip (F.exm 2 (by decide) 0 (by decide)) (wm_skip (F.exm 2 (by decide) 1 (by decide)) (wm_hit (F.exm 2 (by decide) 2 (by decide)) q))
  | 3, _, q => wm_skip (F.exm 3 (by decide) 0 (by decide)) (wm_skip (F.exm 3 (by decide) 1 (by decide)) (wm_skip (F.exm 3 (by decide) 2 (by decide)) (wm_hit (F.exm 3 (by decide) 3 (by decide)) q)))
  | 4, _, q => wm_skip (F.exm 4 (by decide) 0 (by decide)) (wm_skip (F.exm 4 (by decide) 1 (by decide)) (wm_skip (F.exm 4 (by decide) 2 (by decide)) (wm_skip (F.exm 4 (by decide) 3 (by decide)) (wm_hit (F.exm 4 (by decide) 4 (by decide)) q))))
  | 5, _, q => wm_skip (F.exm 5 (by decide) 0 (by decide)) (wm_skip (F.exm 5 (by decide) 1 (by decide)) (wm_skip (F.exm 5 (by decide) 2 (by decide)) (wm_skip (F.exm 5 (by decide) 3 (by decide)) (wm_skip (F.exm 5 (by decide) 4 (by decide)) (wm_hit (F.exm 5 (by decide) 5 (by decide)) q)))))
  | 6, _, q => wm_skip (F.exm 6 (by decide) 0 (by decide)) (wm_skip (F.exm 6 (by decide) 1 (by decide)) (wm_skip (F.exm 6 (by decide) 2 (by decide)) (wm_skip (F.exm 6 (by decide) 3 (by decide)) (wm_skip (F.exm 6 (by decide) 4 (by decide)) (wm_skip (F.exm 6 (by decide) 5 (by decide)) (wm_hit (F.exm 6 (by decide) 6 (by decide)) q))))))
  | n + 7, h, _ => absurd h (by omega)
/-- a lambda with its run, as it is called at a state -/
structure LamC (P : Program) (w : World) (mg : Str → Option Value) (base : Heap) (G : GE) (kk : Nat) (D : LamD) (js : List Nat) (fe : FE) (σm : L2.St) (h : Heap) (H : Hp) : Prop where
  ex : ∃ Nl p fr k, LamI P w mg base G D Nl p fr k fe ∧ k + 1 ≤ kk ∧ Nl.length = js.length + 1 ∧ CellsAt D.cl fr (js.map (slotAt σm)) h H
/-- the call within try: as a rule of the context in which it stands -/
def tAct (G : GE) (f c' : Addr) (D : LamD) (js : List Nat) (fe : FE) (σm : L2.St) (W : WX) : TE := fun σ H Q => σ[0]? = some (some (.ref f)) ∧ H f = some (LamO f D c') ∧ H c' = some (LamX.CodeO c' D.q) ∧
  ∃ ι σa h K x, lamB js fe σa h K x = true ∧ SRel ι h.length σa σm ∧ HRel G ι h H ∧ Pst G VRel (WE W σ) ι h H K x Q
theorem pe_act {Z : Cx} {G : GE} {kk : Nat} {f c' : Addr} {D : LamD} {js : List Nat} {fe : FE} {σm : L2.St} {W : WX} {x : Str} {p1 p2 p3 : Pos} {j : Nat} (hZ : Z.K = G.K) (tk : Takes Z W) (hr : Room kk Z.A) (L : LamC Z.prog Z.w Z.mg Z.base G kk D js fe σm Z.s_0.heap Z.H_0) (hex : Z.ex = []) (hN : Z.N[0]? = some x) (hv : Vis Z.env.scope x)
    (hd : (x == ("__debug__" : Str)) = false := by decide) (hcd : (x == ("__classdict__" : Str)) = false := by decide) (hs : starEach [.Constant (.int 0) j p2] Z.env = (false, eval (.Constant (.int 0) j p2) Z.env) :: starEach [] Z.env := by rfl) : PE Z (.Call (.Name x p1) [.Constant (.int 0) j p2] [] p3) (tAct G f c' D js fe σm W) := by
  refine ⟨fun pins s σ H Q I h => ?_⟩; obtain ⟨h0, hf, hc, ι, σa, ha, K, x', e, S, r, P⟩ := h
  refine wpAny_Call_Name_kw (thn ((pe_var (pos := p1) (i := 0) hN hv hd hcd).run pins s σ H (fun v H1 => v = .ref f ∧ H1 = H) I ⟨.ref f, h0, rfl, rfl⟩) fun u s1 ⟨v, H1, I1, r1, e1, e2⟩ => ?_)
  subst e1 e2
  cases r1
  have fnAt : ∀ {s' : Shared}, Inv Z pins σ H1 s' → PySem.W.FnAt f s'.heap := fun I' => by
    obtain ⟨⟨pm, ctv, ob⟩, _, _⟩ := I'.hok f _ hf
    exact ⟨_, _, _, _, ob⟩
  refine PySem.W.callWith_F (first := []) (fnAt I1) (thn ((pa_cons (X := Z) pe_int pa_nil hs).run p3 pins s1 σ H1 (fun vs H2 => vs = [.int 0] ∧ H2 = H1) I1 ⟨rfl, rfl⟩) fun us s2 ⟨vs, H2, I2, r2, e3, e4⟩ => ?_) hs rfl
  subst e3 e4
  refine ⟨fnAt I2, ?_⟩
  obtain ⟨u, rfl, t, rfl⟩ := r2.one
  obtain ⟨Nl, p, fr, k, LI, hk, hl, C⟩ := L.ex
  exact lam_call hZ LI (passAt tk σ) hr hk I2 hf hc (cells_un C I2.base fun y c _ z => by rw [hex] at z; cases z) hl S r e P
/-- what a call of _law_word with a lambda gives -/
def wordK (js : List Nat) (fe : FE) (σ : AS) (h : AH) (k : KV) : Bool := nfN (lenN h) fun m => lamB js fe σ h (fun _ h' => truncK m h' (k (.str 0))) (fun c h' => match Nat.blt c 7 with | true => truncK m h' (k (.str (c + 1))) | false => false)
theorem word_run {P : Program} {w : World} {mg : Str → Option Value} {base : Heap} {G : GE} {g : Addr} (T : Fx G mg) (F : WordF G mg g) {A : Around} {outer : List Env} {s : Shared} {H : Hp} {Q : VK} {f c' : Addr} {D : LamD} {js : List Nat} {fe : FE} {σm : L2.St} {kk : Nat} {ι : Nat → Addr} {σa : AS} {h : AH} {k : KV} {E : XK} {x : KX}
    (hr : Room (kk + 1) A) (e0 : Env0 P w G.K mg base A outer s H) (L : LamC P w mg base G kk D js fe σm s.heap H) (hf : H f = some (LamO f D c')) (hc : H c' = some (LamX.CodeO c' D.q)) (S : SRel ι h.length σa σm) (r : HRel G ι h H) (e : wordK js fe σa h k = true) (Pk : Pst G VRel E ι h H k x Q) :
    codeAny (model P w) A (.call (.ref g) ⟨[.ref f], []⟩) (CR (L2.CX P w) outer P w H s Q EF) s := by
  obtain ⟨fd, F0⟩ := F.df
  obtain ⟨CL, hCL⟩ := F.lot
  obtain ⟨oc, od, kV, doc, pm, an, cdv, ct, osl, rfl, lk, hcd⟩ := F0.ex
  unfold wordK at e
  rw [nfN_eq, lenN_eq] at e
  refine LamX.run_ofS (N := ["_law_call"]) (ps := ["_law_call"]) (us := [.ref f]) (vs := [.ref f]) lk hcd n_word hr e0 (.of_eq rfl) (.cons rfl .nil) rfl fun hr' => ?_
  generalize hZ : cxOf (L2.CX P w) P w G.K mg base ["_law_call"] "_law_word" (defScope (st 54)) g cdv A outer s H EF = Z
  refine ⟨_, pss_one (ps_try_many (X := Z) (l := wordL G CL) (Wout := fun _ _ _ _ => False) (by rw [← hZ]; rfl) (by rw [← hZ]; rfl) takes0
    (fun W pn xe tk _ => pss_cons (ps_expr (pe_act (Z := Z.tr pn xe) (G := G) (kk := kk) (f := f) (c' := c') (D := D) (js := js) (fe := fe) (σm := σm) (by rw [← hZ]; rfl) tk (by rw [← hZ]; exact hr') (by rw [← hZ]; exact L) (by rw [← hZ]; rfl) (by rw [← hZ]; rfl) (by rw [← hZ]; exact .inl rfl)) (by rw [← hZ]; rfl)) (pss_one (ps_ret pe_str)))
    ?_), ?_⟩
  · subst hZ
    exact .cons ⟨rfl, rfl, .inl T.BadRooms.g⟩ (fun _ _ _ _ _ _ _ => pss_one (ps_ret pe_str)) (.cons ⟨rfl, rfl, .inl T.BadStarts.g⟩ (fun _ _ _ _ _ _ _ => pss_one (ps_ret pe_str)) (.cons ⟨rfl, rfl, .inl T.NotPossible.g⟩ (fun _ _ _ _ _ _ _ => pss_one (ps_ret pe_str))
      (.cons ⟨rfl, rfl, .inl T.BadIndex.g⟩ (fun _ _ _ _ _ _ _ => pss_one (ps_ret pe_str)) (.cons ⟨rfl, rfl, .inl T.BadMany.g⟩ (fun _ _ _ _ _ _ _ => pss_one (ps_ret pe_str)) (.cons ⟨rfl, rfl, .inl T.BadServers.g⟩ (fun _ _ _ _ _ _ _ => pss_one (ps_ret pe_str))
      (.cons ⟨rfl, rfl, .inl T.BadCapacities.g⟩ (fun _ _ _ _ _ _ _ => pss_one (ps_ret pe_str)) (.cons ⟨rfl, rfl, .inl hCL⟩ (fun _ _ _ _ _ _ _ => pss_one (ps_ret pe_str)) .nil)))))))
  · refine ⟨rfl, hf, hc, ι, σa, h, _, _, e, S, r, ⟨fun ι' h' H' a b st vr e' => ?_, fun ι' h' H' c st e' => ?_⟩⟩
    · rw [truncK_eq] at e'
      exact Pk.ok _ _ _ (.str 0) _ st.trunc rfl e'
    · split at e'
      · rename_i hb
        rw [truncK_eq] at e'
        have hZK : Z.K = G.K := by rw [← hZ]; rfl
        show wMany Z.K _ _ (wordL G CL) (.ref (G.exc c)) none _ H'
        rw [hZK]
        exact wm_word F c (blt_lt hb) (Pk.ok _ _ _ (.str (c + 1)) _ st.trunc rfl e')
      · cases e'
end AIx
namespace AIx
open PySem L2 NdefX
/-! ### _law_word(e) as an expression -/
abbrev LTab := Nat → Option (List Nat × FE)
def lamOf (h : AH) (v : AV) (k : Nat → Bool) : Bool := match v with | .ref n => (match getO h n with | some (.lam j) => k j | _ => false) | _ => false
theorem lamOf_ok {h : AH} {v : AV} {k : Nat → Bool} (e : lamOf h v k = true) : ∃ n j, v = .ref n ∧ h[n]? = some (.lam j) ∧ k j = true := by
  unfold lamOf at e
  split at e
  · rename_i n
    rw [getO_eq] at e
    split at e
    · rename_i j q; exact ⟨n, j, rfl, q, e⟩
    · cases e
  · cases e
def fWord (LT : LTab) (f : FE) : FE := fun σ h k x => f σ h (fun v h => lamOf h v fun j => match LT j with | some p => wordK p.1 p.2 σ h k | none => false) x
/-- what is known of the lambdas at each state of Y -/
def LamS (Y : Cx) (G : GE) (kk : Nat) (LT : LTab) (Cond : L2.St → Prop) : Prop := ∀ (pins : List (Addr × Obj)) (s : Shared) (σ : L2.St) (H : Hp), Inv Y pins σ H s → Cond σ → ∀ (j : Nat) (D : LamD) (js : List Nat) (fe : FE), LT j = some (js, fe) → G.lam j = some D → LamC Y.prog Y.w Y.mg Y.base G kk D js fe σ s.heap H
def tW (G : GE) (E : XK) (LT : LTab) (Cond : L2.St → Prop) (ta : TE) : TE := fun σ H Q => Cond σ ∧ ta σ H fun v H1 => ∃ (f c' : Addr) (j : Nat) (D : LamD) (js : List Nat) (fe : FE) (ι : Nat → Addr) (σa : AS) (h : AH) (k : KV) (x : KX), [v] = [V.ref f] ∧ H1 f = some (LamO f D c') ∧ H1 c' = some (LamX.CodeO c' D.q) ∧ G.lam j = some D ∧ LT j = some (js, fe) ∧
  SRel ι h.length σa σ ∧ HRel G ι h H1 ∧ wordK js fe σa h k = true ∧ Pst G VRel E ι h H1 k x Q
section
variable {Y : Cx} {G : GE} {E : XK} {LT : LTab} {Cond : L2.St → Prop} {kk j : Nat} {g : Addr} {e : Expr} {p pos : Pos} {ta : TE} {fe : FE}
theorem pe_word (hK : Y.K = G.K) (T : Fx G Y.mg) (F : WordF G Y.mg g) (L : LamS Y G kk LT Cond) (hr : Room j Y.A) (hk : kk + 1 ≤ j) (he : PE Y e ta) (hg : Gl Y "_law_word" := by rfl) (hs : starEach [e] Y.env = (false, eval e Y.env) :: starEach [] Y.env := by rfl) : PE Y (.Call (.Name "_law_word" p) [e] [] pos) (tW G E LT Cond ta) := by
  refine ⟨fun pins s σ H Q I h => ?_⟩; obtain ⟨hC, h⟩ := h
  obtain ⟨fd, F0⟩ := F.df
  refine wpAny_Call_Name_kw (ld_glob I hg F.mgf ?_ rfl)
  refine PySem.W.callWith_K (h₀ := Y.base) I.ok.mod.kin (by rw [hK]; exact F0.kp) (thn ((pa_cons (X := Y) he pa_nil hs).run pos pins s σ H (fun vs H1 => ∃ (f c' : Addr) (j : Nat) (D : LamD) (js : List Nat) (fe : FE) (ι : Nat → Addr) (σa : AS) (h : AH) (k : KV) (x : KX), vs = [V.ref f] ∧ H1 f = some (LamO f D c') ∧ H1 c' = some (LamX.CodeO c' D.q) ∧ G.lam j = some D ∧ LT j = some (js, fe) ∧
    SRel ι h.length σa σ ∧ HRel G ι h H1 ∧ wordK js fe σa h k = true ∧ Pst G VRel E ι h H1 k x Q) I h) fun us s1 ⟨vs, H1, I1, r1, q⟩ => ⟨I1.kIn, ?_⟩) hs rfl
  obtain ⟨f, c', i, D, js, fe, ι, σa, ha, k, x, rfl, hf, hc, hj, hL, S, r, e1, P⟩ := q
  obtain ⟨u, rfl, ru⟩ := r1.one
  cases ru
  have run := word_run T F (hr.mono hk) (by have := I1.env0; rw [hK] at this; exact this) (L pins s1 σ H1 I1 hC i D js fe hL hj) hf hc S r e1 P
  refine wpAny_call (codeAny_mono run fun r s' hq => ?_)
  cases r with
  | error e => exact passL pins σ H1 s1 e s' I1 hq
  | ok fl =>
    cases fl with
    | ret u => exact I1.after hq
    | next => exact False.elim hq
    | brk => exact False.elim hq
    | cont => exact False.elim hq
theorem word_imp {σc : L2.St} {H : Hp} {Q : VK} (hC : Cond σc) (h : rdE G E (fWord LT fe) σc H Q) : tW G E LT Cond (rdE G E fe) σc H Q := by
  obtain ⟨ι, σ, h, A⟩ := h
  refine ⟨hC, ι, σ, h, A.bind (f := fe) (g := fun v σ h k x => lamOf h v fun j => match LT j with | some p => wordK p.1 p.2 σ h k | none => false) fun ι1 h1 H1 v c s1 v1 A1 => ?_⟩
  obtain ⟨s, r, k, x, q, P⟩ := A1
  obtain ⟨n, j, rfl, hn, q⟩ := lamOf_ok q
  split at q
  · rename_i p hp
    obtain ⟨D, c', d1, d2, d3⟩ := r.obj n _ hn
    exact ⟨ι1 n, c', j, D, p.1, p.2, ι1, σ, h1, k, x, by rw [v1.2], d2, d3, d1, hp, s, r, q, P⟩
  · cases q
theorem s_word (hK : Y.K = G.K) (T : Fx G Y.mg) (F : WordF G Y.mg g) (L : LamS Y G kk LT fun _ => True) (hr : Room j Y.A) (hk : kk + 1 ≤ j) (he : SE Y G E e fe) (hg : Gl Y "_law_word" := by rfl) (hs : starEach [e] Y.env = (false, eval e Y.env) :: starEach [] Y.env := by rfl) : SE Y G E (.Call (.Name "_law_word" p) [e] [] pos) (fWord LT fe) :=
  PE.imp (pe_word (E := E) hK T F L hr hk he hg hs) fun σc H Q h => word_imp True.intro h
/-- under a condition on the names' values -/
abbrev SC (Y : Cx) (G : GE) (E : XK) (Cond : L2.St → Prop) (e : Expr) (f : FE) : Prop := PE Y e fun σ H Q => Cond σ ∧ rdE G E f σ H Q
theorem c_word (hK : Y.K = G.K) (T : Fx G Y.mg) (F : WordF G Y.mg g) (L : LamS Y G kk LT Cond) (hr : Room j Y.A) (hk : kk + 1 ≤ j) (he : SE Y G E e fe) (hg : Gl Y "_law_word" := by rfl) (hs : starEach [e] Y.env = (false, eval e Y.env) :: starEach [] Y.env := by rfl) : SC Y G E Cond (.Call (.Name "_law_word" p) [e] [] pos) (fWord LT fe) :=
  PE.imp (pe_word (E := E) hK T F L hr hk he hg hs) fun σc H Q h => word_imp h.1 h.2
theorem c_cmp {op : CmpOp} {gg : AV → AV → AH → KV → Bool} {a b : Expr} {fa fb : FE} (c : CmpR Y G op gg) (ha : SC Y G E Cond a fa) (hb : SE Y G E b fb) (hm : behindInMarks op b = false := by exact nomark _) : SC Y G E Cond (.Compare a [op] [b] pos) (fOpH gg fa fb) := by
  obtain ⟨r, h1, h2⟩ := c.ex
  exact PE.imp (pe_cmpR h1 ha hb hm) fun σc H Q h => ⟨h.1, opH_imp h2 h.2⟩
end
end AIx
namespace AIx
open PySem L2 NdefX
open PySem.Spec PyProof.Rows
/-! ### a comprehension whose item is known only in the block that starts here -/
section
variable {X : Cx} {G : GE} {E : XK} {tg iter elt : Expr} {scope : Scope} {own : List (Str × Nat)} {pos : Pos} {wi : TI} {g : TG} {te : TE}
theorem lcw_run {pins : List (Addr × Obj)} {s : Shared} {σ : L2.St} {H : Hp} {Q : VK} (calm : X.calm = true) (nd : X.N.Nodup) (I : Inv X pins σ H s) (src : PI X tg iter wi) (blk : BlkOk X.N X.env.scope scope own) (tgt : Blk X scope fun Y => PG Y tg g)
    (item : ∀ (t : Shared) (B : Hp) (fp : List Addr), Inv X pins σ B t → (∀ b ∈ fp, FpOk X pins B b ∧ b < t.heap.objs.size) → PE (X.blk t B scope (compEnvC scope (cellsFrom (t.heap.objs.size + 1) scope.names (cloFrom X.env.cells scope.names [])) t.heap.objs.size X.env) fp) elt te)
    (fold : ∀ x, foldedSetIterable iter X.env x = pure x) (w : tLc wi g tYes te (own.map (·.2)) σ H Q) : wpAny (model X.prog X.w) X.A (eval (.ListComp elt [⟨tg, iter, [], 0⟩] scope pos) X.env) (EP X pins σ Q) X.xe s := by
  rw [eval_ListComp]
  have capt : ∀ y ∈ scope.names, y.2 = .free → ∃ c, X.env.cells.lookup y.1 = some c := fun y hy z => (blk.free y hy z).elim (fun q => I.ok.has _ (.inl q)) fun q => I.ok.has _ (.inr q)
  refine wpAny_comprehension_free rfl fold (closure_ok capt) blk.kind (fun y hy z => by rw [blk.uniq y hy, z]) (thn (src.run pins s σ H _ I w) fun _ a1 w1 => thn w1 fun _ a2 w2 => ?_)
  rcases w2 with ⟨it, fp, tn, J, H2, rfl, I2, T, t2, ok2, w2⟩
  refine wpAny_newObj_type (newEnv_comp ?_) (by show 0 ≤ sizeLine; decide); have lateD := w2 a2.heap.objs.size I2.fresh
  have I3 : Inv X pins σ (upd H2 a2.heap.objs.size (.lst [])) { a2 with heap := a2.heap.push { cls := .type "list", data := .seq ([] : List Value).toArray } } := I2.lnew (its := []) (t' := a2.toks) .nil (Nat.zero_le _)
  have below : ∀ b ∈ fp, b < a2.heap.objs.size := fun b hb => let ⟨o, z, _⟩ := T.obj _ _ t2 b hb; Heap.lt_size z
  have ok3 : ∀ b ∈ fp, FpOk X pins (upd H2 a2.heap.objs.size (.lst [])) b ∧ b < (a2.heap.push { cls := .type "list", data := .seq ([] : List Value).toArray }).objs.size := fun b hb => by
    have lt := below b hb
    exact ⟨⟨by rw [upd_ne (Nat.ne_of_lt lt)]; exact (ok2 b hb).1, (ok2 b hb).2⟩, by rw [Heap.size_push]; exact Nat.lt_succ_of_lt lt⟩
  have t3 : tn 0 (a2.heap.push { cls := .type "list", data := .seq ([] : List Value).toArray }) := T.keep _ _ _ t2 fun b _ o z => Heap.get?_push_of_some _ z
  generalize a2.heap.objs.size = D at lateD I3 ok3 ⊢
  obtain ⟨W, ⟨n0, W0⟩, go⟩ := lateD
  generalize upd H2 D (.lst []) = B at I3 ok3 W0
  generalize eb : ({ a2 with heap := a2.heap.push { cls := .type "list", data := .seq ([] : List Value).toArray } } : Shared) = b3 at I3 ⊢
  have hb3 : b3.heap = a2.heap.push { cls := .type "list", data := .seq ([] : List Value).toArray } := by rw [← eb]
  rw [← hb3] at ok3 t3
  have I4 := block_start I3 blk nd ok3
  have runE := item b3 B fp I3 ok3
  have runG := tgt b3 B b3.heap.objs.size (cellsFrom (b3.heap.objs.size + 1) scope.names (cloFrom X.env.cells scope.names [])) fp
  generalize ev : compEnvC scope (cellsFrom (b3.heap.objs.size + 1) scope.names (cloFrom X.env.cells scope.names [])) b3.heap.objs.size X.env = ce at I4 runE runG
  have loc : ce.locals = b3.heap.objs.size := by rw [← ev]; rfl
  generalize e4 : ({ b3 with heap := pushCells (b3.heap.push { cls := .type "dict", data := .dict #[] }) scope.names } : Shared) = b4 at I4
  have t4 : tn 0 b4.heap := T.keep _ _ _ t3 fun b _ o z => by rw [← e4]; exact pushCells_keeps _ _ _ _ (Heap.get?_push_of_some _ z)
  have ours : ∀ {σ' : L2.St} {H' : Hp} {s' : Shared}, Inv (X.blk b3 B scope ce fp) [] σ' H' s' → (∀ b ∈ fp, H' b = none) → ∀ b ∈ fp, FpOk (X.blk b3 B scope ce fp) [] H' b := fun I' n b hb =>
    ⟨n b hb, (I'.ok.exf b hb).1, I'.ok.exfs b hb, .inl hb, fun x c z => (I'.ok.exf b hb).2 x c z, fun p hp => by cases (show p ∈ ([] : List (Addr × Obj)) from hp)⟩
  have whole : codeAny (model X.prog X.w) X.A (.compLoop (.ListComp elt [⟨tg, iter, [], 0⟩] scope pos) 0 (.ref it) (.ref D) ce) (compPost (model X.prog X.w) X.A X.xe none (EP X pins σ Q) (.ref D) b3.heap.objs.size) b4 := by
    refine compLoop_any (fun n s' => ∃ i H', Inv (X.blk b3 B scope ce fp) [] (L2.wipe σ (own.map (·.2))) H' s' ∧ tn i s'.heap ∧ (∀ b ∈ fp, H' b = none) ∧ W i n H') ?_ n0 ⟨0, B, I4, t4, fun b hb => (ok3 b hb).1.1, W0⟩
    intro n s5 hn
    obtain ⟨i, H5, I5, t5, f5, W5⟩ := hn
    rcases go i n H5 W5 with ⟨halt, fin⟩ | ⟨on, N, back, turn⟩
    · refine thnF (T.done (X.blk b3 B scope ce fp) rfl rfl rfl calm i [] s5 _ H5 (fun _ _ => False) I5 (ours I5 f5) t5 halt) fun r s6 hr => ?_
      obtain ⟨rfl, I6⟩ := hr
      have home : Inv X pins σ H5 s6 := I3.call' (ch := fp) I6.os I6.base I6.hok I6.bare fun b hb => ⟨(ok3 b hb).1.2.2.2.1, (ok3 b hb).1.2.1, (ok3 b hb).1.2.2.2.2.1, (ok3 b hb).1.2.2.2.2.2⟩
      obtain ⟨m, ns, _⟩ := I6.loc
      have fr : H5 b3.heap.objs.size = none := by rw [← loc]; exact I6.free
      obtain ⟨g0, g1, g2, g3, g4, g5⟩ := I3.fpOk (Nat.le_refl _) fr
      refine ⟨m, by rw [← loc]; exact ns, fun h'' sb => ⟨.ref D, H5, home.turned (t' := s6.toks) (fun b o hb z => (sb.2 b hb).trans z) g0 g1 g3 g4 g5, rfl, fin⟩⟩
    · refine thnF (T.item (X.blk b3 B scope ce fp) rfl rfl rfl calm i [] s5 _ H5 (fun _ _ => False) I5 (ours I5 f5) t5 on) fun r s6 hr => ?_
      obtain ⟨u, rfl, h6⟩ := hr
      refine thnF h6 fun _ s7 h7 => ?_
      obtain ⟨x, H7, I7, rx, y7, t7, f7⟩ := h7
      refine thnF (runG.run _ s7 _ H7 x u _ (I7.pinned (ours I7 f7) (T.obj _ _ t7)) rx (turn x H7 y7)) fun _ s8 h8 => ?_
      obtain ⟨σ8, H8, I8, same, q8⟩ := h8
      unfold tYes at q8
      simp only [if_true] at q8
      refine wpAny_tests_nil ?_
      simp only [if_true]
      refine thnF (runE.run _ s8 σ8 H8 _ I8 q8) fun z s9 h9 => ?_
      obtain ⟨yv, H9, I9, rz, acc, atD, room, nx⟩ := h9
      refine app_ok (X := X.blk b3 B scope ce fp) I9 atD room rz fun s10 I10 => ?_
      obtain ⟨m, lt, Wm⟩ := back _ nx
      have held : ∀ b ∈ fp, ∀ o, s7.heap.get? b = some o → s10.heap.get? b = some o ∧ (upd H9 D (.lst (acc ++ [yv]))) b = none := fun b hb o z =>
        let q := I10.pin (b, o) (List.mem_append_right _ (List.mem_append_right _ (mem_pinsAt hb z)))
        ⟨q.1, q.2.1⟩
      refine ⟨m, lt, i + 1, _, (I10.unpinned (pins := [])).weak (by rw [← same, wipe_length]) (fun j v z => (wipe_some (by rw [same]; exact z)).1), T.keep _ _ _ t7 fun b hb o z => (held b hb o z).1, fun b hb => ?_, Wm⟩
      obtain ⟨o, z, _⟩ := T.obj _ _ t7 b hb
      exact (held b hb o z).2
  subst ev
  exact codeAny_compStart_list whole (T.self X.A 0 _ _ _ t4 whole)
end
end AIx
namespace AIx
open PySem L2 NdefX
/-! ### the maker's lambdas, in its own context and in a block of it -/
def LamMk (X : Cx) (G : GE) (kk : Nat) (LT : LTab) (own : List Nat) : Prop := ∀ (j : Nat) (D : LamD) (js : List Nat) (fe : FE), LT j = some (js, fe) → G.lam j = some D → (∀ i ∈ js, i ∉ own) ∧
  ∃ Nl p fr k, LamI X.prog X.w X.mg X.base G D Nl p fr k fe ∧ k + 1 ≤ kk ∧ Nl.length = js.length + 1 ∧ (X.Ok → Caps X D.cl fr js)
abbrev Off (own : List Nat) (σ : L2.St) : L2.St → Prop := fun σ' => ∀ j, j ∉ own → σ'[j]? = σ[j]?
section
variable {X : Cx} {G : GE} {E : XK} {kk : Nat} {LT : LTab} {own : List Nat}
theorem LamMk.here (L : LamMk X G kk LT own) : LamS X G kk LT fun _ => True := fun pins s σ H I _ j D js fe h1 h2 => by
  obtain ⟨_, Nl, p, fr, k, a, b, c, d⟩ := L j D js fe h1 h2
  exact ⟨Nl, p, fr, k, a, b, c, cells_of I (d I.ok)⟩
theorem LamMk.blk {pins : List (Addr × Obj)} {σ : L2.St} {B : Hp} {t : Shared} {fp : List Addr} {scope : Scope} {ce : Env} (L : LamMk X G kk LT own) (I : Inv X pins σ B t) (ok : ∀ b ∈ fp, FpOk X pins B b ∧ b < t.heap.objs.size) : LamS (X.blk t B scope ce fp) G kk LT (Off own σ) := fun pins' s' σ' H' I' off j D js fe h1 h2 => by
  obtain ⟨na, Nl, p, fr, k, a, b, c, d⟩ := L j D js fe h1 h2
  have cp := d I.ok
  have C := cells_un (cells_of I cp) I'.base fun y c hc hm => (ok c hm).1.2.2.2.2.1 y c (cp.sub y c hc) rfl
  have e : js.map (slotAt σ') = js.map (slotAt σ) := List.map_congr_left fun i hi => by
    unfold NdefX.slotAt
    rw [off i (na i hi)]
  exact ⟨Nl, p, fr, k, a, b, c, by rw [e]; exact C⟩
end
section
variable {X : Cx} {G : GE} {E : XK} {elt : Expr} {scope : Scope} {y z : Str} {py pz pos : Pos} {own : List (Str × Nat)} {fe : FE} {iy : Nat} {fi : FI}
theorem lcw_imp (fuel : Nat) (hw : iy ∈ own.map (·.2)) {σc : L2.St} {H : Hp} {Q : VK} (q : rdE G E (fLc fuel (own.map (·.2)) (g1 iy) fi fTrue fe) σc H Q) : tLc (rdI G E fi) (gName iy) tYes (fun σ' H Q => Off (own.map (·.2)) σc σ' ∧ rdE G EF fe σ' H Q) (own.map (·.2)) σc H Q := by
  obtain ⟨ι, σ, h, A⟩ := q
  refine ⟨ι, σ, h, A.bind (f := fi) (g := fun it σ h k x => wipeK σ (own.map (·.2)) fun σ => appK h [.lst []] fun h1 => nfN (lenN h) fun d => lcI it (lcB d σ (g1 iy) fTrue fe) (fun h => k (AV.ref d) h) fuel 0 h1) fun ι1 h1 H1 it J s1 w1 A1 D hD => ?_⟩
  obtain ⟨s, r, k, x, e, P⟩ := A1
  rw [wipeK_eq, appK_eq, nfN_eq, lenN_eq] at e
  have n0 := Stp.newL r hD (xs := []) (cs := []) .nil
  generalize eσ : wipeA σ (own.map (·.2)) = σw at e
  have sw : SRel ι1 h1.length σw (L2.wipe σc (own.map (·.2))) := by rw [← eσ]; exact s.wipe _
  refine ⟨fun i m H' => ∃ ι' h', Stp G (updI ι1 h1.length D) (h1 ++ [.lst []]) (upd H1 D (.lst [])) ι' h' H' ∧ lcI it (lcB h1.length σw (g1 iy) fTrue fe) (fun h => k (.ref h1.length) h) m i h' = true, ⟨fuel, _, _, .refl n0.rel, e⟩, fun i m H' w => ?_⟩
  obtain ⟨ι', h', n1, e⟩ := w
  have dl : h1.length < h'.length := Nat.lt_of_lt_of_le (by simp) n1.le
  have ud : ι' h1.length = D := by rw [n1.agr _ (by simp), updI_same]
  have n2 := n0.trans n1
  cases m with
  | zero => cases e
  | succ m =>
    rcases w1 ι' h' H' i _ _ n2.agr n2.le n2.rel e with ⟨a, b⟩ | ⟨a, b⟩
    · exact .inl ⟨a, P.ok _ _ _ (.ref h1.length) _ n2 ⟨dl, by rw [ud]⟩ b⟩
    · refine .inr ⟨a, fun H3 => ∃ ι3 h3, Stp G (updI ι1 h1.length D) (h1 ++ [.lst []]) (upd H1 D (.lst [])) ι3 h3 H3 ∧ lcI it (lcB h1.length σw (g1 iy) fTrue fe) (fun h => k (.ref h1.length) h) m (i + 1) h3 = true, fun H3 w => ⟨m, Nat.lt_succ_self m, w⟩, fun v H2 yl => ?_⟩
      obtain ⟨vs, k1, n3, yr⟩ := b v H2 yl
      refine tg1 iy ι' h'.length H2 vs v σw _ _ _ yr (n2.sr sw) k1 fun σ2 σc2 sr2 ww k2 => ?_
      have wipes : L2.wipe σc2 (own.map (·.2)) = L2.wipe σc (own.map (·.2)) := wipe_wipe (ww _ fun i hi => by
        have : i = iy := by simpa using hi
        rw [this]; exact hw)
      refine ⟨wipes, ?_⟩
      simp only [tYes, if_true]
      refine ⟨fun j hj => ?_, ι', σ2, h', sr2, n3.rel, _, noX, k2, ⟨fun ι4 h4 H4 u c n4 v4 k4 => ?_, fun _ _ _ _ _ z => nomatch z⟩⟩
      · have e1 := congrArg (fun l : L2.St => l[j]?) wipes
        simp only [wipe_get, if_neg hj] at e1
        exact e1
      · obtain ⟨acc, h5, p1, p2, p3, p4⟩ := pushK_ok n4.rel v4 k4
        have ud4 : ι4 h1.length = D := by rw [n4.agr _ dl, ud]
        rw [ud4] at p1 p3
        exact ⟨acc, p1, p2, ι4, h5, ((n1.trans n3).trans n4).trans p3, p4⟩
/-- [.. for y in xs] where the item calls the maker's lambdas -/
theorem s_lcW {kk : Nat} {LT : LTab} (fuel : Nat) (M : Amb X G E) (hN : X.N.Nodup) (L : LamMk X G kk LT (own.map (·.2))) {iter : Expr} (hi : SI X G E (.Name y py) iter fi) (ok : blkC X.N X.env.scope scope own = true) (hg : Blk X scope fun X => PG X (.Name y py) (gName iy))
    (he : ∀ (σ : L2.St) (t : Shared) (B : Hp) (ce : Env) (fp : List Addr), ce = compEnvC scope (cellsFrom (t.heap.objs.size + 1) scope.names (cloFrom X.env.cells scope.names [])) t.heap.objs.size X.env → LamS (X.blk t B scope ce fp) G kk LT (Off (own.map (·.2)) σ) → SC (X.blk t B scope ce fp) G EF (Off (own.map (·.2)) σ) elt fe) (hw : iy ∈ own.map (·.2) := by decide) (hs : ∀ x, foldedSetIterable iter X.env x = pure x := by intro _; rfl) :
    SE X G E (.ListComp elt [⟨.Name y py, iter, [], 0⟩] scope pos) (fLc fuel (own.map (·.2)) (g1 iy) fi fTrue fe) :=
  ⟨fun pins s σ H Q I q => lcw_run M.calm hN I hi (blkOk_by ok) hg (fun t B fp It okf => he σ t B _ fp rfl (L.blk It okf)) hs (lcw_imp fuel hw q)⟩
end
end AIx
namespace AIx
open PySem L2
/-! ### _law_number: numbers of any size -/
/-- only new things -/
def More (H H' : Hp) : Prop := ∀ b o, H b = some o → H' b = some o
theorem More.refl (H : Hp) : More H H := fun _ _ e => e
theorem More.upd {H H1 : Hp} {p : Addr} {o : HO} (m : More H H1) (h : H1 p = none) : More H (upd H1 p o) := fun b u e => by rw [upd_ne (ne_of_none (m b u e) h)]; exact m b u e
theorem More.sq {K : PySem.W.Frag} {H H' : Hp} {a : Addr} {xs : List V} (m : More H H') (h : SqL K H a xs) : SqL K H' a xs := by
  match h with
  | .inl (.inl q) => exact .inl (.inl (m _ _ q))
  | .inl (.inr ⟨o, q⟩) => exact .inl (.inr ⟨o, m _ _ q⟩)
  | .inr q => exact .inr q
theorem Stp.more {G : GE} {ι : Nat → Addr} {h : AH} {H H' : Hp} (r : HRel G ι h H) (m : More H H') : Stp G ι h H ι h H' := by
  have mo : ∀ a, H a ≠ none → H' a ≠ none := fun a e => by
    cases q : H a with
    | none => exact absurd q e
    | some u => rw [m _ _ q]; simp
  exact ⟨Nat.le_refl _, fun _ _ => rfl, ⟨r.inj, fun n u e => (r.obj n u e).keep (fun _ _ => rfl) (Nat.le_refl _) (fun u e => m _ u e) (fun b q e => m _ _ e) (mo _), r.scr.imp (fun t => ⟨m _ _ t.1, t.2⟩) (Or.imp_left fun ⟨o, t⟩ => ⟨o, m _ _ t⟩), tab_keep r.tab fun b u e _ _ => m b u e⟩, fun a u e _ _ => m a u e, fun n a b => absurd b (Nat.not_lt.mpr a), mo, fun a u e _ => m a u e⟩
def spNum (K : PySem.W.Frag) : Sp := fun vs H Q _ => ∃ (a : Addr) (ns : List Int) (i : Int), vs = [.ref a, .int i] ∧ SqL K H a (ns.map V.int) ∧ ∀ (z : Int) (H' : Hp), More H H' → Q (.int z) H'
abbrev N_num : List Str := ["_law_script", "_law_index", "_law_cells", "_law_cell", "_law_low", "_law_high", "_law_total", "_law_blend"]
theorem n_num : FnScope N_num ["_law_script", "_law_index"] (defScope (st 50)) := ⟨rfl, rfl, rfl, by decide +kernel, rfl, by decide +kernel, by decide +kernel⟩
section
variable {X : Cx} {e : Expr} {t : TE} {pos p : Pos}
theorem pe_intC (hm : X.mg "int" = none) (ha : PE X e t) (hg : Gl X "int" := by rfl) (hs : starEach [e] X.env = (false, eval e X.env) :: starEach [] X.env := by rfl) : PE X (.Call (.Name "int" p) [e] [] pos) (tCB (fun xs H Q => (∃ i, xs = [.int i] ∧ Q (.int i) H) ∨ ∃ k, xs = [.bl k] ∧ Q (.int (if k then 1 else 0)) H) (tCons t tNil)) := pe_callTy call_int1 hg hm (by decide +kernel) (pa_cons ha pa_nil hs) (by decide) (by decide) hs
theorem pe_lenC {G : GE} (hK : X.K = G.K) (hm : X.mg "len" = none) (ha : PE X e t) (hg : Gl X "len" := by rfl) (hs : starEach [e] X.env = (false, eval e X.env) :: starEach [] X.env := by rfl) : PE X (.Call (.Name "len" p) [e] [] pos) (tCB (fun xs H Q => ∃ p ys, xs = [.ref p] ∧ (SqL G.K H p ys ∨ SqT G.K H p ys) ∧ Q (.int ys.length) H) (tCons t tNil)) := pe_callB (cr_lenA hK) hg hm (by decide +kernel) (pa_cons ha pa_nil hs) (by decide) (by decide) hs
theorem pe_sumC (hc : X.calm = true) (hm : X.mg "sum" = none) (ha : PE X e t) (hg : Gl X "sum" := by rfl) (hs : starEach [e] X.env = (false, eval e X.env) :: starEach [] X.env := by rfl) : PE X (.Call (.Name "sum" p) [e] [] pos) (tCB (rSumA X.K) (tCons t tNil)) := pe_callB (cr_sumA hc) hg hm (by decide +kernel) (pa_cons ha pa_nil hs) (by decide) (by decide) hs
end
def cells0 (ns : List Int) : List Int := match ns with | [] => [5] | n :: r => (n :: r).take 63
theorem cells0_ne (ns : List Int) : cells0 ns ≠ [] := by
  cases ns with
  | nil => exact List.cons_ne_nil _ _
  | cons n r => exact List.cons_ne_nil _ _
theorem cells0_le (ns : List Int) : (cells0 ns).length ≤ 63 := by
  cases ns with
  | nil => decide
  | cons n r => show ((n :: r).take 63).length ≤ 63; rw [List.length_take]; omega
theorem dp_ints {K : PySem.W.Frag} {H : Hp} : ∀ ns : List Int, DpAll K H (ns.map V.int) (ns.map PyData.int)
  | [] => .nil
  | n :: ns => .cons (.int n) (dp_ints ns)
theorem r_num1 {K : PySem.W.Frag} {a : Addr} {ns : List Int} {i : Int} {H : Hp} {D : Ends} (hs : SqL K H a (ns.map V.int)) (q : ∀ c H2, H2 c = some (.lst ((cells0 ns).map V.int)) → More H H2 → D.nx [some (.ref a), some (.int i), some (.ref c), none, none, none, none, none] H2) :
    tAsg (tIf (tTest (tOp (rNeD K) (tVar 0) (tLst tNil))) (tSl (rSlL K) (tVar 0) tNoPart (tPart (tC (.int 63)))) (tLst (tCons (tC (.int 5)) tNil))) (gName 2) D [some (.ref a), some (.int i), none, none, none, none, none, none] H := by
  refine ⟨_, rfl, Nat.zero_le _, fun p hp => ?_⟩
  have m1 : More H (L2.upd H p (.lst [])) := (More.refl H).upd hp
  refine ⟨.list (ns.map .int), .list [], .lst (m1.sq hs) (dp_ints ns), .lst (SqL.of upd_same) .nil, (shaped_ints ns).1, (shaped_ints []).1, _, rfl, ?_⟩
  cases ns with
  | nil =>
    have e : (!PyData.eqv (.list (([] : List Int).map .int)) (.list [])) = false := by rw [List.map_nil, PyData.eqv, PyData.eqvAll]; rfl
    rw [e]
    refine ⟨line1000 (by show 1 ≤ 1000; decide), fun c hc => ?_⟩
    exact q c _ upd_same (m1.upd hc)
  | cons n r =>
    have e : (!PyData.eqv (.list ((n :: r).map .int)) (.list [])) = true := by rw [List.map_cons, PyData.eqv, PyData.eqvAll]; rfl
    rw [e]
    refine ⟨_, rfl, 63, rfl, a, _, rfl, m1.sq hs, fun c hc => ?_⟩
    have ec : cutV ((n :: r).map V.int) none (some ((63 : Nat) : Int)) = (cells0 (n :: r)).map V.int := by
      unfold cutV cells0
      rw [HT.sIx_none, HT.sIx_nat, List.drop_zero, Nat.sub_zero, List.map_take]
      by_cases hl : 63 ≤ ((n :: r).map V.int).length
      · rw [Nat.min_eq_left hl]
      · rw [Nat.min_eq_right (Nat.le_of_not_le hl), List.take_of_length_le (Nat.le_refl _), List.take_of_length_le (by omega)]
    rw [show ((63 : Int)) = ((63 : Nat) : Int) from rfl, ec]
    exact q c _ upd_same (m1.upd hc)
theorem ok_num {P : Program} {w : World} {mg : Str → Option Value} {base : Heap} {G : GE} {f : Addr} {fd : FuncData} (T : Fx G mg) (F : Fun G.K "_law_number" "_law_number" (st 50) f fd) : FnOk P w G.K mg base (L2.CX P w) 1 f fd ["_law_script", "_law_index"] (spNum G.K) := by
  refine F.okX n_num (fun vs H Q E h => ?_) fun cdv A outer s H vs Q E hr h => ?_
  · obtain ⟨a, ns, i, rfl, _⟩ := h
    rfl
  · obtain ⟨a, ns, i, rfl, hs, q⟩ := h
    have pv : ∀ (i : Nat) {x : Str} {pos : Pos}, N_num[i]? = some x → (defScope (st 50)).names.lookup x = some .local → (x == ("__debug__" : Str)) = false → (x == ("__classdict__" : Str)) = false → PE (cxOf (L2.CX P w) P w G.K mg base N_num "_law_number" (defScope (st 50)) f cdv A outer s H E) (.Name x pos) (tVar i) := fun i x pos h1 h2 h3 h4 => pe_var h1 (.inl h2) h3 h4
    refine ⟨_, pss_cons (ps_set (i := 2) n_num.nd rfl (.inl rfl) (pe_ifExp (pt_cmpR (op_neD hr.units) (pv 0 rfl rfl rfl rfl) (pe_lst pa_nil) (nomark _)) (pe_slice sl_list (pv 0 rfl rfl rfl rfl) po_none (po_some pe_int)) (pe_lst (pa_cons pe_int pa_nil))))
      (pss_cons (ps_set (i := 3) n_num.nd rfl (.inl rfl) (pe_op op_add (pe_ix ix_list (pv 2 rfl rfl rfl rfl) (pe_op op_mod (pe_intC T.int (pv 1 rfl rfl rfl rfl)) (pe_lenC (G := G) rfl T.len (pv 2 rfl rfl rfl rfl))) (fun _ _ => rfl)) (pe_op op_mul pe_int (pe_op op_fdivW (pv 1 rfl rfl rfl rfl) (pe_lenC (G := G) rfl T.len (pv 2 rfl rfl rfl rfl))))))
      (pss_cons (ps_par (i := 4) (j := 5) rfl n_num.nd rfl rfl (by decide) rfl rfl (pa_cons (pe_op op_mod (pe_intC T.int (pv 3 rfl rfl rfl rfl)) pe_int) (pa_cons (pe_op op_mod (pe_intC T.int (pe_op op_fdivW (pv 3 rfl rfl rfl rfl) pe_int)) pe_int) pa_nil)) rfl)
      (pss_cons (ps_set (i := 6) n_num.nd rfl (.inl rfl) (pe_op op_mod (pe_intC T.int (pe_sumC rfl T.sum (pv 2 rfl rfl rfl rfl))) pe_int))
      (pss_cons (ps_set (i := 7) n_num.nd rfl (.inl rfl) (pe_op op_mod (pe_intC T.int (pe_op op_add (pe_op op_add (pe_op op_mul (pe_op op_add (pv 4 rfl rfl rfl rfl) (pe_op op_mul pe_int (pv 1 rfl rfl rfl rfl))) pe_int) (pe_op op_mul pe_int (pv 5 rfl rfl rfl rfl))) (pv 6 rfl rfl rfl rfl))) pe_int))
      (pss_one (ps_ret (pe_op op_add (pe_op op_mul (pe_op op_mod (pe_intC T.int (pe_op op_mul (pv 7 rfl rfl rfl rfl) (pe_op op_add (pe_op op_add (pv 7 rfl rfl rfl rfl) (pe_op op_mul pe_int (pv 1 rfl rfl rfl rfl))) pe_int))) pe_int) pe_int) (pv 5 rfl rfl rfl rfl)))))))), ?_⟩
    refine r_num1 hs fun c H2 hc m => ?_
    have hne := cells0_ne ns
    have h63 := cells0_le ns
    generalize cells0 ns = cs at hc hne h63
    have hl : 0 < cs.length := List.length_pos_iff.mpr hne
    have hlI : (0 : Int) < ((cs.map V.int).length : Int) := by rw [List.length_map]; omega
    have hsmall : ∀ x : Int, 0 < x → x < 2 ^ 64 → CDivW i x := fun x h1 h2 => wide_div (b := 64) h1 (by omega) (by decide) (by decide)
    have len64 : ((cs.map V.int).length : Int) < 2 ^ 64 := by
      rw [List.length_map]
      have : cs.length ≤ 63 := h63
      omega
    obtain ⟨w, hw⟩ : ∃ w : Int, atI (cs.map V.int) (i % ((cs.map V.int).length : Int)) = some (.int w) := by
      have h0 := Int.emod_nonneg i (Int.ne_of_gt hlI)
      have h1 := Int.emod_lt_of_pos i hlI
      obtain ⟨k, hk⟩ : ∃ k : Nat, i % ((cs.map V.int).length : Int) = (k : Int) := ⟨_, (Int.toNat_of_nonneg h0).symm⟩
      rw [hk] at h1 ⊢
      have hk2 : k < cs.length := by rw [List.length_map] at h1; omega
      refine ⟨cs[k], ?_⟩
      unfold atI ixN
      rw [if_pos (by omega), if_pos h1, Int.toNat_natCast]
      show (cs.map V.int)[k]? = _
      rw [List.getElem?_map, List.getElem?_eq_getElem hk2]
      rfl
    refine ⟨_, rfl, _, rfl, .inl ⟨i, rfl, _, rfl, c, _, rfl, .inl (SqL.of hc), _, _, rfl, rfl, hlI, c, _, _, _, rfl, rfl, SqL.of hc, hw, _, rfl, _, rfl, c, _, rfl, .inl (SqL.of hc), _, _, rfl, rfl, hsmall _ hlI len64, _, _, rfl, rfl, .inl (by constructor <;> decide), _, _, rfl, rfl, ?_⟩⟩
    have big : (0 : Int) < 1000003 := by decide
    refine ⟨_, rfl, .inl ⟨_, rfl, _, _, rfl, rfl, big, _, rfl, _, _, rfl, rfl, hsmall _ big (by decide), .inl ⟨_, rfl, _, _, rfl, rfl, (by decide : (0 : Int) < 999983), _, _, rfl, ?_⟩⟩⟩
    refine ⟨_, rfl, c, cs, rfl, .inl (SqL.of hc), .inl ⟨_, rfl, _, _, rfl, rfl, (by decide : (0 : Int) < 65521), ?_⟩⟩
    refine ⟨_, rfl, _, rfl, _, _, rfl, rfl, .inl (by constructor <;> decide), _, _, rfl, rfl, _, _, rfl, rfl, .inr (by constructor <;> decide), _, rfl, _, _, rfl, rfl, .inl (by constructor <;> decide), _, _, rfl, rfl, _, rfl, _, _, rfl, rfl, .inl ⟨_, rfl, _, _, rfl, rfl, (by decide : (0 : Int) < 2147483647), ?_⟩⟩
    refine ⟨_, rfl, _, rfl, _, rfl, _, _, rfl, rfl, .inl (by constructor <;> decide), _, _, rfl, rfl, _, _, rfl, rfl, _, _, rfl, rfl, .inl ?_, .inl ⟨_, rfl, _, _, rfl, rfl, (by decide : (0 : Int) < 2147483629), _, _, rfl, rfl, .inr (by constructor <;> decide), _, rfl, _, _, rfl, rfl, q _ _ m⟩⟩
    have p : (0 : Int) < 2147483647 := by decide
    exact ⟨Int.lt_of_lt_of_le (by decide) (Int.emod_nonneg _ (by decide)), Int.lt_trans (Int.emod_lt_of_pos _ p) (by decide)⟩
end AIx
namespace AIx
open PySem L2
/-! ### _law_take: any number below a bound -/
def allN : Nat → (Nat → Bool) → Bool
  | 0, _ => true
  | n + 1, f => match f n with | true => allN n f | false => false
theorem allN_ok : ∀ {n : Nat} {f : Nat → Bool}, allN n f = true → ∀ i, i < n → f i = true
  | 0, _, _, i, h => absurd h (Nat.not_lt_zero i)
  | n + 1, f, e, i, h => by
    unfold allN at e
    split at e
    · rename_i q
      by_cases hi : i = n
      · rw [hi]; exact q
      · exact allN_ok e i (by omega)
    · cases e
def isDraw (h : AH) (v : AV) : Bool := match v with | .ref n => (match getO h n with | some .draw => true | _ => false) | _ => false
def F__law_take : FF := fun as h k x => match as with
  | [d, .int (.ofNat (m + 1))] => (match isDraw h d with | true => (match Nat.ble m 1000 with | true => allN (m + 1) fun i => nfN i fun i => k (.int (.ofNat i)) h | false => false) | false => false)
  | _ => false
abbrev N_take : List Str := ["_law_draw", "_law_many"]
theorem n_take : FnScope N_take ["_law_draw", "_law_many"] (defScope (st 51)) := ⟨rfl, rfl, rfl, by decide +kernel, rfl, by decide +kernel, by decide +kernel⟩
theorem set_same {α : Type} : ∀ (l : List α) (n : Nat) (a : α), l[n]? = some a → l.set n a = l
  | [], _, _, _ => rfl
  | x :: r, 0, a, e => by simp at e; rw [e]; rfl
  | x :: r, n + 1, a, e => by rw [List.set_cons_succ, set_same r n a (by simpa using e)]
section
variable {P : Program} {w : World} {mg : Str → Option Value} {base : Heap} {G : GE}
theorem c__law_take (T : Fx G mg) (DN : DF G.K mg "_law_number" (st 50)) (D : DF G.K mg "_law_take" (st 51)) : CalF P w G.K mg base G 2 "_law_take" 2 F__law_take := by
  obtain ⟨f, fd, F, hm⟩ := D.ex
  obtain ⟨fn, fdn, Fn, hmn⟩ := DN.ex
  have num := ok_num (P := P) (w := w) (base := base) T Fn
  have nb : L2.Binds G.K fdn ["_law_script", "_law_index"] [] := Fn.binds fun _ _ _ _ _ _ us hl => match us, hl with | [_, _], _ => rfl
  refine ⟨⟨f, fd, ["_law_draw", "_law_many"], fun l => ?_, hm, F.kp, F.binds fun _ _ _ _ _ _ us hl => match us, hl with | [_, _], _ => rfl⟩, fun as h k x e => ?_⟩
  · refine F.okX n_take (fun vs H Q E h => h.1) fun cdv A outer s H vs Q E hr h => ?_
    obtain ⟨_, ι, h, as, k, x, q, r, e, Ps⟩ := h
    have pv : ∀ (i : Nat) {x : Str} {pos : Pos}, N_take[i]? = some x → (defScope (st 51)).names.lookup x = some .local → (x == ("__debug__" : Str)) = false → (x == ("__classdict__" : Str)) = false → PE (cxOf (L2.CX P w) P w G.K mg base N_take "_law_take" (defScope (st 51)) f cdv A outer s H E) (.Name x pos) (tVar i) := fun i x pos h1 h2 h3 h4 => pe_var h1 (.inl h2) h3 h4
    refine ⟨_, pss_cons (ps_asg (pe_op op_add (pe_ix ix_list (pv 0 rfl rfl rfl rfl) pe_int (fun _ _ => rfl)) pe_int) (pg_sub (pv 0 rfl rfl rfl rfl) pe_int set_list) rfl rfl rfl)
      (pss_one (ps_ret (pe_op op_mod (pe_intC T.int (pe_call num hr rfl hmn Fn.kp nb .nil passL (pa_cons (pe_ix ix_list (pv 0 rfl rfl rfl rfl) pe_int (fun _ _ => rfl)) (pa_cons (pe_intC T.int (pe_ix ix_list (pv 0 rfl rfl rfl rfl) pe_int (fun _ _ => rfl))) pa_nil)))) (pv 1 rfl rfl rfl rfl)))), ?_⟩
    unfold F__law_take at e
    split at e
    · rename_i d m
      split at e
      · rename_i hd
        split at e
        · cases q with
          | cons q1 q2 => cases q2 with
            | cons q2 q3 =>
              cases q3
              unfold isDraw at hd
              split at hd
              · rename_i n
                rw [getO_eq] at hd
                split at hd
                · rename_i hn
                  obtain ⟨k0, hk0⟩ := r.obj n _ hn
                  cases (show _ = V.ref (ι n) from q1.2)
                  cases (show _ = V.int ((m + 1 : Nat) : Int) from q2)
                  have st1 := Stp.change (o' := .draw) (u' := .lst [.ref G.scr, .int (k0 + 1)]) r hn hk0 (.inl ⟨_, rfl⟩) ⟨k0 + 1, upd_same⟩
                  rw [set_same h n _ hn] at st1
                  have sq1 := st1.rel.sq
                  refine ⟨_, rfl, _, _, _, _, rfl, rfl, SqL.of hk0, rfl, _, _, rfl, rfl, _, rfl, _, _, _, _, rfl, rfl, hk0, rfl, ?_⟩
                  refine ⟨_, rfl, _, _, _, _, rfl, rfl, SqL.of upd_same, rfl, _, rfl, _, _, _, _, rfl, rfl, SqL.of upd_same, rfl, .inl ⟨_, rfl, G.scr, G.ns, _, rfl, sq1, fun z H' mo => .inl ⟨_, rfl, _, rfl, _, _, rfl, rfl, ?_, ?_⟩⟩⟩
                  · show (0 : Int) < ((m + 1 : Nat) : Int)
                    omega
                  · have p0 : (0 : Int) < ((m + 1 : Nat) : Int) := by omega
                    have z0 := Int.emod_nonneg z (Int.ne_of_gt p0)
                    have z1 := Int.emod_lt_of_pos z p0
                    obtain ⟨i, hi⟩ : ∃ i : Nat, z % ((m + 1 : Nat) : Int) = (i : Int) := ⟨_, (Int.toNat_of_nonneg z0).symm⟩
                    have ki := allN_ok e i (by rw [hi] at z1; omega)
                    rw [nfN_eq] at ki
                    exact Ps.ok _ _ _ (.int (.ofNat i)) _ (st1.trans (Stp.more st1.rel mo)) (show V.int (z % ((m + 1 : Nat) : Int)) = V.int (Int.ofNat i) by rw [hi]; rfl) ki
                · cases hd
              · cases hd
        · cases e
      · cases e
    · cases e
  · unfold F__law_take at e
    split at e
    · rfl
    · cases e
end
end AIx
namespace AIx
open PySem L2 NdefX
/-! ### a, b = (x, y), names that are captured -/
theorem S_asgT {X : Cx} {G : GE} {E : XK} {i j : Nat} {x y : Str} {es : List Expr} {fr : FA} {px py pt pos : Pos} {kt k2 pt2} (M : Amb X G E) (hN : X.N.Nodup) (ha : SA X G E es fr) (hi : X.N[i]? = some x := by rfl) (hj : X.N[j]? = some y := by rfl)
    (hx : Loc X.env.scope x := by first | exact .inl rfl | exact .inr rfl) (hy : Loc X.env.scope y := by first | exact .inl rfl | exact .inr rfl) (fx : X.fn x = true ∨ X.env.scope.names.lookup x = some .local := by first | exact .inl rfl | exact .inr rfl) (fy : X.fn y = true ∨ X.env.scope.names.lookup y = some .local := by first | exact .inl rfl | exact .inr rfl)
    (hs : swapsWithSole [.Tuple [.Name x px, .Name y py] kt pt] (.Tuple es k2 pt2) pos.line X.env = pure false := by rfl) (hw : swappedStores [.Tuple [.Name x px, .Name y py] kt pt] (.Tuple es k2 pt2) X.env = pure none := by rfl) (h1 : (assignEach [.Tuple [.Name x px, .Name y py] kt pt] X.env).map (·.2) = [assign (.Tuple [.Name x px, .Name y py] kt pt) X.env] := by rfl)
    (ht1 : (assignEach [.Name x px, .Name y py] X.env).map (·.2) = assign (.Name x px) X.env :: (assignEach [.Name y py] X.env).map (·.2) := by rfl) (ht2 : (assignEach [.Name y py] X.env).map (·.2) = assign (.Name y py) X.env :: (assignEach [] X.env).map (·.2) := by rfl) (ht3 : (assignEach [.Name x px, .Name y py] X.env).length = 2 := by rfl) (ht4 : (assignEach [.Name x px, .Name y py] X.env).findIdx? (·.1) = none := by rfl) :
    SS X G E (.Assign [.Tuple [.Name x px, .Name y py] kt pt] (.Tuple es k2 pt2) pos) (fPar i j fr) := PS.imp (ps_asg (pe_tup ha) (pg_tup M.calm (pgs_cons (pg_name (i := i) hN hi hx fx) (pgs_cons (pg_name (i := j) hN hj hy fy) pgs_nil ht2) ht1) ht3 ht4) hs hw h1) fun D σc H ⟨ι, σ, h, A⟩ =>
  ⟨ι, σ, h, A.exp (f := fr) (g := fun vs σ h n r x => match vs with | [v, w] => setK σ i (some v) fun σ => setK σ j (some w) fun σ => n σ h | _ => false) fun ι1 h1 H1 vs cs s1 v1 A1 => by
    cases v1 with
    | nil => exact A1.no
    | cons r1 t1 =>
      cases t1 with
      | nil => exact A1.no
      | cons r2 t2 =>
        cases t2 with
        | cons r3 t3 => exact A1.no
        | nil =>
          obtain ⟨s, r, n, rr, x, e, P⟩ := A1
          simp only [setK_eq] at e
          refine ⟨line1000 (by show 2 ≤ 1000; decide), fun p hp => ⟨p, _, rfl, SqT.of upd_same, rfl, _, _, rfl, _, _, rfl, rfl, ?_⟩⟩
          exact P.nx _ _ _ _ _ (Stp.hid r hp) ((s.set i r1).set j r2) e⟩
/-! ### a lambda in a name, called -/
def fLamCall (LT : LTab) (i : Nat) : FE := fun σ h k x => match getO σ i with
  | some (some v) => lamOf h v fun j => match LT j with | some p => nfN (lenN h) fun m => lamB p.1 p.2 σ h (retK m k) (excK m x) | none => false
  | _ => false
theorem s_lamcall {X : Cx} {G : GE} {E : XK} {kk jr : Nat} {LT : LTab} {own : List Nat} {x : Str} {i : Nat} {j : Nat} {p1 p2 p3 : Pos} (M : Amb X G E) (L : LamMk X G kk LT own) (hr : Room kk X.A) (hN : X.N[i]? = some x := by rfl) (hv : Vis X.env.scope x := by first | exact Or.inl rfl | exact Or.inr (Or.inl rfl) | exact Or.inr (Or.inr rfl))
    (hd : (x == ("__debug__" : Str)) = false := by decide) (hcd : (x == ("__classdict__" : Str)) = false := by decide) (hs : starEach [.Constant (.int 0) j p2] X.env = (false, eval (.Constant (.int 0) j p2) X.env) :: starEach [] X.env := by rfl) : SE X G E (.Call (.Name x p1) [.Constant (.int 0) j p2] [] p3) (fLamCall LT i) := by
  refine ⟨fun pins s σ H Q I h => ?_⟩; obtain ⟨ι, σa, ha, S, r, K, x', e, P⟩ := h
  unfold fLamCall at e
  rw [getO_eq] at e
  split at e
  · rename_i v hv'
    obtain ⟨c, hc, vr⟩ := S.2 i v hv'
    obtain ⟨n, jl, rfl, hn, e⟩ := lamOf_ok e
    split at e
    · rename_i pr hp
      obtain ⟨D, c', d1, d2, d3⟩ := r.obj n _ hn
      rw [nfN_eq, lenN_eq] at e
      refine wpAny_Call_Name_kw (thn ((pe_var (pos := p1) (i := i) hN hv hd hcd).run pins s σ H (fun v H1 => v = .ref (ι n) ∧ H1 = H) I ⟨c, hc, vr.2, rfl⟩) fun u s1 ⟨v, H1, I1, r1, e1, e2⟩ => ?_)
      subst e1 e2
      cases r1
      have fnAt : ∀ {s' : Shared}, Inv X pins σ H1 s' → PySem.W.FnAt (ι n) s'.heap := fun I' => by
        obtain ⟨⟨pm, ctv, ob⟩, _, _⟩ := I'.hok (ι n) _ d2
        exact ⟨_, _, _, _, ob⟩
      refine PySem.W.callWith_F (first := []) (fnAt I1) (thn ((pa_cons (X := X) pe_int pa_nil hs).run p3 pins s1 σ H1 (fun vs H2 => vs = [.int 0] ∧ H2 = H1) I1 ⟨rfl, rfl⟩) fun us s2 ⟨vs, H2, I2, r2, e3, e4⟩ => ?_) hs rfl
      subst e3 e4
      refine ⟨fnAt I2, ?_⟩
      obtain ⟨u, rfl, t, rfl⟩ := r2.one
      obtain ⟨Nl, p, fr, k, LI, hk, hl, C⟩ := (L.here pins s2 σ H2 I2 True.intro jl D pr.1 pr.2 hp d1).ex
      exact lam_call (E := WE (fun cls d _ H => E cls d H) σ) M.K LI (passAt M.tk σ) hr hk I2 d2 d3 C hl S r e (pst_call r P)
    · cases e
  · cases e
theorem amb_ncx {P : Program} {w : World} {mg : Str → Option Value} {base : Heap} {G : GE} {N : List Str} {F : NF} {f : Addr} {A : Around} {outer : List Env} {s : Shared} {H : Hp} {E : XK} : Amb (ncx (L2.CX P w) P w G.K mg base N F f A outer s H E) G E := ⟨rfl, rfl, takes_of rfl rfl rfl rfl, passes_of rfl⟩
/-! ### paths to the lambdas -/
def xNo : Expr := .Constant .none 0 ⟨0, 0, 0, 0⟩
def lamP : Expr → Arguments | .Lambda p _ _ _ => p | _ => ⟨[], [], none, [], [], none, []⟩
def lamBd : Expr → Expr | .Lambda _ b _ _ => b | _ => xNo
def lamSc : Expr → Scope | .Lambda _ _ s _ => s | _ => ⟨.function, [], false, false, []⟩
def bodyAt (i j : Nat) : Stmt := (defBody (st i)).getD j (.Pass ⟨0, 0, 0, 0⟩)
def lamL (s : Stmt) (k : Nat) : Expr := match s with | .Assign _ (.List es _) _ => es.getD k xNo | .Assign _ (.BinOp _ _ (.List es _) _) _ => es.getD k xNo | .Return (some (.Compare (.Call _ as _ _) _ _ _)) _ => as.getD k xNo | .If (.Compare (.Call _ as _ _) _ _ _) _ _ _ => as.getD k xNo | .For _ (.Tuple es _ _) _ _ _ => es.getD k xNo | _ => xNo
abbrev lamOfE (X : Cx) (e : Expr) : Option LamD := some (lamD X (lamP e) (lamBd e) (lamSc e))
end AIx
namespace AIx
open PySem L2
/-! ### a body in two halves -/
abbrev SBt (X : Cx) (G : GE) (E : XK) (l : List Stmt) (f : FS) (t : TS) : Prop := PSs X l fun D σ H => rdS G E f { D with nx := fun σ' H' => t D σ' H' } σ H
theorem bt_nil {X : Cx} {G : GE} {E : XK} {l : List Stmt} {t : TS} (h : PSs X l t) : SBt X G E l fSkip t := PSs.imp h fun D σc H ⟨ι, σ, h, A⟩ => A.nx
theorem bt_cons {X : Cx} {G : GE} {E : XK} {s : Stmt} {l : List Stmt} {fs gs : FS} {t : TS} (h1 : SS X G E s fs) (h2 : SBt X G E l gs t) : SBt X G E (s :: l) (fSeq fs gs) t := PSs.imp (pss_cons h1 h2) fun D σc H ⟨ι, σ, h, A⟩ => by
  obtain ⟨s, r, n, rr, x, q, P⟩ := A
  exact ⟨ι, σ, h, s, r, _, rr, x, q, ⟨fun ι' h' H' σ' σc' st sr e => ⟨ι', σ', h', sr, st.rel, n, rr, x, e, P.later st⟩, P.rt, P.ex⟩⟩
end AIx
namespace AIx
open PySem L2 PySem.W
/-! ### == and != by an own __eq__ -/
section
variable {prog : Program} {w : World} {A : Around} {E : Value → Shared → Prop} {s : Shared} {K : Frag} {x C D f : Addr} {b : Value} {ox : Obj} {od : Option Obj}
theorem ne_slot {Q : Option Value → Shared → Prop} (X : K.In s.heap) (I : InstAt s.heap x ox C od) (hne : findIn K (.ref C) "__ne__" = some (some (.builtin "object.__ne__")))
    (h : wpAny (model prog w) A (call (.builtin "object.__ne__") [.ref x, b]) (fun v => Q (some v)) E s) : wpAny (model prog w) A (callSpecialIfBound? (.ref x) "__ne__" [b]) Q E s := by
  have S := PySem.F.cmp_object.ne
  simp only [callSpecialIfBound?, bindSpecialIfBound?]; refine wpAny_holding (wpAny_bind (wpAny_bind (wpAny_bind (I.type.here ((looks_findIn X hne).here ?_)))))
  simp only [S.bind]
  refine wpAny_bind (wpAny_askSetting (wpAny_ite ?_)); have tail : wpAny (model prog w) A (call (.builtin "object.__ne__") ([.ref x] ++ [b]) >>= fun v => pure (some v)) Q E s := wpAny_bind (wpAny_mono h (fun v s' z => wpAny_pure z) fun _ _ z => z)
  split
  · exact wpAny_bind (wpAny_pure (wpAny_pure tail))
  · exact wpAny_tryCatch (wpAny_bind (wpAny_pure (wpAny_pure tail)))
theorem ne_body {Q : PySem.Fin → Shared → Prop} (hu : A.units < cLine) (X : K.In s.heap) (I : InstAt s.heap x ox C od) (hs : findIn K (.ref C) "__eq__" = some (some (.ref f))) (hf : isFn K (.ref f) = true)
    (h : wpAny (model prog w) A (call (.ref f) [.ref x, b]) (fun v s' => ∃ t, v = .bool t ∧ Q (.done (.ret (.bool (!t)))) s') E s) : wpAny (model prog w) A (Builtin.«object.__ne__» ⟨[.ref x, b], []⟩) Q E s := by
  unfold Builtin.«object.__ne__»; show wpAny _ _ (cRoomFor "comparison" [.ref x, b] >>= _) _ _ _
  refine wpAny_bind (wpAny_cRoomFor hu ?_); refine wpAny_bind (ifBound_K X I hs hf (wpAny_mono h (fun v s' z => ?_) fun _ _ z => z))
  obtain ⟨t, rfl, q⟩ := z
  show wpAny _ _ (truthy (.bool t) >>= _) _ _ _
  exact wpAny_bind (wpAny_truthy_bool (wpAny_pure q))
theorem ne_own {Q : Value → Shared → Prop} {h₀ : Heap} {L : Addr} {m : Str → Option Value} (hu : A.units + 1 < cLine) (X : K.In s.heap) (I : InstAt s.heap x ox C od) (hb : Looks (model prog w) s.heap (typeOf b) (.ref C)) (hne : findIn K (.ref C) "__ne__" = some (some (.builtin "object.__ne__"))) (mo : mroIn K C (.type "object") = some true)
    (hs : findIn K (.ref C) "__eq__" = some (some (.ref f))) (hf : isFn K (.ref f) = true)
    (h : wpAny (model prog w) A.in1 (call (.ref f) [.ref x, b]) (fun v s' => ∃ t, v = .bool t ∧ Q (.bool (!t)) s') E s) : wpAny (model prog w) A (richCompare .NotEq (.ref x) b) Q E s := by
  have sub : Looks (model prog w) s.heap (isInstance (.ref x) (.type "object")) true := I.type.andThen (looks_mroIn X mo)
  have half : wpAny (model prog w) A (tryCompare (.ref x) "__ne__" b) (fun r s' => ∃ v, r = some v ∧ Q v s') E s := by
    unfold tryCompare
    refine wpAny_bind (ne_slot X I hne (wpAny_call (codeAny_call_builtin PySem.F.cmp_object.ne.plain PySem.F.cmpEntry_ne (@check_slot (model prog w) _ _ s "object.__ne__" "object" "__ne__" (.ref x) [b] [] _ PySem.F.cmpKind_ne PySem.F.cmpSplit_ne sub (PySem.F.cmpArgs_ne _ _) ?_))))
    refine ne_body (A := A.in1) hu X I hs hf (wpAny_mono h (fun v s' z => ?_) fun _ _ z => z)
    obtain ⟨t, rfl, q⟩ := z
    first
      | exact ⟨t, rfl, wpAny_pure ⟨_, rfl, q⟩⟩
      | exact ⟨t, rfl, _, rfl, wpAny_pure ⟨_, rfl, q⟩⟩
  unfold richCompare
  simp only [oneThing_ref]
  refine wpAny_holding (wpAny_bind (wpAny_cRoomFor (Nat.lt_of_succ_lt hu) ?_))
  refine wpAny_bind (I.type.here (wpAny_bind (hb.here ?_))); rw [if_neg (by simp)]
  refine wpAny_bind (wpAny_pure ?_); simp only [Bool.false_eq_true, if_false]
  refine wpAny_bind (wpAny_mono half (fun r s' z => ?_) fun _ _ z => z)
  obtain ⟨v, rfl, q⟩ := z
  exact wpAny_pure q
end
end AIx
namespace AIx
open PySem L2
def gOwn (b : Bool → Bool) (c d : Nat) (F : FF) : AV → AV → AH → KV → Bool := fun v u h k => match isIns c v h with
  | true => (match isIns d u h with
    | true => nfN (lenN h) fun m => F [v, u] h (fun w h' => match w with | .bl t => truncK m h' (k (.bl (b t))) | _ => false) noX
    | false => false)
  | false => false
def rOwn (G : GE) (b : Bool → Bool) (c d : Nat) (F : FF) : R2 := fun x y H Q => ∃ (ι : Nat → Addr) (h : AH) (v u : AV) (k : KV), HRel G ι h H ∧ VRel ι h.length v x ∧ VRel ι h.length u y ∧ gOwn b c d F v u h k = true ∧ ∀ ι' h' H' w z, Stp G ι h H ι' h' H' → VRel ι' h'.length w z → k w h' = true → Q z H'
section
variable {X : Cx} {G : GE} {c d k j : Nat} {F : FF} {b : Bool → Bool}
/-- the call within the comparison, at A -/
theorem own_run {pins : List (Addr × Obj)} {σ : L2.St} {H : Hp} {s : Shared} {x y : V} {v u : Value} {Q : VK} {A : Around} (hK : X.K = G.K) (cc : MetF X.prog X.w X.K X.mg X.base G k "__eq__" c 2 F) (I : Inv X pins σ H s) (rx : RelV x v) (ry : RelV y u) (h : rOwn G b c d F x y H Q) :
    ∃ (p q : Addr) (f : Addr) (dx dy : Addr) (fs gs : List (Str × V)), v = .ref p ∧ u = .ref q ∧ H p = some (.ins (G.cls c) dx fs) ∧ H q = some (.ins (G.cls d) dy gs) ∧ Meth X.K (G.cls c) "__eq__" f ∧
      (∀ {E' : Value → Shared → Prop}, Room k A → Env0 X.prog X.w X.K X.mg X.base A X.stack s H → wpAny (model X.prog X.w) A (call (.ref f) [.ref p, .ref q]) (fun w s' => ∃ t, w = .bool t ∧ EP X pins σ Q (.bool (b t)) s') E' s) := by
  obtain ⟨ι, h, va, ua, kk, r, r1, r2, e, P⟩ := h
  unfold gOwn at e
  split at e
  · rename_i i1
    split at e
    · rename_i i2
      obtain ⟨n1, w1, dx, fs, rfl, rfl, _, e1, _⟩ := isIns_ok r r1 i1
      obtain ⟨n2, w2, dy, gs, rfl, rfl, _, e2, _⟩ := isIns_ok r r2 i2
      cases rx
      cases ry
      obtain ⟨f, fd, ps, Fn, hC, hM, hb⟩ := cc.ex
      rw [nfN_eq, lenN_eq] at e
      refine ⟨ι n1, ι n2, f, dx, dy, fs, gs, rfl, rfl, e1, e2, hM, fun {E'} hr e0 => ?_⟩
      have sp : spF (G.wl G.lam) 2 F [.ref (ι n1), .ref (ι n2)] H (fun w H' => ∃ t, w = .bl t ∧ Q (.bl (b t)) H') EF := ⟨rfl, ι, h, _, _, _, .cons r1 (.cons r2 .nil), r, e, ⟨(fun ι' h' H' a z st vr e' => by
        split at e'
        · rename_i t
          rw [truncK_eq] at e'
          exact ⟨t, vr, P _ _ _ (.bl (b t)) _ st.trunc rfl e'⟩
        · cases e'), fun _ _ _ _ _ z => nomatch z⟩⟩
      have hl := (Fn G.lam).len _ _ _ _ sp
      have bd := hb s [.ref (ι n1), .ref (ι n2)] I.kIn (by simpa using hl)
      refine wpAny_call (codeAny_mono ((Fn G.lam).run A X.stack s H ⟨[.ref (ι n1), .ref (ι n2)], []⟩ [.ref (ι n1), .ref (ι n2)] [.ref (ι n1), .ref (ι n2)] _ EF hr e0 (by simpa using bd) (.cons rfl (.cons rfl .nil)) sp) fun r s' hq => ?_)
      cases r with
      | error e =>
        obtain ⟨_, _, _, _, _, _, _, _, _, _, _, _, z⟩ := hq
        exact z.elim
      | ok fl =>
        cases fl with
        | ret w =>
          obtain ⟨z, H', I', rz, t, rfl, q⟩ := I.after hq
          cases rz
          exact ⟨t, rfl, .bl (b t), H', I', rfl, q⟩
        | next => exact False.elim hq
        | brk => exact False.elim hq
        | cont => exact False.elim hq
    · cases e
  · cases e
theorem c_eqO (hK : X.K = G.K) (cc : MetF X.prog X.w X.K X.mg X.base G k "__eq__" c 2 F) (hr : Room j X.A) (hk : k ≤ j) (hn : PySem.W.notFirst X.K (G.cls c) (.ref (G.cls d)) = true) : CmpR X G .Eq (gOwn id c d F) := ⟨rOwn G id c d F, fun pins s σ H x y v u Q I rx ry h => by
  obtain ⟨p, q, f, dx, dy, fs, gs, rfl, rfl, e1, e2, hM, run⟩ := own_run (A := X.A) hK cc I rx ry h
  obtain ⟨mA, J, _⟩ := ins_get I.hok e1
  obtain ⟨mB, J', _⟩ := ins_get I.hok e2
  obtain ⟨oA, J, _⟩ := J.look
  obtain ⟨oB, J', _⟩ := J'.look
  obtain ⟨m, hF⟩ := I.fr
  refine PySem.W.cmp_K (op := .Eq) (tb := .ref (G.cls d)) (hr.mono hk).units0 hF I.ok.mod.kin J J'.type hn hM.1 hM.2 (wpAny_mono (run (hr.mono hk) I.env0) (fun w s' z => ?_) fun _ _ z => z)
  obtain ⟨t, rfl, z⟩ := z
  exact z, fun ι h H v u x y Q kk r1 r2 r3 e P => ⟨ι, h, v, u, kk, r1, r2, r3, e, P⟩⟩
theorem c_neO (hK : X.K = G.K) (cc : MetF X.prog X.w X.K X.mg X.base G k "__eq__" c 2 F) (hr : Room j X.A) (hk : k + 1 ≤ j) (hne : PySem.W.findIn X.K (.ref (G.cls c)) "__ne__" = some (some (.builtin "object.__ne__"))) (mo : PySem.W.mroIn X.K (G.cls c) (.type "object") = some true) : CmpR X G .NotEq (gOwn not c c F) := ⟨rOwn G not c c F, fun pins s σ H x y v u Q I rx ry h => by
  obtain ⟨p, q, f, dx, dy, fs, gs, rfl, rfl, e1, e2, hM, run⟩ := own_run (A := X.A.in1) hK cc I rx ry h
  obtain ⟨mA, J, _⟩ := ins_get I.hok e1
  obtain ⟨mB, J', _⟩ := ins_get I.hok e2
  obtain ⟨oA, J, _⟩ := J.look
  obtain ⟨oB, J', _⟩ := J'.look
  have u2 : X.A.units + 1 < PySem.cLine := by have := (hr.mono hk).un; omega
  refine wpAny_mono (ne_own (h₀ := s.heap) (L := p) (m := mA) u2 I.kIn J J'.type hne mo hM.at_ hM.fn (run (hr.mono hk).in1 I.env0.in1)) (fun w s' z => ?_) fun _ _ z => z
  exact z, fun ι h H v u x y Q kk r1 r2 r3 e P => ⟨ι, h, v, u, kk, r1, r2, r3, e, P⟩⟩
end
/-- a maker of which nothing is forgotten -/
def fMakeN (c : Nat) (F : FF) (r : FA) : FE := fun σ h k x => r σ h (fun vs h => newK (.ins c none) h fun v h => nfN (lenN h) fun m => F (v :: vs) h (fun w h => match w with | .non => k v h | _ => false) (excK m x)) x
section
variable {X : Cx} {G : GE} {E : XK} {k j n : Nat} {x : Str} {F : FF} {fr : FA} {e : Expr} {es : List Expr} {p pos : Pos}
theorem s_makeN (c : Nat) (M : Amb X G E) (hr : Room j X.A) (cc : MakF X.prog X.w X.K X.mg X.base G k x c n F) (ha : SA X G E (e :: es) fr) (hk : k + 1 ≤ j := by decide) (hg : Gl X x := by rfl) (hdb : (x == ("__debug__" : Str)) = false := by decide)
    (he : starEach (e :: es) X.env = (false, eval e X.env) :: starEach es X.env := by rfl) (hpl : (backTo pos (starEach es X.env)).any (·.1) = false := by rfl) : SE X G E (.Call (.Name x p) (e :: es) [] pos) (fMakeN c F fr) := by
  obtain ⟨f, fd, ps, Fn, mk, hm, hb⟩ := cc.ex
  refine PE.imp (pe_make (ds := []) (dvs := []) (E := E) mk (Fn G.lam) (hr.mono hk) hg hm hb .nil (fun pins σ H s e s' I c => passAt M.tk σ pins H s e s' I c) ha hdb he hpl) fun σc H Q ⟨ι, σ, h, A⟩ =>
    ⟨ι, σ, h, A.bind (f := fr) (g := fun vs σ h k x => newK (.ins c none) h fun v h => nfN (lenN h) fun m => F (v :: vs) h (fun w h => match w with | .non => k v h | _ => false) (excK m x)) fun ι1 h1 H1 vs cs s1 v1 A1 => fun a dx ha hdx ne => ?_⟩
  obtain ⟨s, r, kk, xx, q, P⟩ := A1
  rw [newK_eq, nfN_eq, lenN_eq] at q
  have st1 := Stp.hid (p := dx) (o := .own a) r hdx
  have st2 := Stp.alloc (p := a) (o := .ins c none) (oc := .ins (G.cls c) dx []) st1.rel (by rw [upd_ne ne.symm]; exact ha) ⟨dx, [], upd_same, rfl⟩
  have st := st1.trans st2
  rw [List.append_nil]
  refine ⟨by rw [List.length_cons, ← v1.length]; have := cc.len _ _ _ _ q; simpa using this, _, _, _, _, _, .cons VRel.new (st.vsr v1), st.rel, q, ⟨fun ι' h' H' w z st3 vr e => ?_, fun ι' h' H' c st3 e => ?_⟩⟩
  · split at e
    · refine ⟨vr, P.ok _ _ _ _ _ (st.trans st3) ?_ e⟩
      have hle := st3.le
      rw [List.length_append] at hle
      exact ⟨by have : 1 ≤ [AO.ins c none].length := Nat.le_refl 1; omega, by rw [st3.agr _ (by simp), updI_same]⟩
    · cases e
  · unfold excK at e
    rw [truncK_eq] at e
    exact P.ex _ _ _ _ (st.trans st3.trunc) e
end
end AIx
namespace AIx
open PySem L2
section
variable {P : Program} {w : World} {mg : Str → Option Value} {base : Heap} {G : GE}
/-! _law_pick -/
abbrev N__law_pick : List Str := ["_law_draw", "_law_things"]
theorem n__law_pick : FnScope N__law_pick ["_law_draw", "_law_things"] (defScope (st 52)) := ⟨rfl, rfl, rfl, by decide +kernel, rfl, by decide +kernel, by decide +kernel⟩
def fs__law_pick : FS := (fRet (fOpH gIx (fVar 1) (fCall F__law_take (fCons (fVar 0) (fCons (fBlt (one bLen) (fCons (fVar 1) fNil)) fNil)))))
def F__law_pick : FF := fDef 2 [] fs__law_pick
theorem b__law_pick (T : Fx G mg) (c__law_take : CalF P w G.K mg base G 2 "_law_take" 2 F__law_take) {f : Addr} {cdv : Value} {A : Around} {outer : List Env} {s : Shared} {H : Hp} {E : XK} (hr : Room 2 (A.deeper (PyProof.Rows.envOfC "_law_pick" (defScope (st 52)) s.heap.objs.size f cdv))) : SB (cxOf (L2.CX P w) P w G.K mg base N__law_pick "_law_pick" (defScope (st 52)) f cdv A outer s H E) G E (defBody (st 52)) fs__law_pick := by
  have M : Amb (cxOf (L2.CX P w) P w G.K mg base N__law_pick "_law_pick" (defScope (st 52)) f cdv A outer s H E) G E := amb_of
  unfold fs__law_pick
  exact (b_one (S_ret (s_ix M.K (s_var 1) (s_call M hr c__law_take (s_cons (s_var 0) (s_cons (s_len M T.len (s_var 1)) s_nil))))))
theorem c__law_pick (T : Fx G mg) (D : DF G.K mg "_law_pick" (st 52)) (c__law_take : CalF P w G.K mg base G 2 "_law_take" 2 F__law_take) : CalF P w G.K mg base G 3 "_law_pick" 2 F__law_pick := by
  obtain ⟨f, fd, F, hm⟩ := D.ex
  exact ⟨⟨f, fd, ["_law_draw", "_law_things"], fun l => fn_F F n__law_pick rfl rfl (fun l cdv A outer s H E hr => b__law_pick (G := G.wl l) T.wl c__law_take.wl hr) l, hm, F.kp, F.binds fun _ _ _ _ _ _ us hl => match us, hl with | [_, _], _ => rfl⟩, fun as h k x e => (fDef_len e).1⟩
end
end AIx
namespace AIx
open PySem L2 NdefX
section
variable {P : Program} {w : World} {mg : Str → Option Value} {base : Heap} {G : GE}
/-! _law_rings_right -/
abbrev N__law_rings_right : List Str := ["_law_draw", "_law_rooms", "_law_starts", "_law_first_here", "_law_second", "_law_third", "_law_due", "_law_calls", "_law_index", "_law_good", "_law_call"]
theorem n__law_rings_right : FnScope N__law_rings_right ["_law_draw"] (defScope (st 58)) := ⟨rfl, rfl, rfl, by decide +kernel, rfl, by decide +kernel, by decide +kernel⟩
def e__law_rings_right_0 : Expr := lamL (bodyAt 58 6) 0
def fl__law_rings_right_0 : FE := (fCall F_settle (fCons (fVar 1) (fCons (fVar 2) fNil)))
def e__law_rings_right_1 : Expr := lamL (bodyAt 58 6) 1
def fl__law_rings_right_1 : FE := (fCall F_settled (fCons (fVar 1) (fCons (fVar 2) fNil)))
def e__law_rings_right_2 : Expr := lamL (bodyAt 58 6) 2
def fl__law_rings_right_2 : FE := (fCall F_settled_loads (fCons (fVar 1) (fCons (fVar 2) fNil)))
def e__law_rings_right_3 : Expr := lamL (bodyAt 58 7) 0
def fl__law_rings_right_3 : FE := (fCall F_total_steps (fCons (fVar 1) (fCons (fVar 2) fNil)))
def e__law_rings_right_4 : Expr := lamL (bodyAt 58 7) 1
def fl__law_rings_right_4 : FE := (fMeth 0 F_Settled_shows (fMake 0 F_Settled_init (fCons (fTup (fCons (fC (.int 0)) fNil)) fNil)) (fCons (fVar 1) (fCons (fVar 2) fNil)))
def e__law_rings_right_5 : Expr := lamL (bodyAt 58 11) 0
def fl__law_rings_right_5 : FE := (fCall F_vacated (fCons (fVar 1) (fCons (fVar 2) (fCons (fVar 3) fNil))))
def LT__law_rings_right : LTab := fun j => match j with | 0 => some ([1, 2], fl__law_rings_right_0) | 1 => some ([1, 2], fl__law_rings_right_1) | 2 => some ([1, 2], fl__law_rings_right_2) | 3 => some ([1, 2], fl__law_rings_right_3) | 4 => some ([1, 2], fl__law_rings_right_4) | 5 => some ([1, 2, 8], fl__law_rings_right_5) | _ => none
abbrev X__law_rings_right (P : Program) (w : World) (K : PySem.W.Frag) (mg : Str → Option Value) (base : Heap) (f c : Addr) (A : Around) (outer : List Env) (s : Shared) (H : Hp) (E : XK) : Cx := cxOf (L2.CX P w) P w K mg base N__law_rings_right "_law_rings_right" (defScope (st 58)) f (.ref c) A outer s H E
def lams__law_rings_right (X : Cx) : Nat → Option LamD := fun j => match j with | 0 => lamOfE X e__law_rings_right_0 | 1 => lamOfE X e__law_rings_right_1 | 2 => lamOfE X e__law_rings_right_2 | 3 => lamOfE X e__law_rings_right_3 | 4 => lamOfE X e__law_rings_right_4 | 5 => lamOfE X e__law_rings_right_5 | _ => none
def fs__law_rings_right : FS := (fSeq (fSet 1 (fCall F__law_pick (fCons (fVar 0) (fCons (fLst (fCons (fTup (fCons (fC (.int 2)) (fCons (fC (.int 1)) fNil))) (fCons (fTup (fCons (fC (.int 0)) (fCons (fC (.int 0)) fNil))) (fCons (fOpH gRepT (fTup (fCons (fC (.int 10)) fNil)) (fC (.int 8))) (fCons (fOpH gRepT (fTup (fCons (fC (.int 10)) fNil)) (fC (.int 9))) (fCons (fTup (fCons (fC (.int 11)) fNil)) (fCons (fTup fNil) (fCons (fLst (fCons (fC (.int 1)) fNil)) (fCons (fTup (fCons (fC (.bl true)) fNil)) (fCons (fC .non) (fCons (fTup (fCons (fC (.int 3)) fNil)) (fCons (fTup (fCons (fUn gNeg (fC (.int 1))) (fCons (fC (.int 4)) fNil))) fNil)))))))))))) fNil)))) fSkip)
def fsB__law_rings_right : FS := (fSeq (fSet 2 (fCall F__law_pick (fCons (fVar 0) (fCons (fLst (fCons (fTup fNil) (fCons (fTup (fCons (fC (.int 0)) fNil)) (fCons (fTup (fCons (fC (.int 0)) (fCons (fC (.int 0)) fNil))) (fCons (fTup (fCons (fC (.int 1)) (fCons (fC (.int 0)) fNil))) (fCons (fTup (fCons (fC (.int 0)) (fCons (fC (.int 0)) (fCons (fC (.int 0)) fNil)))) (fCons (fOpH gRepT (fTup (fCons (fC (.int 0)) fNil)) (fC (.int 20))) (fCons (fOpH gRepT (fTup (fCons (fC (.int 0)) fNil)) (fC (.int 21))) (fCons (fTup (fCons (fC (.int 8)) fNil)) (fCons (fLst (fCons (fC (.int 0)) fNil)) (fCons (fC .non) (fCons (fTup (fCons (fC (.bl true)) fNil)) (fCons (fTup (fCons (fUn gNeg (fC (.int 1))) fNil)) fNil))))))))))))) fNil)))) (fSeq (fSet 3 (fCall F__law_no (fCons (fCall F__law_is_tuple (fCons (fVar 1) (fCons (fC (.int 1)) (fCons (fC (.int 8)) (fCons (fC (.int 0)) (fCons (fC (.int 10)) fNil)))))) (fCons (fC (.str 1)) fNil)))) (fSeq (fSet 4 (fCall F__law_no (fCons (fAndV (fOpH (lift2 gEq) (fVar 3) (fC (.str 0))) (fCall F__law_is_tuple (fCons (fVar 2) (fCons (fC (.int 0)) (fCons (fC (.int 20)) (fCons (fC (.int 0)) (fCons (fOpH (lift2 gSub) (fBlt (one bLen) (fCons (fVar 1) fNil)) (fC (.int 1))) fNil))))))) (fCons (fC (.str 2)) fNil)))) (fSeq (fSet 5 (fCall F__law_no (fCons (fAndV (fOpH (lift2 gEq) (fVar 4) (fC (.str 0))) (fOpH (lift2 gLe) (fBlt (one bLen) (fCons (fVar 2) fNil)) (fBlt (one bSum) (fCons (fVar 1) fNil)))) (fCons (fC (.str 3)) fNil)))) (fSeq (fSet 6 (fCall F__law_first (fCons (fLst (fCons (fVar 3) (fCons (fVar 4) (fCons (fVar 5) fNil)))) fNil))) (fSeq (fSet 7 (fLst (fCons (fLam 0) (fCons (fLam 1) (fCons (fLam 2) fNil))))) (fSeq (fSet 7 (fOpH gCat (fVar 7) (fLst (fCons (fLam 3) (fCons (fLam 4) fNil))))) (fSeq (fIte (fTest (fBlt (one bAnyL) (fCons (fLc 25 [10] (g1 10) (fIt isLst yOne (fVar 7)) fTrue (fOpH (lift2 gNe) (fWord LT__law_rings_right (fVar 10)) (fVar 6))) fNil))) (fRet (fC (.bl false))) fSkip) (fSeq (fSet 8 (fCall F__law_pick (fCons (fVar 0) (fCons (fLst (fCons (fC (.int 0)) (fCons (fC (.int 1)) (fCons (fC (.int 2)) (fCons (fC (.int 19)) (fCons (fC (.int 20)) (fCons (fUn gNeg (fC (.int 1))) (fCons (fC .non) (fCons (fC (.bl true)) fNil))))))))) fNil)))) (fSeq (fSet 9 (fAndV (fOpH (lift2 gEq) (fVar 6) (fC (.str 0))) (fCall F__law_is_number (fCons (fVar 8) (fCons (fC (.int 0)) (fCons (fOpH (lift2 gSub) (fBlt (one bLen) (fCons (fVar 2) fNil)) (fC (.int 1))) fNil)))))) (fRet (fOpH (lift2 gEq) (fWord LT__law_rings_right (fLam 5)) (fCall F__law_first (fCons (fLst (fCons (fVar 6) (fCons (fCall F__law_no (fCons (fVar 9) (fCons (fC (.str 4)) fNil))) fNil))) fNil))))))))))))))
theorem li__law_rings_right_0 (T : Fx G mg) (c_settle : CalF P w G.K mg base G 3 "settle" 2 F_settle) (c_settled : CalF P w G.K mg base G 3 "settled" 2 F_settled) (c_settled_loads : CalF P w G.K mg base G 3 "settled_loads" 2 F_settled_loads) (c_total_steps : CalF P w G.K mg base G 3 "total_steps" 2 F_total_steps) (c_Settled_init : MakF P w G.K mg base G 1 "Settled" 0 2 F_Settled_init) (c_Settled_shows : MetF P w G.K mg base G 3 "shows" 0 3 F_Settled_shows) (c_vacated : CalF P w G.K mg base G 3 "vacated" 3 F_vacated) {f c : Addr} {A : Around} {outer : List Env} {s : Shared} {H : Hp} {E : XK} : LamI P w mg base G (lamD (X__law_rings_right P w G.K mg base f c A outer s H E) (lamP e__law_rings_right_0) (lamBd e__law_rings_right_0) (lamSc e__law_rings_right_0)) ["_law_ka", "_law_rooms", "_law_starts"] "_law_ka" ["_law_rooms", "_law_starts"] 4 fl__law_rings_right_0 := by
  refine ⟨nscope_by (show nscB ["_law_ka", "_law_rooms", "_law_starts"] ["_law_ka"] ["_law_rooms", "_law_starts"] (lamSc e__law_rings_right_0) = true by decide +kernel), fun _ _ _ _ => rfl, fun A' outer' s' H' E' f' c' hr => ?_⟩
  have M : Amb (ncx (L2.CX P w) P w G.K mg base ["_law_ka", "_law_rooms", "_law_starts"] (lamF (lamD (X__law_rings_right P w G.K mg base f c A outer s H E) (lamP e__law_rings_right_0) (lamBd e__law_rings_right_0) (lamSc e__law_rings_right_0)) c') f' A' outer' s' H' E') G E' := amb_ncx
  unfold fl__law_rings_right_0
  exact (s_call M hr c_settle (s_cons (s_var 1) (s_cons (s_var 2) s_nil)))
theorem li__law_rings_right_1 (T : Fx G mg) (c_settle : CalF P w G.K mg base G 3 "settle" 2 F_settle) (c_settled : CalF P w G.K mg base G 3 "settled" 2 F_settled) (c_settled_loads : CalF P w G.K mg base G 3 "settled_loads" 2 F_settled_loads) (c_total_steps : CalF P w G.K mg base G 3 "total_steps" 2 F_total_steps) (c_Settled_init : MakF P w G.K mg base G 1 "Settled" 0 2 F_Settled_init) (c_Settled_shows : MetF P w G.K mg base G 3 "shows" 0 3 F_Settled_shows) (c_vacated : CalF P w G.K mg base G 3 "vacated" 3 F_vacated) {f c : Addr} {A : Around} {outer : List Env} {s : Shared} {H : Hp} {E : XK} : LamI P w mg base G (lamD (X__law_rings_right P w G.K mg base f c A outer s H E) (lamP e__law_rings_right_1) (lamBd e__law_rings_right_1) (lamSc e__law_rings_right_1)) ["_law_kb", "_law_rooms", "_law_starts"] "_law_kb" ["_law_rooms", "_law_starts"] 4 fl__law_rings_right_1 := by
  refine ⟨nscope_by (show nscB ["_law_kb", "_law_rooms", "_law_starts"] ["_law_kb"] ["_law_rooms", "_law_starts"] (lamSc e__law_rings_right_1) = true by decide +kernel), fun _ _ _ _ => rfl, fun A' outer' s' H' E' f' c' hr => ?_⟩
  have M : Amb (ncx (L2.CX P w) P w G.K mg base ["_law_kb", "_law_rooms", "_law_starts"] (lamF (lamD (X__law_rings_right P w G.K mg base f c A outer s H E) (lamP e__law_rings_right_1) (lamBd e__law_rings_right_1) (lamSc e__law_rings_right_1)) c') f' A' outer' s' H' E') G E' := amb_ncx
  unfold fl__law_rings_right_1
  exact (s_call M hr c_settled (s_cons (s_var 1) (s_cons (s_var 2) s_nil)))
theorem li__law_rings_right_2 (T : Fx G mg) (c_settle : CalF P w G.K mg base G 3 "settle" 2 F_settle) (c_settled : CalF P w G.K mg base G 3 "settled" 2 F_settled) (c_settled_loads : CalF P w G.K mg base G 3 "settled_loads" 2 F_settled_loads) (c_total_steps : CalF P w G.K mg base G 3 "total_steps" 2 F_total_steps) (c_Settled_init : MakF P w G.K mg base G 1 "Settled" 0 2 F_Settled_init) (c_Settled_shows : MetF P w G.K mg base G 3 "shows" 0 3 F_Settled_shows) (c_vacated : CalF P w G.K mg base G 3 "vacated" 3 F_vacated) {f c : Addr} {A : Around} {outer : List Env} {s : Shared} {H : Hp} {E : XK} : LamI P w mg base G (lamD (X__law_rings_right P w G.K mg base f c A outer s H E) (lamP e__law_rings_right_2) (lamBd e__law_rings_right_2) (lamSc e__law_rings_right_2)) ["_law_kc", "_law_rooms", "_law_starts"] "_law_kc" ["_law_rooms", "_law_starts"] 4 fl__law_rings_right_2 := by
  refine ⟨nscope_by (show nscB ["_law_kc", "_law_rooms", "_law_starts"] ["_law_kc"] ["_law_rooms", "_law_starts"] (lamSc e__law_rings_right_2) = true by decide +kernel), fun _ _ _ _ => rfl, fun A' outer' s' H' E' f' c' hr => ?_⟩
  have M : Amb (ncx (L2.CX P w) P w G.K mg base ["_law_kc", "_law_rooms", "_law_starts"] (lamF (lamD (X__law_rings_right P w G.K mg base f c A outer s H E) (lamP e__law_rings_right_2) (lamBd e__law_rings_right_2) (lamSc e__law_rings_right_2)) c') f' A' outer' s' H' E') G E' := amb_ncx
  unfold fl__law_rings_right_2
  exact (s_call M hr c_settled_loads (s_cons (s_var 1) (s_cons (s_var 2) s_nil)))
theorem li__law_rings_right_3 (T : Fx G mg) (c_settle : CalF P w G.K mg base G 3 "settle" 2 F_settle) (c_settled : CalF P w G.K mg base G 3 "settled" 2 F_settled) (c_settled_loads : CalF P w G.K mg base G 3 "settled_loads" 2 F_settled_loads) (c_total_steps : CalF P w G.K mg base G 3 "total_steps" 2 F_total_steps) (c_Settled_init : MakF P w G.K mg base G 1 "Settled" 0 2 F_Settled_init) (c_Settled_shows : MetF P w G.K mg base G 3 "shows" 0 3 F_Settled_shows) (c_vacated : CalF P w G.K mg base G 3 "vacated" 3 F_vacated) {f c : Addr} {A : Around} {outer : List Env} {s : Shared} {H : Hp} {E : XK} : LamI P w mg base G (lamD (X__law_rings_right P w G.K mg base f c A outer s H E) (lamP e__law_rings_right_3) (lamBd e__law_rings_right_3) (lamSc e__law_rings_right_3)) ["_law_kd", "_law_rooms", "_law_starts"] "_law_kd" ["_law_rooms", "_law_starts"] 4 fl__law_rings_right_3 := by
  refine ⟨nscope_by (show nscB ["_law_kd", "_law_rooms", "_law_starts"] ["_law_kd"] ["_law_rooms", "_law_starts"] (lamSc e__law_rings_right_3) = true by decide +kernel), fun _ _ _ _ => rfl, fun A' outer' s' H' E' f' c' hr => ?_⟩
  have M : Amb (ncx (L2.CX P w) P w G.K mg base ["_law_kd", "_law_rooms", "_law_starts"] (lamF (lamD (X__law_rings_right P w G.K mg base f c A outer s H E) (lamP e__law_rings_right_3) (lamBd e__law_rings_right_3) (lamSc e__law_rings_right_3)) c') f' A' outer' s' H' E') G E' := amb_ncx
  unfold fl__law_rings_right_3
  exact (s_call M hr c_total_steps (s_cons (s_var 1) (s_cons (s_var 2) s_nil)))
theorem li__law_rings_right_4 (T : Fx G mg) (c_settle : CalF P w G.K mg base G 3 "settle" 2 F_settle) (c_settled : CalF P w G.K mg base G 3 "settled" 2 F_settled) (c_settled_loads : CalF P w G.K mg base G 3 "settled_loads" 2 F_settled_loads) (c_total_steps : CalF P w G.K mg base G 3 "total_steps" 2 F_total_steps) (c_Settled_init : MakF P w G.K mg base G 1 "Settled" 0 2 F_Settled_init) (c_Settled_shows : MetF P w G.K mg base G 3 "shows" 0 3 F_Settled_shows) (c_vacated : CalF P w G.K mg base G 3 "vacated" 3 F_vacated) {f c : Addr} {A : Around} {outer : List Env} {s : Shared} {H : Hp} {E : XK} : LamI P w mg base G (lamD (X__law_rings_right P w G.K mg base f c A outer s H E) (lamP e__law_rings_right_4) (lamBd e__law_rings_right_4) (lamSc e__law_rings_right_4)) ["_law_ke", "_law_rooms", "_law_starts"] "_law_ke" ["_law_rooms", "_law_starts"] 4 fl__law_rings_right_4 := by
  refine ⟨nscope_by (show nscB ["_law_ke", "_law_rooms", "_law_starts"] ["_law_ke"] ["_law_rooms", "_law_starts"] (lamSc e__law_rings_right_4) = true by decide +kernel), fun _ _ _ _ => rfl, fun A' outer' s' H' E' f' c' hr => ?_⟩
  have M : Amb (ncx (L2.CX P w) P w G.K mg base ["_law_ke", "_law_rooms", "_law_starts"] (lamF (lamD (X__law_rings_right P w G.K mg base f c A outer s H E) (lamP e__law_rings_right_4) (lamBd e__law_rings_right_4) (lamSc e__law_rings_right_4)) c') f' A' outer' s' H' E') G E' := amb_ncx
  unfold fl__law_rings_right_4
  exact (s_meth 0 M hr c_Settled_shows (s_make 0 M hr c_Settled_init (s_cons (s_tup (s_cons s_int s_nil)) s_nil)) (s_cons (s_var 1) (s_cons (s_var 2) s_nil)))
theorem li__law_rings_right_5 (T : Fx G mg) (c_settle : CalF P w G.K mg base G 3 "settle" 2 F_settle) (c_settled : CalF P w G.K mg base G 3 "settled" 2 F_settled) (c_settled_loads : CalF P w G.K mg base G 3 "settled_loads" 2 F_settled_loads) (c_total_steps : CalF P w G.K mg base G 3 "total_steps" 2 F_total_steps) (c_Settled_init : MakF P w G.K mg base G 1 "Settled" 0 2 F_Settled_init) (c_Settled_shows : MetF P w G.K mg base G 3 "shows" 0 3 F_Settled_shows) (c_vacated : CalF P w G.K mg base G 3 "vacated" 3 F_vacated) {f c : Addr} {A : Around} {outer : List Env} {s : Shared} {H : Hp} {E : XK} : LamI P w mg base G (lamD (X__law_rings_right P w G.K mg base f c A outer s H E) (lamP e__law_rings_right_5) (lamBd e__law_rings_right_5) (lamSc e__law_rings_right_5)) ["_law_kf", "_law_rooms", "_law_starts", "_law_index"] "_law_kf" ["_law_rooms", "_law_starts", "_law_index"] 4 fl__law_rings_right_5 := by
  refine ⟨nscope_by (show nscB ["_law_kf", "_law_rooms", "_law_starts", "_law_index"] ["_law_kf"] ["_law_rooms", "_law_starts", "_law_index"] (lamSc e__law_rings_right_5) = true by decide +kernel), fun _ _ _ _ => rfl, fun A' outer' s' H' E' f' c' hr => ?_⟩
  have M : Amb (ncx (L2.CX P w) P w G.K mg base ["_law_kf", "_law_rooms", "_law_starts", "_law_index"] (lamF (lamD (X__law_rings_right P w G.K mg base f c A outer s H E) (lamP e__law_rings_right_5) (lamBd e__law_rings_right_5) (lamSc e__law_rings_right_5)) c') f' A' outer' s' H' E') G E' := amb_ncx
  unfold fl__law_rings_right_5
  exact (s_call M hr c_vacated (s_cons (s_var 1) (s_cons (s_var 2) (s_cons (s_var 3) s_nil))))
theorem m__law_rings_right (T : Fx G mg) (c_settle : CalF P w G.K mg base G 3 "settle" 2 F_settle) (c_settled : CalF P w G.K mg base G 3 "settled" 2 F_settled) (c_settled_loads : CalF P w G.K mg base G 3 "settled_loads" 2 F_settled_loads) (c_total_steps : CalF P w G.K mg base G 3 "total_steps" 2 F_total_steps) (c_Settled_init : MakF P w G.K mg base G 1 "Settled" 0 2 F_Settled_init) (c_Settled_shows : MetF P w G.K mg base G 3 "shows" 0 3 F_Settled_shows) (c_vacated : CalF P w G.K mg base G 3 "vacated" 3 F_vacated) {f c : Addr} {A : Around} {outer : List Env} {s : Shared} {H : Hp} {E : XK} (hG : ∀ j, G.lam j = lams__law_rings_right (X__law_rings_right P w G.K mg base f c A outer s H E) j) : LamMk (X__law_rings_right P w G.K mg base f c A outer s H E) G 5 LT__law_rings_right [10] := by
  intro j D js fe h1 h2
  rw [hG] at h2
  match j with
  | 0 =>
    cases (show some ([1, 2], fl__law_rings_right_0) = some (js, fe) from h1)
    cases (show some (lamD (X__law_rings_right P w G.K mg base f c A outer s H E) (lamP e__law_rings_right_0) (lamBd e__law_rings_right_0) (lamSc e__law_rings_right_0)) = some D from h2)
    exact ⟨by decide, _, _, _, _, li__law_rings_right_0 T c_settle c_settled c_settled_loads c_total_steps c_Settled_init c_Settled_shows c_vacated, by decide, rfl, fun ok => Caps.made ok (ndef_free (sc := defScope (st 58)) (fr := ["_law_rooms", "_law_starts"]) (by decide +kernel)) (ndef_fr (sc := defScope (st 58)) (by decide +kernel)) rfl⟩
  | 1 =>
    cases (show some ([1, 2], fl__law_rings_right_1) = some (js, fe) from h1)
    cases (show some (lamD (X__law_rings_right P w G.K mg base f c A outer s H E) (lamP e__law_rings_right_1) (lamBd e__law_rings_right_1) (lamSc e__law_rings_right_1)) = some D from h2)
    exact ⟨by decide, _, _, _, _, li__law_rings_right_1 T c_settle c_settled c_settled_loads c_total_steps c_Settled_init c_Settled_shows c_vacated, by decide, rfl, fun ok => Caps.made ok (ndef_free (sc := defScope (st 58)) (fr := ["_law_rooms", "_law_starts"]) (by decide +kernel)) (ndef_fr (sc := defScope (st 58)) (by decide +kernel)) rfl⟩
  | 2 =>
    cases (show some ([1, 2], fl__law_rings_right_2) = some (js, fe) from h1)
    cases (show some (lamD (X__law_rings_right P w G.K mg base f c A outer s H E) (lamP e__law_rings_right_2) (lamBd e__law_rings_right_2) (lamSc e__law_rings_right_2)) = some D from h2)
    exact ⟨by decide, _, _, _, _, li__law_rings_right_2 T c_settle c_settled c_settled_loads c_total_steps c_Settled_init c_Settled_shows c_vacated, by decide, rfl, fun ok => Caps.made ok (ndef_free (sc := defScope (st 58)) (fr := ["_law_rooms", "_law_starts"]) (by decide +kernel)) (ndef_fr (sc := defScope (st 58)) (by decide +kernel)) rfl⟩
  | 3 =>
    cases (show some ([1, 2], fl__law_rings_right_3) = some (js, fe) from h1)
    cases (show some (lamD (X__law_rings_right P w G.K mg base f c A outer s H E) (lamP e__law_rings_right_3) (lamBd e__law_rings_right_3) (lamSc e__law_rings_right_3)) = some D from h2)
    exact ⟨by decide, _, _, _, _, li__law_rings_right_3 T c_settle c_settled c_settled_loads c_total_steps c_Settled_init c_Settled_shows c_vacated, by decide, rfl, fun ok => Caps.made ok (ndef_free (sc := defScope (st 58)) (fr := ["_law_rooms", "_law_starts"]) (by decide +kernel)) (ndef_fr (sc := defScope (st 58)) (by decide +kernel)) rfl⟩
  | 4 =>
    cases (show some ([1, 2], fl__law_rings_right_4) = some (js, fe) from h1)
    cases (show some (lamD (X__law_rings_right P w G.K mg base f c A outer s H E) (lamP e__law_rings_right_4) (lamBd e__law_rings_right_4) (lamSc e__law_rings_right_4)) = some D from h2)
    exact ⟨by decide, _, _, _, _, li__law_rings_right_4 T c_settle c_settled c_settled_loads c_total_steps c_Settled_init c_Settled_shows c_vacated, by decide, rfl, fun ok => Caps.made ok (ndef_free (sc := defScope (st 58)) (fr := ["_law_rooms", "_law_starts"]) (by decide +kernel)) (ndef_fr (sc := defScope (st 58)) (by decide +kernel)) rfl⟩
  | 5 =>
    cases (show some ([1, 2, 8], fl__law_rings_right_5) = some (js, fe) from h1)
    cases (show some (lamD (X__law_rings_right P w G.K mg base f c A outer s H E) (lamP e__law_rings_right_5) (lamBd e__law_rings_right_5) (lamSc e__law_rings_right_5)) = some D from h2)
    exact ⟨by decide, _, _, _, _, li__law_rings_right_5 T c_settle c_settled c_settled_loads c_total_steps c_Settled_init c_Settled_shows c_vacated, by decide, rfl, fun ok => Caps.made ok (ndef_free (sc := defScope (st 58)) (fr := ["_law_rooms", "_law_starts", "_law_index"]) (by decide +kernel)) (ndef_fr (sc := defScope (st 58)) (by decide +kernel)) rfl⟩
  | j + 6 => cases (show (none : Option (List Nat × FE)) = some (js, fe) from h1)
theorem b__law_rings_right (T : Fx G mg) {g : Addr} (W : WordF G mg g) (c__law_pick : CalF P w G.K mg base G 3 "_law_pick" 2 F__law_pick) (c__law_no : CalF P w G.K mg base G 1 "_law_no" 2 F__law_no) (c__law_is_tuple : CalF P w G.K mg base G 2 "_law_is_tuple" 5 F__law_is_tuple) (c__law_first : CalF P w G.K mg base G 1 "_law_first" 1 F__law_first) (c__law_is_number : CalF P w G.K mg base G 1 "_law_is_number" 3 F__law_is_number) (c_settle : CalF P w G.K mg base G 3 "settle" 2 F_settle) (c_settled : CalF P w G.K mg base G 3 "settled" 2 F_settled) (c_settled_loads : CalF P w G.K mg base G 3 "settled_loads" 2 F_settled_loads) (c_total_steps : CalF P w G.K mg base G 3 "total_steps" 2 F_total_steps) (c_Settled_init : MakF P w G.K mg base G 1 "Settled" 0 2 F_Settled_init) (c_Settled_shows : MetF P w G.K mg base G 3 "shows" 0 3 F_Settled_shows) (c_vacated : CalF P w G.K mg base G 3 "vacated" 3 F_vacated) {f c : Addr} {A : Around} {outer : List Env} {s : Shared} {H : Hp} {E : XK} {Pt : Addr} (hG : ∀ j, G.lam j = lams__law_rings_right (X__law_rings_right P w G.K mg base f c A outer s H E) j) (L : LamT (X__law_rings_right P w G.K mg base f c A outer s H E) G c Pt) (hr : Room 6 (X__law_rings_right P w G.K mg base f c A outer s H E).A) : SBt (X__law_rings_right P w G.K mg base f c A outer s H E) G E (defBody (st 58)) fs__law_rings_right (rdS G E fsB__law_rings_right) := by
  have M : Amb (X__law_rings_right P w G.K mg base f c A outer s H E) G E := amb_of
  have hr5 : Room 5 (X__law_rings_right P w G.K mg base f c A outer s H E).A := hr.mono (by decide)
  have m := m__law_rings_right T c_settle c_settled c_settled_loads c_total_steps c_Settled_init c_Settled_shows c_vacated hG
  have B1 : SB (X__law_rings_right P w G.K mg base f c A outer s H E) G E ((defBody (st 58)).drop 1) fsB__law_rings_right := by
    unfold fsB__law_rings_right
    exact (b_cons (S_set n__law_rings_right.nd (s_call M hr c__law_pick (s_cons (s_var 0) (s_cons (s_lst (s_cons (s_tup s_nil) (s_cons (s_tup (s_cons s_int s_nil)) (s_cons (s_tup (s_cons s_int (s_cons s_int s_nil))) (s_cons (s_tup (s_cons s_int (s_cons s_int s_nil))) (s_cons (s_tup (s_cons s_int (s_cons s_int (s_cons s_int s_nil)))) (s_cons (s_repT M.K (s_tup (s_cons s_int s_nil)) s_int) (s_cons (s_repT M.K (s_tup (s_cons s_int s_nil)) s_int) (s_cons (s_tup (s_cons s_int s_nil)) (s_cons (s_lst (s_cons s_int s_nil)) (s_cons s_non (s_cons (s_tup (s_cons s_bl s_nil)) (s_cons (s_tup (s_cons (s_neg s_int) s_nil)) s_nil))))))))))))) s_nil))) (i := 2)) (b_cons (S_set n__law_rings_right.nd (s_call M hr c__law_no (s_cons (s_call M hr c__law_is_tuple (s_cons (s_var 1) (s_cons s_int (s_cons s_int (s_cons s_int (s_cons s_int s_nil)))))) (s_cons (s_str 1) s_nil))) (i := 3)) (b_cons (S_set n__law_rings_right.nd (s_call M hr c__law_no (s_cons (s_and (s_cmp c_eq (s_var 3) (s_str 0)) (s_one (s_call M hr c__law_is_tuple (s_cons (s_var 2) (s_cons s_int (s_cons s_int (s_cons s_int (s_cons (s_sub (s_len M T.len (s_var 1)) s_int) s_nil)))))))) (s_cons (s_str 2) s_nil))) (i := 4)) (b_cons (S_set n__law_rings_right.nd (s_call M hr c__law_no (s_cons (s_and (s_cmp c_eq (s_var 4) (s_str 0)) (s_one (s_cmp c_le (s_len M T.len (s_var 2)) (s_sum M T.sum (s_var 1))))) (s_cons (s_str 3) s_nil))) (i := 5)) (b_cons (S_set n__law_rings_right.nd (s_call M hr c__law_first (s_cons (s_lst (s_cons (s_var 3) (s_cons (s_var 4) (s_cons (s_var 5) s_nil)))) s_nil)) (i := 6)) (b_cons (S_set n__law_rings_right.nd (s_lst (s_cons (s_lam 0 L rfl (ndef_free (sc := defScope (st 58)) (fr := ["_law_rooms", "_law_starts"]) (by decide +kernel)) (hG 0)) (s_cons (s_lam 1 L rfl (ndef_free (sc := defScope (st 58)) (fr := ["_law_rooms", "_law_starts"]) (by decide +kernel)) (hG 1)) (s_cons (s_lam 2 L rfl (ndef_free (sc := defScope (st 58)) (fr := ["_law_rooms", "_law_starts"]) (by decide +kernel)) (hG 2)) s_nil)))) (i := 7)) (b_cons (S_set n__law_rings_right.nd (s_cat (s_var 7) (s_lst (s_cons (s_lam 3 L rfl (ndef_free (sc := defScope (st 58)) (fr := ["_law_rooms", "_law_starts"]) (by decide +kernel)) (hG 3)) (s_cons (s_lam 4 L rfl (ndef_free (sc := defScope (st 58)) (fr := ["_law_rooms", "_law_starts"]) (by decide +kernel)) (hG 4)) s_nil)))) (i := 7)) (b_cons (S_if (s_val (s_any M T.any (s_lcW 25 M n__law_rings_right.nd m (i_list M.K (s_var 7) y_one) (show blkC N__law_rings_right (defScope (st 58)) _ [("_law_call", 10)] = true by decide +kernel) (fun _ _ _ _ _ => (pg_name (i := 10) n__law_rings_right.nd rfl (Or.inl rfl))) (fun σ t B ce fp e LS => by subst e; exact c_cmp c_ne (c_word rfl T W LS hr (by decide) (s_var 10)) (s_var 6))))) (b_one (S_ret s_bl)) b_nil) (b_cons (S_set n__law_rings_right.nd (s_call M hr c__law_pick (s_cons (s_var 0) (s_cons (s_lst (s_cons s_int (s_cons s_int (s_cons s_int (s_cons s_int (s_cons s_int (s_cons (s_neg s_int) (s_cons s_non (s_cons s_bl s_nil))))))))) s_nil))) (i := 8)) (b_cons (S_set n__law_rings_right.nd (s_and (s_cmp c_eq (s_var 6) (s_str 0)) (s_one (s_call M hr c__law_is_number (s_cons (s_var 8) (s_cons s_int (s_cons (s_sub (s_len M T.len (s_var 2)) s_int) s_nil)))))) (i := 9)) (b_one (S_ret (s_cmp c_eq (s_word rfl T W m.here hr (by decide) (s_lam 5 L rfl (ndef_free (sc := defScope (st 58)) (fr := ["_law_rooms", "_law_starts", "_law_index"]) (by decide +kernel)) (hG 5))) (s_call M hr c__law_first (s_cons (s_lst (s_cons (s_var 6) (s_cons (s_call M hr c__law_no (s_cons (s_var 9) (s_cons (s_str 4) s_nil))) s_nil))) s_nil)))))))))))))))
  unfold fs__law_rings_right
  exact (bt_cons (S_set n__law_rings_right.nd (s_call M hr c__law_pick (s_cons (s_var 0) (s_cons (s_lst (s_cons (s_tup (s_cons s_int (s_cons s_int s_nil))) (s_cons (s_tup (s_cons s_int (s_cons s_int s_nil))) (s_cons (s_repT M.K (s_tup (s_cons s_int s_nil)) s_int) (s_cons (s_repT M.K (s_tup (s_cons s_int s_nil)) s_int) (s_cons (s_tup (s_cons s_int s_nil)) (s_cons (s_tup s_nil) (s_cons (s_lst (s_cons s_int s_nil)) (s_cons (s_tup (s_cons s_bl s_nil)) (s_cons s_non (s_cons (s_tup (s_cons s_int s_nil)) (s_cons (s_tup (s_cons (s_neg s_int) (s_cons s_int s_nil))) s_nil)))))))))))) s_nil))) (i := 1)) (bt_nil B1))
end
end AIx
namespace AIx
open PySem L2 NdefX
section
variable {P : Program} {w : World} {mg : Str → Option Value} {base : Heap} {G : GE}
/-! _law_numbers_right -/
abbrev N__law_numbers_right : List Str := ["_law_draw", "_law_items", "_law_servers", "_law_most", "_law_due", "_law_calls", "_law_capacities", "_law_shared_now", "_law_call"]
theorem n__law_numbers_right : FnScope N__law_numbers_right ["_law_draw"] (defScope (st 59)) := ⟨rfl, rfl, rfl, by decide +kernel, rfl, by decide +kernel, by decide +kernel⟩
def e__law_numbers_right_0 : Expr := lamL (bodyAt 59 3) 0
def fl__law_numbers_right_0 : FE := (fCall F_expected_most (fCons (fVar 1) (fCons (fVar 2) fNil)))
def e__law_numbers_right_1 : Expr := lamL (bodyAt 59 3) 1
def fl__law_numbers_right_1 : FE := (fCall F_used_chances (fCons (fVar 1) (fCons (fVar 2) fNil)))
def e__law_numbers_right_2 : Expr := lamL (bodyAt 59 3) 2
def fl__law_numbers_right_2 : FE := (fCall F_apart_chance (fCons (fVar 1) (fCons (fVar 2) fNil)))
def e__law_numbers_right_3 : Expr := lamL (bodyAt 59 5) 0
def fl__law_numbers_right_3 : FE := (fCall F_most_chance (fCons (fVar 1) (fCons (fVar 2) (fCons (fVar 3) fNil))))
def e__law_numbers_right_4 : Expr := lamL (bodyAt 59 9) 0
def fl__law_numbers_right_4 : FE := (fCall F_share_out (fCons (fVar 1) (fCons (fVar 2) fNil)))
def e__law_numbers_right_5 : Expr := lamL (bodyAt 59 9) 1
def fl__law_numbers_right_5 : FE := (fCall F_in_turn (fCons (fVar 1) (fCons (fVar 2) fNil)))
def e__law_numbers_right_6 : Expr := lamL (bodyAt 59 9) 2
def fl__law_numbers_right_6 : FE := (fCall F_least_ratio (fCons (fVar 1) (fCons (fVar 2) fNil)))
def e__law_numbers_right_7 : Expr := lamL (bodyAt 59 10) 0
def fl__law_numbers_right_7 : FE := (fCall F_count_shares (fCons (fVar 1) (fCons (fVar 2) fNil)))
def e__law_numbers_right_8 : Expr := lamL (bodyAt 59 10) 1
def fl__law_numbers_right_8 : FE := (fMeth 1 F_Shares_shows (fMake 1 F_Shares_init (fCons (fTup (fCons (fC (.int 0)) fNil)) fNil)) (fCons (fVar 1) (fCons (fVar 2) fNil)))
def LT__law_numbers_right : LTab := fun j => match j with | 0 => some ([1, 2], fl__law_numbers_right_0) | 1 => some ([1, 2], fl__law_numbers_right_1) | 2 => some ([1, 2], fl__law_numbers_right_2) | 3 => some ([1, 2, 3], fl__law_numbers_right_3) | 4 => some ([6, 7], fl__law_numbers_right_4) | 5 => some ([6, 7], fl__law_numbers_right_5) | 6 => some ([6, 7], fl__law_numbers_right_6) | 7 => some ([6, 7], fl__law_numbers_right_7) | 8 => some ([6, 7], fl__law_numbers_right_8) | _ => none
abbrev X__law_numbers_right (P : Program) (w : World) (K : PySem.W.Frag) (mg : Str → Option Value) (base : Heap) (f c : Addr) (A : Around) (outer : List Env) (s : Shared) (H : Hp) (E : XK) : Cx := cxOf (L2.CX P w) P w K mg base N__law_numbers_right "_law_numbers_right" (defScope (st 59)) f (.ref c) A outer s H E
def lams__law_numbers_right (X : Cx) : Nat → Option LamD := fun j => match j with | 0 => lamOfE X e__law_numbers_right_0 | 1 => lamOfE X e__law_numbers_right_1 | 2 => lamOfE X e__law_numbers_right_2 | 3 => lamOfE X e__law_numbers_right_3 | 4 => lamOfE X e__law_numbers_right_4 | 5 => lamOfE X e__law_numbers_right_5 | 6 => lamOfE X e__law_numbers_right_6 | 7 => lamOfE X e__law_numbers_right_7 | 8 => lamOfE X e__law_numbers_right_8 | _ => none
def fs__law_numbers_right : FS := (fSeq (fPar 1 2 (fCons (fCall F__law_pick (fCons (fVar 0) (fCons (fLst (fCons (fC (.int 0)) (fCons (fC (.int 10)) (fCons (fC (.int 11)) (fCons (fUn gNeg (fC (.int 1))) (fCons (fC (.bl true)) (fCons (fC .non) (fCons (fC (.int 3)) (fCons (fC (.str 9)) fNil))))))))) fNil))) (fCons (fCall F__law_pick (fCons (fVar 0) (fCons (fLst (fCons (fC (.int 1)) (fCons (fC (.int 8)) (fCons (fC (.int 0)) (fCons (fC (.int 9)) (fCons (fC .non) (fCons (fC (.bl true)) fNil))))))) fNil))) fNil))) fSkip)
def fsB__law_numbers_right : FS := (fSeq (fSet 3 (fCall F__law_pick (fCons (fVar 0) (fCons (fLst (fCons (fC (.int 0)) (fCons (fC (.int 10)) (fCons (fC (.int 11)) (fCons (fUn gNeg (fC (.int 1))) (fCons (fC (.bl true)) (fCons (fC .non) fNil))))))) fNil)))) (fSeq (fSet 4 (fCall F__law_first (fCons (fLst (fCons (fCall F__law_no (fCons (fCall F__law_is_number (fCons (fVar 1) (fCons (fC (.int 0)) (fCons (fC (.int 10)) fNil)))) (fCons (fC (.str 5)) fNil))) (fCons (fCall F__law_no (fCons (fCall F__law_is_number (fCons (fVar 2) (fCons (fC (.int 1)) (fCons (fC (.int 8)) fNil)))) (fCons (fC (.str 6)) fNil))) fNil))) fNil))) (fSeq (fSet 5 (fLst (fCons (fLam 0) (fCons (fLam 1) (fCons (fLam 2) fNil))))) (fSeq (fIte (fTest (fBlt (one bAnyL) (fCons (fLc 25 [8] (g1 8) (fIt isLst yOne (fVar 5)) fTrue (fOpH (lift2 gNe) (fWord LT__law_numbers_right (fVar 8)) (fVar 4))) fNil))) (fRet (fC (.bl false))) fSkip) (fSeq (fIte (fTest (fOpH (lift2 gNe) (fWord LT__law_numbers_right (fLam 3)) (fCall F__law_first (fCons (fLst (fCons (fVar 4) (fCons (fCall F__law_no (fCons (fCall F__law_is_number (fCons (fVar 3) (fCons (fC (.int 0)) (fCons (fC (.int 10)) fNil)))) (fCons (fC (.str 4)) fNil))) fNil))) fNil)))) (fRet (fC (.bl false))) fSkip) fSkip)))))
def fsC__law_numbers_right : FS := (fSeq (fSet 6 (fCall F__law_pick (fCons (fVar 0) (fCons (fLst (fCons (fTup (fCons (fC (.int 1)) fNil)) (fCons (fTup (fCons (fC (.int 10)) (fCons (fC (.int 1)) fNil))) (fCons (fTup (fCons (fC (.int 11)) fNil)) (fCons (fTup (fCons (fC (.int 0)) fNil)) (fCons (fTup fNil) (fCons (fOpH gRepT (fTup (fCons (fC (.int 1)) fNil)) (fC (.int 8))) (fCons (fOpH gRepT (fTup (fCons (fC (.int 1)) fNil)) (fC (.int 9))) (fCons (fLst (fCons (fC (.int 1)) fNil)) (fCons (fTup (fCons (fC (.bl true)) fNil)) (fCons (fC .non) (fCons (fTup (fCons (fC (.int 1)) (fCons (fC (.int 11)) fNil))) (fCons (fTup (fCons (fC (.int 0)) (fCons (fC (.int 2)) fNil))) fNil))))))))))))) fNil)))) (fSeq (fSet 7 (fCall F__law_pick (fCons (fVar 0) (fCons (fLst (fCons (fC (.int 0)) (fCons (fC (.int 20)) (fCons (fC (.int 21)) (fCons (fUn gNeg (fC (.int 1))) (fCons (fC (.bl true)) (fCons (fC .non) (fCons (fC (.int 5)) fNil)))))))) fNil)))) (fSeq (fSet 4 (fCall F__law_first (fCons (fLst (fCons (fCall F__law_no (fCons (fCall F__law_is_tuple (fCons (fVar 6) (fCons (fC (.int 1)) (fCons (fC (.int 8)) (fCons (fC (.int 1)) (fCons (fC (.int 10)) fNil)))))) (fCons (fC (.str 7)) fNil))) (fCons (fCall F__law_no (fCons (fCall F__law_is_number (fCons (fVar 7) (fCons (fC (.int 0)) (fCons (fC (.int 20)) fNil)))) (fCons (fC (.str 5)) fNil))) fNil))) fNil))) (fSeq (fSet 5 (fLst (fCons (fLam 4) (fCons (fLam 5) (fCons (fLam 6) fNil))))) (fSeq (fSet 5 (fOpH gCat (fVar 5) (fLst (fCons (fLam 7) (fCons (fLam 8) fNil))))) (fRet (fBlt (one bAllL) (fCons (fLc 25 [8] (g1 8) (fIt isLst yOne (fVar 5)) fTrue (fOpH (lift2 gEq) (fWord LT__law_numbers_right (fVar 8)) (fVar 4))) fNil))))))))
theorem li__law_numbers_right_0 (T : Fx G mg) (c_expected_most : CalF P w G.K mg base G 4 "expected_most" 2 F_expected_most) (c_used_chances : CalF P w G.K mg base G 3 "used_chances" 2 F_used_chances) (c_apart_chance : CalF P w G.K mg base G 3 "apart_chance" 2 F_apart_chance) (c_most_chance : CalF P w G.K mg base G 4 "most_chance" 3 F_most_chance) (c_share_out : CalF P w G.K mg base G 4 "share_out" 2 F_share_out) (c_in_turn : CalF P w G.K mg base G 4 "in_turn" 2 F_in_turn) (c_least_ratio : CalF P w G.K mg base G 4 "least_ratio" 2 F_least_ratio) (c_count_shares : CalF P w G.K mg base G 4 "count_shares" 2 F_count_shares) (c_Shares_init : MakF P w G.K mg base G 1 "Shares" 1 2 F_Shares_init) (c_Shares_shows : MetF P w G.K mg base G 3 "shows" 1 3 F_Shares_shows) {f c : Addr} {A : Around} {outer : List Env} {s : Shared} {H : Hp} {E : XK} : LamI P w mg base G (lamD (X__law_numbers_right P w G.K mg base f c A outer s H E) (lamP e__law_numbers_right_0) (lamBd e__law_numbers_right_0) (lamSc e__law_numbers_right_0)) ["_law_ka", "_law_items", "_law_servers"] "_law_ka" ["_law_items", "_law_servers"] 4 fl__law_numbers_right_0 := by
  refine ⟨nscope_by (show nscB ["_law_ka", "_law_items", "_law_servers"] ["_law_ka"] ["_law_items", "_law_servers"] (lamSc e__law_numbers_right_0) = true by decide +kernel), fun _ _ _ _ => rfl, fun A' outer' s' H' E' f' c' hr => ?_⟩
  have M : Amb (ncx (L2.CX P w) P w G.K mg base ["_law_ka", "_law_items", "_law_servers"] (lamF (lamD (X__law_numbers_right P w G.K mg base f c A outer s H E) (lamP e__law_numbers_right_0) (lamBd e__law_numbers_right_0) (lamSc e__law_numbers_right_0)) c') f' A' outer' s' H' E') G E' := amb_ncx
  unfold fl__law_numbers_right_0
  exact (s_call M hr c_expected_most (s_cons (s_var 1) (s_cons (s_var 2) s_nil)))
theorem li__law_numbers_right_1 (T : Fx G mg) (c_expected_most : CalF P w G.K mg base G 4 "expected_most" 2 F_expected_most) (c_used_chances : CalF P w G.K mg base G 3 "used_chances" 2 F_used_chances) (c_apart_chance : CalF P w G.K mg base G 3 "apart_chance" 2 F_apart_chance) (c_most_chance : CalF P w G.K mg base G 4 "most_chance" 3 F_most_chance) (c_share_out : CalF P w G.K mg base G 4 "share_out" 2 F_share_out) (c_in_turn : CalF P w G.K mg base G 4 "in_turn" 2 F_in_turn) (c_least_ratio : CalF P w G.K mg base G 4 "least_ratio" 2 F_least_ratio) (c_count_shares : CalF P w G.K mg base G 4 "count_shares" 2 F_count_shares) (c_Shares_init : MakF P w G.K mg base G 1 "Shares" 1 2 F_Shares_init) (c_Shares_shows : MetF P w G.K mg base G 3 "shows" 1 3 F_Shares_shows) {f c : Addr} {A : Around} {outer : List Env} {s : Shared} {H : Hp} {E : XK} : LamI P w mg base G (lamD (X__law_numbers_right P w G.K mg base f c A outer s H E) (lamP e__law_numbers_right_1) (lamBd e__law_numbers_right_1) (lamSc e__law_numbers_right_1)) ["_law_kb", "_law_items", "_law_servers"] "_law_kb" ["_law_items", "_law_servers"] 4 fl__law_numbers_right_1 := by
  refine ⟨nscope_by (show nscB ["_law_kb", "_law_items", "_law_servers"] ["_law_kb"] ["_law_items", "_law_servers"] (lamSc e__law_numbers_right_1) = true by decide +kernel), fun _ _ _ _ => rfl, fun A' outer' s' H' E' f' c' hr => ?_⟩
  have M : Amb (ncx (L2.CX P w) P w G.K mg base ["_law_kb", "_law_items", "_law_servers"] (lamF (lamD (X__law_numbers_right P w G.K mg base f c A outer s H E) (lamP e__law_numbers_right_1) (lamBd e__law_numbers_right_1) (lamSc e__law_numbers_right_1)) c') f' A' outer' s' H' E') G E' := amb_ncx
  unfold fl__law_numbers_right_1
  exact (s_call M hr c_used_chances (s_cons (s_var 1) (s_cons (s_var 2) s_nil)))
theorem li__law_numbers_right_2 (T : Fx G mg) (c_expected_most : CalF P w G.K mg base G 4 "expected_most" 2 F_expected_most) (c_used_chances : CalF P w G.K mg base G 3 "used_chances" 2 F_used_chances) (c_apart_chance : CalF P w G.K mg base G 3 "apart_chance" 2 F_apart_chance) (c_most_chance : CalF P w G.K mg base G 4 "most_chance" 3 F_most_chance) (c_share_out : CalF P w G.K mg base G 4 "share_out" 2 F_share_out) (c_in_turn : CalF P w G.K mg base G 4 "in_turn" 2 F_in_turn) (c_least_ratio : CalF P w G.K mg base G 4 "least_ratio" 2 F_least_ratio) (c_count_shares : CalF P w G.K mg base G 4 "count_shares" 2 F_count_shares) (c_Shares_init : MakF P w G.K mg base G 1 "Shares" 1 2 F_Shares_init) (c_Shares_shows : MetF P w G.K mg base G 3 "shows" 1 3 F_Shares_shows) {f c : Addr} {A : Around} {outer : List Env} {s : Shared} {H : Hp} {E : XK} : LamI P w mg base G (lamD (X__law_numbers_right P w G.K mg base f c A outer s H E) (lamP e__law_numbers_right_2) (lamBd e__law_numbers_right_2) (lamSc e__law_numbers_right_2)) ["_law_kc", "_law_items", "_law_servers"] "_law_kc" ["_law_items", "_law_servers"] 4 fl__law_numbers_right_2 := by
  refine ⟨nscope_by (show nscB ["_law_kc", "_law_items", "_law_servers"] ["_law_kc"] ["_law_items", "_law_servers"] (lamSc e__law_numbers_right_2) = true by decide +kernel), fun _ _ _ _ => rfl, fun A' outer' s' H' E' f' c' hr => ?_⟩
  have M : Amb (ncx (L2.CX P w) P w G.K mg base ["_law_kc", "_law_items", "_law_servers"] (lamF (lamD (X__law_numbers_right P w G.K mg base f c A outer s H E) (lamP e__law_numbers_right_2) (lamBd e__law_numbers_right_2) (lamSc e__law_numbers_right_2)) c') f' A' outer' s' H' E') G E' := amb_ncx
  unfold fl__law_numbers_right_2
  exact (s_call M hr c_apart_chance (s_cons (s_var 1) (s_cons (s_var 2) s_nil)))
theorem li__law_numbers_right_3 (T : Fx G mg) (c_expected_most : CalF P w G.K mg base G 4 "expected_most" 2 F_expected_most) (c_used_chances : CalF P w G.K mg base G 3 "used_chances" 2 F_used_chances) (c_apart_chance : CalF P w G.K mg base G 3 "apart_chance" 2 F_apart_chance) (c_most_chance : CalF P w G.K mg base G 4 "most_chance" 3 F_most_chance) (c_share_out : CalF P w G.K mg base G 4 "share_out" 2 F_share_out) (c_in_turn : CalF P w G.K mg base G 4 "in_turn" 2 F_in_turn) (c_least_ratio : CalF P w G.K mg base G 4 "least_ratio" 2 F_least_ratio) (c_count_shares : CalF P w G.K mg base G 4 "count_shares" 2 F_count_shares) (c_Shares_init : MakF P w G.K mg base G 1 "Shares" 1 2 F_Shares_init) (c_Shares_shows : MetF P w G.K mg base G 3 "shows" 1 3 F_Shares_shows) {f c : Addr} {A : Around} {outer : List Env} {s : Shared} {H : Hp} {E : XK} : LamI P w mg base G (lamD (X__law_numbers_right P w G.K mg base f c A outer s H E) (lamP e__law_numbers_right_3) (lamBd e__law_numbers_right_3) (lamSc e__law_numbers_right_3)) ["_law_kd", "_law_items", "_law_servers", "_law_most"] "_law_kd" ["_law_items", "_law_servers", "_law_most"] 4 fl__law_numbers_right_3 := by
  refine ⟨nscope_by (show nscB ["_law_kd", "_law_items", "_law_servers", "_law_most"] ["_law_kd"] ["_law_items", "_law_servers", "_law_most"] (lamSc e__law_numbers_right_3) = true by decide +kernel), fun _ _ _ _ => rfl, fun A' outer' s' H' E' f' c' hr => ?_⟩
  have M : Amb (ncx (L2.CX P w) P w G.K mg base ["_law_kd", "_law_items", "_law_servers", "_law_most"] (lamF (lamD (X__law_numbers_right P w G.K mg base f c A outer s H E) (lamP e__law_numbers_right_3) (lamBd e__law_numbers_right_3) (lamSc e__law_numbers_right_3)) c') f' A' outer' s' H' E') G E' := amb_ncx
  unfold fl__law_numbers_right_3
  exact (s_call M hr c_most_chance (s_cons (s_var 1) (s_cons (s_var 2) (s_cons (s_var 3) s_nil))))
theorem li__law_numbers_right_4 (T : Fx G mg) (c_expected_most : CalF P w G.K mg base G 4 "expected_most" 2 F_expected_most) (c_used_chances : CalF P w G.K mg base G 3 "used_chances" 2 F_used_chances) (c_apart_chance : CalF P w G.K mg base G 3 "apart_chance" 2 F_apart_chance) (c_most_chance : CalF P w G.K mg base G 4 "most_chance" 3 F_most_chance) (c_share_out : CalF P w G.K mg base G 4 "share_out" 2 F_share_out) (c_in_turn : CalF P w G.K mg base G 4 "in_turn" 2 F_in_turn) (c_least_ratio : CalF P w G.K mg base G 4 "least_ratio" 2 F_least_ratio) (c_count_shares : CalF P w G.K mg base G 4 "count_shares" 2 F_count_shares) (c_Shares_init : MakF P w G.K mg base G 1 "Shares" 1 2 F_Shares_init) (c_Shares_shows : MetF P w G.K mg base G 3 "shows" 1 3 F_Shares_shows) {f c : Addr} {A : Around} {outer : List Env} {s : Shared} {H : Hp} {E : XK} : LamI P w mg base G (lamD (X__law_numbers_right P w G.K mg base f c A outer s H E) (lamP e__law_numbers_right_4) (lamBd e__law_numbers_right_4) (lamSc e__law_numbers_right_4)) ["_law_ke", "_law_capacities", "_law_shared_now"] "_law_ke" ["_law_capacities", "_law_shared_now"] 4 fl__law_numbers_right_4 := by
  refine ⟨nscope_by (show nscB ["_law_ke", "_law_capacities", "_law_shared_now"] ["_law_ke"] ["_law_capacities", "_law_shared_now"] (lamSc e__law_numbers_right_4) = true by decide +kernel), fun _ _ _ _ => rfl, fun A' outer' s' H' E' f' c' hr => ?_⟩
  have M : Amb (ncx (L2.CX P w) P w G.K mg base ["_law_ke", "_law_capacities", "_law_shared_now"] (lamF (lamD (X__law_numbers_right P w G.K mg base f c A outer s H E) (lamP e__law_numbers_right_4) (lamBd e__law_numbers_right_4) (lamSc e__law_numbers_right_4)) c') f' A' outer' s' H' E') G E' := amb_ncx
  unfold fl__law_numbers_right_4
  exact (s_call M hr c_share_out (s_cons (s_var 1) (s_cons (s_var 2) s_nil)))
theorem li__law_numbers_right_5 (T : Fx G mg) (c_expected_most : CalF P w G.K mg base G 4 "expected_most" 2 F_expected_most) (c_used_chances : CalF P w G.K mg base G 3 "used_chances" 2 F_used_chances) (c_apart_chance : CalF P w G.K mg base G 3 "apart_chance" 2 F_apart_chance) (c_most_chance : CalF P w G.K mg base G 4 "most_chance" 3 F_most_chance) (c_share_out : CalF P w G.K mg base G 4 "share_out" 2 F_share_out) (c_in_turn : CalF P w G.K mg base G 4 "in_turn" 2 F_in_turn) (c_least_ratio : CalF P w G.K mg base G 4 "least_ratio" 2 F_least_ratio) (c_count_shares : CalF P w G.K mg base G 4 "count_shares" 2 F_count_shares) (c_Shares_init : MakF P w G.K mg base G 1 "Shares" 1 2 F_Shares_init) (c_Shares_shows : MetF P w G.K mg base G 3 "shows" 1 3 F_Shares_shows) {f c : Addr} {A : Around} {outer : List Env} {s : Shared} {H : Hp} {E : XK} : LamI P w mg base G (lamD (X__law_numbers_right P w G.K mg base f c A outer s H E) (lamP e__law_numbers_right_5) (lamBd e__law_numbers_right_5) (lamSc e__law_numbers_right_5)) ["_law_kf", "_law_capacities", "_law_shared_now"] "_law_kf" ["_law_capacities", "_law_shared_now"] 4 fl__law_numbers_right_5 := by
  refine ⟨nscope_by (show nscB ["_law_kf", "_law_capacities", "_law_shared_now"] ["_law_kf"] ["_law_capacities", "_law_shared_now"] (lamSc e__law_numbers_right_5) = true by decide +kernel), fun _ _ _ _ => rfl, fun A' outer' s' H' E' f' c' hr => ?_⟩
  have M : Amb (ncx (L2.CX P w) P w G.K mg base ["_law_kf", "_law_capacities", "_law_shared_now"] (lamF (lamD (X__law_numbers_right P w G.K mg base f c A outer s H E) (lamP e__law_numbers_right_5) (lamBd e__law_numbers_right_5) (lamSc e__law_numbers_right_5)) c') f' A' outer' s' H' E') G E' := amb_ncx
  unfold fl__law_numbers_right_5
  exact (s_call M hr c_in_turn (s_cons (s_var 1) (s_cons (s_var 2) s_nil)))
theorem li__law_numbers_right_6 (T : Fx G mg) (c_expected_most : CalF P w G.K mg base G 4 "expected_most" 2 F_expected_most) (c_used_chances : CalF P w G.K mg base G 3 "used_chances" 2 F_used_chances) (c_apart_chance : CalF P w G.K mg base G 3 "apart_chance" 2 F_apart_chance) (c_most_chance : CalF P w G.K mg base G 4 "most_chance" 3 F_most_chance) (c_share_out : CalF P w G.K mg base G 4 "share_out" 2 F_share_out) (c_in_turn : CalF P w G.K mg base G 4 "in_turn" 2 F_in_turn) (c_least_ratio : CalF P w G.K mg base G 4 "least_ratio" 2 F_least_ratio) (c_count_shares : CalF P w G.K mg base G 4 "count_shares" 2 F_count_shares) (c_Shares_init : MakF P w G.K mg base G 1 "Shares" 1 2 F_Shares_init) (c_Shares_shows : MetF P w G.K mg base G 3 "shows" 1 3 F_Shares_shows) {f c : Addr} {A : Around} {outer : List Env} {s : Shared} {H : Hp} {E : XK} : LamI P w mg base G (lamD (X__law_numbers_right P w G.K mg base f c A outer s H E) (lamP e__law_numbers_right_6) (lamBd e__law_numbers_right_6) (lamSc e__law_numbers_right_6)) ["_law_kg", "_law_capacities", "_law_shared_now"] "_law_kg" ["_law_capacities", "_law_shared_now"] 4 fl__law_numbers_right_6 := by
  refine ⟨nscope_by (show nscB ["_law_kg", "_law_capacities", "_law_shared_now"] ["_law_kg"] ["_law_capacities", "_law_shared_now"] (lamSc e__law_numbers_right_6) = true by decide +kernel), fun _ _ _ _ => rfl, fun A' outer' s' H' E' f' c' hr => ?_⟩
  have M : Amb (ncx (L2.CX P w) P w G.K mg base ["_law_kg", "_law_capacities", "_law_shared_now"] (lamF (lamD (X__law_numbers_right P w G.K mg base f c A outer s H E) (lamP e__law_numbers_right_6) (lamBd e__law_numbers_right_6) (lamSc e__law_numbers_right_6)) c') f' A' outer' s' H' E') G E' := amb_ncx
  unfold fl__law_numbers_right_6
  exact (s_call M hr c_least_ratio (s_cons (s_var 1) (s_cons (s_var 2) s_nil)))
theorem li__law_numbers_right_7 (T : Fx G mg) (c_expected_most : CalF P w G.K mg base G 4 "expected_most" 2 F_expected_most) (c_used_chances : CalF P w G.K mg base G 3 "used_chances" 2 F_used_chances) (c_apart_chance : CalF P w G.K mg base G 3 "apart_chance" 2 F_apart_chance) (c_most_chance : CalF P w G.K mg base G 4 "most_chance" 3 F_most_chance) (c_share_out : CalF P w G.K mg base G 4 "share_out" 2 F_share_out) (c_in_turn : CalF P w G.K mg base G 4 "in_turn" 2 F_in_turn) (c_least_ratio : CalF P w G.K mg base G 4 "least_ratio" 2 F_least_ratio) (c_count_shares : CalF P w G.K mg base G 4 "count_shares" 2 F_count_shares) (c_Shares_init : MakF P w G.K mg base G 1 "Shares" 1 2 F_Shares_init) (c_Shares_shows : MetF P w G.K mg base G 3 "shows" 1 3 F_Shares_shows) {f c : Addr} {A : Around} {outer : List Env} {s : Shared} {H : Hp} {E : XK} : LamI P w mg base G (lamD (X__law_numbers_right P w G.K mg base f c A outer s H E) (lamP e__law_numbers_right_7) (lamBd e__law_numbers_right_7) (lamSc e__law_numbers_right_7)) ["_law_kh", "_law_capacities", "_law_shared_now"] "_law_kh" ["_law_capacities", "_law_shared_now"] 4 fl__law_numbers_right_7 := by
  refine ⟨nscope_by (show nscB ["_law_kh", "_law_capacities", "_law_shared_now"] ["_law_kh"] ["_law_capacities", "_law_shared_now"] (lamSc e__law_numbers_right_7) = true by decide +kernel), fun _ _ _ _ => rfl, fun A' outer' s' H' E' f' c' hr => ?_⟩
  have M : Amb (ncx (L2.CX P w) P w G.K mg base ["_law_kh", "_law_capacities", "_law_shared_now"] (lamF (lamD (X__law_numbers_right P w G.K mg base f c A outer s H E) (lamP e__law_numbers_right_7) (lamBd e__law_numbers_right_7) (lamSc e__law_numbers_right_7)) c') f' A' outer' s' H' E') G E' := amb_ncx
  unfold fl__law_numbers_right_7
  exact (s_call M hr c_count_shares (s_cons (s_var 1) (s_cons (s_var 2) s_nil)))
theorem li__law_numbers_right_8 (T : Fx G mg) (c_expected_most : CalF P w G.K mg base G 4 "expected_most" 2 F_expected_most) (c_used_chances : CalF P w G.K mg base G 3 "used_chances" 2 F_used_chances) (c_apart_chance : CalF P w G.K mg base G 3 "apart_chance" 2 F_apart_chance) (c_most_chance : CalF P w G.K mg base G 4 "most_chance" 3 F_most_chance) (c_share_out : CalF P w G.K mg base G 4 "share_out" 2 F_share_out) (c_in_turn : CalF P w G.K mg base G 4 "in_turn" 2 F_in_turn) (c_least_ratio : CalF P w G.K mg base G 4 "least_ratio" 2 F_least_ratio) (c_count_shares : CalF P w G.K mg base G 4 "count_shares" 2 F_count_shares) (c_Shares_init : MakF P w G.K mg base G 1 "Shares" 1 2 F_Shares_init) (c_Shares_shows : MetF P w G.K mg base G 3 "shows" 1 3 F_Shares_shows) {f c : Addr} {A : Around} {outer : List Env} {s : Shared} {H : Hp} {E : XK} : LamI P w mg base G (lamD (X__law_numbers_right P w G.K mg base f c A outer s H E) (lamP e__law_numbers_right_8) (lamBd e__law_numbers_right_8) (lamSc e__law_numbers_right_8)) ["_law_ki", "_law_capacities", "_law_shared_now"] "_law_ki" ["_law_capacities", "_law_shared_now"] 4 fl__law_numbers_right_8 := by
  refine ⟨nscope_by (show nscB ["_law_ki", "_law_capacities", "_law_shared_now"] ["_law_ki"] ["_law_capacities", "_law_shared_now"] (lamSc e__law_numbers_right_8) = true by decide +kernel), fun _ _ _ _ => rfl, fun A' outer' s' H' E' f' c' hr => ?_⟩
  have M : Amb (ncx (L2.CX P w) P w G.K mg base ["_law_ki", "_law_capacities", "_law_shared_now"] (lamF (lamD (X__law_numbers_right P w G.K mg base f c A outer s H E) (lamP e__law_numbers_right_8) (lamBd e__law_numbers_right_8) (lamSc e__law_numbers_right_8)) c') f' A' outer' s' H' E') G E' := amb_ncx
  unfold fl__law_numbers_right_8
  exact (s_meth 1 M hr c_Shares_shows (s_make 1 M hr c_Shares_init (s_cons (s_tup (s_cons s_int s_nil)) s_nil)) (s_cons (s_var 1) (s_cons (s_var 2) s_nil)))
theorem m__law_numbers_right (T : Fx G mg) (c_expected_most : CalF P w G.K mg base G 4 "expected_most" 2 F_expected_most) (c_used_chances : CalF P w G.K mg base G 3 "used_chances" 2 F_used_chances) (c_apart_chance : CalF P w G.K mg base G 3 "apart_chance" 2 F_apart_chance) (c_most_chance : CalF P w G.K mg base G 4 "most_chance" 3 F_most_chance) (c_share_out : CalF P w G.K mg base G 4 "share_out" 2 F_share_out) (c_in_turn : CalF P w G.K mg base G 4 "in_turn" 2 F_in_turn) (c_least_ratio : CalF P w G.K mg base G 4 "least_ratio" 2 F_least_ratio) (c_count_shares : CalF P w G.K mg base G 4 "count_shares" 2 F_count_shares) (c_Shares_init : MakF P w G.K mg base G 1 "Shares" 1 2 F_Shares_init) (c_Shares_shows : MetF P w G.K mg base G 3 "shows" 1 3 F_Shares_shows) {f c : Addr} {A : Around} {outer : List Env} {s : Shared} {H : Hp} {E : XK} (hG : ∀ j, G.lam j = lams__law_numbers_right (X__law_numbers_right P w G.K mg base f c A outer s H E) j) : LamMk (X__law_numbers_right P w G.K mg base f c A outer s H E) G 5 LT__law_numbers_right [8] := by
  intro j D js fe h1 h2
  rw [hG] at h2
  match j with
  | 0 =>
    cases (show some ([1, 2], fl__law_numbers_right_0) = some (js, fe) from h1)
    cases (show some (lamD (X__law_numbers_right P w G.K mg base f c A outer s H E) (lamP e__law_numbers_right_0) (lamBd e__law_numbers_right_0) (lamSc e__law_numbers_right_0)) = some D from h2)
    exact ⟨by decide, _, _, _, _, li__law_numbers_right_0 T c_expected_most c_used_chances c_apart_chance c_most_chance c_share_out c_in_turn c_least_ratio c_count_shares c_Shares_init c_Shares_shows, by decide, rfl, fun ok => Caps.made ok (ndef_free (sc := defScope (st 59)) (fr := ["_law_items", "_law_servers"]) (by decide +kernel)) (ndef_fr (sc := defScope (st 59)) (by decide +kernel)) rfl⟩
  | 1 =>
    cases (show some ([1, 2], fl__law_numbers_right_1) = some (js, fe) from h1)
    cases (show some (lamD (X__law_numbers_right P w G.K mg base f c A outer s H E) (lamP e__law_numbers_right_1) (lamBd e__law_numbers_right_1) (lamSc e__law_numbers_right_1)) = some D from h2)
    exact ⟨by decide, _, _, _, _, li__law_numbers_right_1 T c_expected_most c_used_chances c_apart_chance c_most_chance c_share_out c_in_turn c_least_ratio c_count_shares c_Shares_init c_Shares_shows, by decide, rfl, fun ok => Caps.made ok (ndef_free (sc := defScope (st 59)) (fr := ["_law_items", "_law_servers"]) (by decide +kernel)) (ndef_fr (sc := defScope (st 59)) (by decide +kernel)) rfl⟩
  | 2 =>
    cases (show some ([1, 2], fl__law_numbers_right_2) = some (js, fe) from h1)
    cases (show some (lamD (X__law_numbers_right P w G.K mg base f c A outer s H E) (lamP e__law_numbers_right_2) (lamBd e__law_numbers_right_2) (lamSc e__law_numbers_right_2)) = some D from h2)
    exact ⟨by decide, _, _, _, _, li__law_numbers_right_2 T c_expected_most c_used_chances c_apart_chance c_most_chance c_share_out c_in_turn c_least_ratio c_count_shares c_Shares_init c_Shares_shows, by decide, rfl, fun ok => Caps.made ok (ndef_free (sc := defScope (st 59)) (fr := ["_law_items", "_law_servers"]) (by decide +kernel)) (ndef_fr (sc := defScope (st 59)) (by decide +kernel)) rfl⟩
  | 3 =>
    cases (show some ([1, 2, 3], fl__law_numbers_right_3) = some (js, fe) from h1)
    cases (show some (lamD (X__law_numbers_right P w G.K mg base f c A outer s H E) (lamP e__law_numbers_right_3) (lamBd e__law_numbers_right_3) (lamSc e__law_numbers_right_3)) = some D from h2)
    exact ⟨by decide, _, _, _, _, li__law_numbers_right_3 T c_expected_most c_used_chances c_apart_chance c_most_chance c_share_out c_in_turn c_least_ratio c_count_shares c_Shares_init c_Shares_shows, by decide, rfl, fun ok => Caps.made ok (ndef_free (sc := defScope (st 59)) (fr := ["_law_items", "_law_servers", "_law_most"]) (by decide +kernel)) (ndef_fr (sc := defScope (st 59)) (by decide +kernel)) rfl⟩
  | 4 =>
    cases (show some ([6, 7], fl__law_numbers_right_4) = some (js, fe) from h1)
    cases (show some (lamD (X__law_numbers_right P w G.K mg base f c A outer s H E) (lamP e__law_numbers_right_4) (lamBd e__law_numbers_right_4) (lamSc e__law_numbers_right_4)) = some D from h2)
    exact ⟨by decide, _, _, _, _, li__law_numbers_right_4 T c_expected_most c_used_chances c_apart_chance c_most_chance c_share_out c_in_turn c_least_ratio c_count_shares c_Shares_init c_Shares_shows, by decide, rfl, fun ok => Caps.made ok (ndef_free (sc := defScope (st 59)) (fr := ["_law_capacities", "_law_shared_now"]) (by decide +kernel)) (ndef_fr (sc := defScope (st 59)) (by decide +kernel)) rfl⟩
  | 5 =>
    cases (show some ([6, 7], fl__law_numbers_right_5) = some (js, fe) from h1)
    cases (show some (lamD (X__law_numbers_right P w G.K mg base f c A outer s H E) (lamP e__law_numbers_right_5) (lamBd e__law_numbers_right_5) (lamSc e__law_numbers_right_5)) = some D from h2)
    exact ⟨by decide, _, _, _, _, li__law_numbers_right_5 T c_expected_most c_used_chances c_apart_chance c_most_chance c_share_out c_in_turn c_least_ratio c_count_shares c_Shares_init c_Shares_shows, by decide, rfl, fun ok => Caps.made ok (ndef_free (sc := defScope (st 59)) (fr := ["_law_capacities", "_law_shared_now"]) (by decide +kernel)) (ndef_fr (sc := defScope (st 59)) (by decide +kernel)) rfl⟩
  | 6 =>
    cases (show some ([6, 7], fl__law_numbers_right_6) = some (js, fe) from h1)
    cases (show some (lamD (X__law_numbers_right P w G.K mg base f c A outer s H E) (lamP e__law_numbers_right_6) (lamBd e__law_numbers_right_6) (lamSc e__law_numbers_right_6)) = some D from h2)
    exact ⟨by decide, _, _, _, _, li__law_numbers_right_6 T c_expected_most c_used_chances c_apart_chance c_most_chance c_share_out c_in_turn c_least_ratio c_count_shares c_Shares_init c_Shares_shows, by decide, rfl, fun ok => Caps.made ok (ndef_free (sc := defScope (st 59)) (fr := ["_law_capacities", "_law_shared_now"]) (by decide +kernel)) (ndef_fr (sc := defScope (st 59)) (by decide +kernel)) rfl⟩
  | 7 =>
    cases (show some ([6, 7], fl__law_numbers_right_7) = some (js, fe) from h1)
    cases (show some (lamD (X__law_numbers_right P w G.K mg base f c A outer s H E) (lamP e__law_numbers_right_7) (lamBd e__law_numbers_right_7) (lamSc e__law_numbers_right_7)) = some D from h2)
    exact ⟨by decide, _, _, _, _, li__law_numbers_right_7 T c_expected_most c_used_chances c_apart_chance c_most_chance c_share_out c_in_turn c_least_ratio c_count_shares c_Shares_init c_Shares_shows, by decide, rfl, fun ok => Caps.made ok (ndef_free (sc := defScope (st 59)) (fr := ["_law_capacities", "_law_shared_now"]) (by decide +kernel)) (ndef_fr (sc := defScope (st 59)) (by decide +kernel)) rfl⟩
  | 8 =>
    cases (show some ([6, 7], fl__law_numbers_right_8) = some (js, fe) from h1)
    cases (show some (lamD (X__law_numbers_right P w G.K mg base f c A outer s H E) (lamP e__law_numbers_right_8) (lamBd e__law_numbers_right_8) (lamSc e__law_numbers_right_8)) = some D from h2)
    exact ⟨by decide, _, _, _, _, li__law_numbers_right_8 T c_expected_most c_used_chances c_apart_chance c_most_chance c_share_out c_in_turn c_least_ratio c_count_shares c_Shares_init c_Shares_shows, by decide, rfl, fun ok => Caps.made ok (ndef_free (sc := defScope (st 59)) (fr := ["_law_capacities", "_law_shared_now"]) (by decide +kernel)) (ndef_fr (sc := defScope (st 59)) (by decide +kernel)) rfl⟩
  | j + 9 => cases (show (none : Option (List Nat × FE)) = some (js, fe) from h1)
theorem b__law_numbers_right (T : Fx G mg) {g : Addr} (W : WordF G mg g) (c__law_pick : CalF P w G.K mg base G 3 "_law_pick" 2 F__law_pick) (c__law_first : CalF P w G.K mg base G 1 "_law_first" 1 F__law_first) (c__law_no : CalF P w G.K mg base G 1 "_law_no" 2 F__law_no) (c__law_is_number : CalF P w G.K mg base G 1 "_law_is_number" 3 F__law_is_number) (c__law_is_tuple : CalF P w G.K mg base G 2 "_law_is_tuple" 5 F__law_is_tuple) (c_expected_most : CalF P w G.K mg base G 4 "expected_most" 2 F_expected_most) (c_used_chances : CalF P w G.K mg base G 3 "used_chances" 2 F_used_chances) (c_apart_chance : CalF P w G.K mg base G 3 "apart_chance" 2 F_apart_chance) (c_most_chance : CalF P w G.K mg base G 4 "most_chance" 3 F_most_chance) (c_share_out : CalF P w G.K mg base G 4 "share_out" 2 F_share_out) (c_in_turn : CalF P w G.K mg base G 4 "in_turn" 2 F_in_turn) (c_least_ratio : CalF P w G.K mg base G 4 "least_ratio" 2 F_least_ratio) (c_count_shares : CalF P w G.K mg base G 4 "count_shares" 2 F_count_shares) (c_Shares_init : MakF P w G.K mg base G 1 "Shares" 1 2 F_Shares_init) (c_Shares_shows : MetF P w G.K mg base G 3 "shows" 1 3 F_Shares_shows) {f c : Addr} {A : Around} {outer : List Env} {s : Shared} {H : Hp} {E : XK} {Pt : Addr} (hG : ∀ j, G.lam j = lams__law_numbers_right (X__law_numbers_right P w G.K mg base f c A outer s H E) j) (L : LamT (X__law_numbers_right P w G.K mg base f c A outer s H E) G c Pt) (hr : Room 6 (X__law_numbers_right P w G.K mg base f c A outer s H E).A) : SBt (X__law_numbers_right P w G.K mg base f c A outer s H E) G E (defBody (st 59)) fs__law_numbers_right (fun D σ H => rdS G E fsB__law_numbers_right { D with nx := fun σ' H' => (rdS G E fsC__law_numbers_right) D σ' H' } σ H) := by
  have M : Amb (X__law_numbers_right P w G.K mg base f c A outer s H E) G E := amb_of
  have hr5 : Room 5 (X__law_numbers_right P w G.K mg base f c A outer s H E).A := hr.mono (by decide)
  have m := m__law_numbers_right T c_expected_most c_used_chances c_apart_chance c_most_chance c_share_out c_in_turn c_least_ratio c_count_shares c_Shares_init c_Shares_shows hG
  have B2 : SB (X__law_numbers_right P w G.K mg base f c A outer s H E) G E ((defBody (st 59)).drop 6) fsC__law_numbers_right := by
    unfold fsC__law_numbers_right
    exact (b_cons (S_set n__law_numbers_right.nd (s_call M hr c__law_pick (s_cons (s_var 0) (s_cons (s_lst (s_cons (s_tup (s_cons s_int s_nil)) (s_cons (s_tup (s_cons s_int (s_cons s_int s_nil))) (s_cons (s_tup (s_cons s_int s_nil)) (s_cons (s_tup (s_cons s_int s_nil)) (s_cons (s_tup s_nil) (s_cons (s_repT M.K (s_tup (s_cons s_int s_nil)) s_int) (s_cons (s_repT M.K (s_tup (s_cons s_int s_nil)) s_int) (s_cons (s_lst (s_cons s_int s_nil)) (s_cons (s_tup (s_cons s_bl s_nil)) (s_cons s_non (s_cons (s_tup (s_cons s_int (s_cons s_int s_nil))) (s_cons (s_tup (s_cons s_int (s_cons s_int s_nil))) s_nil))))))))))))) s_nil))) (i := 6)) (b_cons (S_set n__law_numbers_right.nd (s_call M hr c__law_pick (s_cons (s_var 0) (s_cons (s_lst (s_cons s_int (s_cons s_int (s_cons s_int (s_cons (s_neg s_int) (s_cons s_bl (s_cons s_non (s_cons s_int s_nil)))))))) s_nil))) (i := 7)) (b_cons (S_set n__law_numbers_right.nd (s_call M hr c__law_first (s_cons (s_lst (s_cons (s_call M hr c__law_no (s_cons (s_call M hr c__law_is_tuple (s_cons (s_var 6) (s_cons s_int (s_cons s_int (s_cons s_int (s_cons s_int s_nil)))))) (s_cons (s_str 7) s_nil))) (s_cons (s_call M hr c__law_no (s_cons (s_call M hr c__law_is_number (s_cons (s_var 7) (s_cons s_int (s_cons s_int s_nil)))) (s_cons (s_str 5) s_nil))) s_nil))) s_nil)) (i := 4)) (b_cons (S_set n__law_numbers_right.nd (s_lst (s_cons (s_lam 4 L rfl (ndef_free (sc := defScope (st 59)) (fr := ["_law_capacities", "_law_shared_now"]) (by decide +kernel)) (hG 4)) (s_cons (s_lam 5 L rfl (ndef_free (sc := defScope (st 59)) (fr := ["_law_capacities", "_law_shared_now"]) (by decide +kernel)) (hG 5)) (s_cons (s_lam 6 L rfl (ndef_free (sc := defScope (st 59)) (fr := ["_law_capacities", "_law_shared_now"]) (by decide +kernel)) (hG 6)) s_nil)))) (i := 5)) (b_cons (S_set n__law_numbers_right.nd (s_cat (s_var 5) (s_lst (s_cons (s_lam 7 L rfl (ndef_free (sc := defScope (st 59)) (fr := ["_law_capacities", "_law_shared_now"]) (by decide +kernel)) (hG 7)) (s_cons (s_lam 8 L rfl (ndef_free (sc := defScope (st 59)) (fr := ["_law_capacities", "_law_shared_now"]) (by decide +kernel)) (hG 8)) s_nil)))) (i := 5)) (b_one (S_ret (s_all M T.all (s_lcW 25 M n__law_numbers_right.nd m (i_list M.K (s_var 5) y_one) (show blkC N__law_numbers_right (defScope (st 59)) _ [("_law_call", 8)] = true by decide +kernel) (fun _ _ _ _ _ => (pg_name (i := 8) n__law_numbers_right.nd rfl (Or.inl rfl))) (fun σ t B ce fp e LS => by subst e; exact c_cmp c_eq (c_word rfl T W LS hr (by decide) (s_var 8)) (s_var 4)))))))))))
  have B1 : SBt (X__law_numbers_right P w G.K mg base f c A outer s H E) G E ((defBody (st 59)).drop 1) fsB__law_numbers_right (rdS G E fsC__law_numbers_right) := by
    unfold fsB__law_numbers_right
    exact (bt_cons (S_set n__law_numbers_right.nd (s_call M hr c__law_pick (s_cons (s_var 0) (s_cons (s_lst (s_cons s_int (s_cons s_int (s_cons s_int (s_cons (s_neg s_int) (s_cons s_bl (s_cons s_non s_nil))))))) s_nil))) (i := 3)) (bt_cons (S_set n__law_numbers_right.nd (s_call M hr c__law_first (s_cons (s_lst (s_cons (s_call M hr c__law_no (s_cons (s_call M hr c__law_is_number (s_cons (s_var 1) (s_cons s_int (s_cons s_int s_nil)))) (s_cons (s_str 5) s_nil))) (s_cons (s_call M hr c__law_no (s_cons (s_call M hr c__law_is_number (s_cons (s_var 2) (s_cons s_int (s_cons s_int s_nil)))) (s_cons (s_str 6) s_nil))) s_nil))) s_nil)) (i := 4)) (bt_cons (S_set n__law_numbers_right.nd (s_lst (s_cons (s_lam 0 L rfl (ndef_free (sc := defScope (st 59)) (fr := ["_law_items", "_law_servers"]) (by decide +kernel)) (hG 0)) (s_cons (s_lam 1 L rfl (ndef_free (sc := defScope (st 59)) (fr := ["_law_items", "_law_servers"]) (by decide +kernel)) (hG 1)) (s_cons (s_lam 2 L rfl (ndef_free (sc := defScope (st 59)) (fr := ["_law_items", "_law_servers"]) (by decide +kernel)) (hG 2)) s_nil)))) (i := 5)) (bt_cons (S_if (s_val (s_any M T.any (s_lcW 25 M n__law_numbers_right.nd m (i_list M.K (s_var 5) y_one) (show blkC N__law_numbers_right (defScope (st 59)) _ [("_law_call", 8)] = true by decide +kernel) (fun _ _ _ _ _ => (pg_name (i := 8) n__law_numbers_right.nd rfl (Or.inl rfl))) (fun σ t B ce fp e LS => by subst e; exact c_cmp c_ne (c_word rfl T W LS hr (by decide) (s_var 8)) (s_var 4))))) (b_one (S_ret s_bl)) b_nil) (bt_cons (S_if (t_cmp c_ne (s_word rfl T W m.here hr (by decide) (s_lam 3 L rfl (ndef_free (sc := defScope (st 59)) (fr := ["_law_items", "_law_servers", "_law_most"]) (by decide +kernel)) (hG 3))) (s_call M hr c__law_first (s_cons (s_lst (s_cons (s_var 4) (s_cons (s_call M hr c__law_no (s_cons (s_call M hr c__law_is_number (s_cons (s_var 3) (s_cons s_int (s_cons s_int s_nil)))) (s_cons (s_str 4) s_nil))) s_nil))) s_nil))) (b_one (S_ret s_bl)) b_nil) (bt_nil B2))))))
  unfold fs__law_numbers_right
  exact (bt_cons (S_asgT M n__law_numbers_right.nd (s_cons (s_call M hr c__law_pick (s_cons (s_var 0) (s_cons (s_lst (s_cons s_int (s_cons s_int (s_cons s_int (s_cons (s_neg s_int) (s_cons s_bl (s_cons s_non (s_cons s_int (s_cons (s_str 9) s_nil))))))))) s_nil))) (s_cons (s_call M hr c__law_pick (s_cons (s_var 0) (s_cons (s_lst (s_cons s_int (s_cons s_int (s_cons s_int (s_cons s_int (s_cons s_non (s_cons s_bl s_nil))))))) s_nil))) s_nil)) (i := 1) (j := 2)) (bt_nil B1))
end
end AIx
namespace AIx
open PySem L2 NdefX
section
variable {P : Program} {w : World} {mg : Str → Option Value} {base : Heap} {G : GE}
def fLmr (fo : FE) : FE := fun σ h k x => fo σ h (fun v h => match isLst h v with | true => mRev v h k | false => false) x
theorem s_lmr {X : Cx} {G : GE} {E : XK} {o : Expr} {fo : FE} {apos cpos : Pos} (hK : X.K = G.K) (ho : SE X G E o fo) (hbase : attributeBase o "reverse" X.env (eval o X.env) = eval o X.env := by rfl) (hline : (apos.endLine == cpos.line) = true := by rfl) : SE X G E (.Call (.Attribute o "reverse" apos) [] [] cpos) (fLmr fo) := s_lm0 hK PySem.F.slot_list_reverse PySem.F.type_list_reverse mt_reverse ho m_rev hbase hline
structure Ox (G : GE) : Prop where
  ne : ∀ c, c < 2 → PySem.W.findIn G.K (.ref (G.cls c)) "__ne__" = some (some (.builtin "object.__ne__"))
  mo : ∀ c, c < 2 → PySem.W.mroIn G.K (G.cls c) (.type "object") = some true
  nf : ∀ c, c < 2 → ∀ d, d < 2 → PySem.W.notFirst G.K (G.cls c) (.ref (G.cls d)) = true
/-! _law_objects_right -/
abbrev N__law_objects_right : List Str := ["_law_call", "_law_found", "_law_late"]
theorem n__law_objects_right : FnScope N__law_objects_right [] (defScope (st 60)) := ⟨rfl, rfl, rfl, by decide +kernel, rfl, by decide +kernel, by decide +kernel⟩
def e__law_objects_right_0 : Expr := lamL (bodyAt 60 2) 0
def fl__law_objects_right_0 : FE := (fCall F_settle (fCons (fTup (fCons (fC (.int 2)) (fCons (fC (.int 2)) fNil))) (fCons (fTup (fCons (fC (.int 0)) (fCons (fC (.int 0)) (fCons (fC (.int 0)) fNil)))) fNil)))
def e__law_objects_right_1 : Expr := lamL (bodyAt 60 2) 1
def fl__law_objects_right_1 : FE := (fCall F_settled_loads (fCons (fTup (fCons (fC (.int 2)) (fCons (fC (.int 2)) fNil))) (fCons (fTup (fCons (fC (.int 0)) (fCons (fC (.int 0)) (fCons (fC (.int 0)) fNil)))) fNil)))
def e__law_objects_right_2 : Expr := lamL (bodyAt 60 2) 2
def fl__law_objects_right_2 : FE := (fCall F_in_turn (fCons (fTup (fCons (fC (.int 2)) (fCons (fC (.int 1)) fNil))) (fCons (fC (.int 5)) fNil)))
def LT__law_objects_right : LTab := fun j => match j with | 0 => some ([], fl__law_objects_right_0) | 1 => some ([], fl__law_objects_right_1) | 2 => some ([], fl__law_objects_right_2) | _ => none
abbrev X__law_objects_right (P : Program) (w : World) (K : PySem.W.Frag) (mg : Str → Option Value) (base : Heap) (f c : Addr) (A : Around) (outer : List Env) (s : Shared) (H : Hp) (E : XK) : Cx := cxOf (L2.CX P w) P w K mg base N__law_objects_right "_law_objects_right" (defScope (st 60)) f (.ref c) A outer s H E
def lams__law_objects_right (X : Cx) : Nat → Option LamD := fun j => match j with | 0 => lamOfE X e__law_objects_right_0 | 1 => lamOfE X e__law_objects_right_1 | 2 => lamOfE X e__law_objects_right_2 | _ => none
def fs__law_objects_right : FS := (fSeq (fIte (fOrT (fTest (fOpH (gOwn not 0 0 F_Settled_eq) (fMakeN 0 F_Settled_init (fCons (fLst (fCons (fC (.int 0)) (fCons (fC (.int 1)) fNil))) fNil)) (fMakeN 0 F_Settled_init (fCons (fTup (fCons (fC (.int 0)) (fCons (fC (.int 1)) fNil))) fNil)))) (fOrT (fTest (fOpH (gOwn id 0 0 F_Settled_eq) (fMakeN 0 F_Settled_init (fCons (fTup (fCons (fC (.int 0)) fNil)) fNil)) (fMakeN 0 F_Settled_init (fCons (fTup (fCons (fC (.int 1)) fNil)) fNil)))) (fOrT (fTest (fOpH (gOwn not 1 1 F_Shares_eq) (fMakeN 1 F_Shares_init (fCons (fLst (fCons (fC (.int 1)) (fCons (fC (.int 2)) fNil))) fNil)) (fMakeN 1 F_Shares_init (fCons (fTup (fCons (fC (.int 1)) (fCons (fC (.int 2)) fNil))) fNil)))) (fTest (fOpH (gOwn id 1 1 F_Shares_eq) (fMakeN 1 F_Shares_init (fCons (fTup (fCons (fC (.int 1)) fNil)) fNil)) (fMakeN 1 F_Shares_init (fCons (fTup (fCons (fC (.int 2)) fNil)) fNil))))))) (fRet (fC (.bl false))) fSkip) (fSeq (fIte (fOrT (fTest (fOpH (gOwn id 0 1 F_Settled_eq) (fMakeN 0 F_Settled_init (fCons (fTup (fCons (fC (.int 0)) fNil)) fNil)) (fMakeN 1 F_Shares_init (fCons (fTup (fCons (fC (.int 0)) fNil)) fNil)))) (fTest (fOpH (gOwn id 1 0 F_Shares_eq) (fMakeN 1 F_Shares_init (fCons (fTup (fCons (fC (.int 0)) fNil)) fNil)) (fMakeN 0 F_Settled_init (fCons (fTup (fCons (fC (.int 0)) fNil)) fNil))))) (fRet (fC (.bl false))) fSkip) (fSeq (fFor 25 (g1 0) (fIt isTp yOne (fTup (fCons (fLam 0) (fCons (fLam 1) (fCons (fLam 2) fNil))))) (fSeq (fPar 1 2 (fCons (fLamCall LT__law_objects_right 0) (fCons (fLamCall LT__law_objects_right 0) fNil))) (fSeq (fDrop (fLm mApp (fVar 1) (fCons (fC (.int 7)) fNil))) (fSeq (fDrop (fLmr (fVar 1))) (fIte (fOrT (fTest (fOpH (gSeq not isLst) (fLamCall LT__law_objects_right 0) (fVar 2))) (fTest (fOpH (lift2 gNe) (fOpH (lift2 gAdd) (fBlt (one bLen) (fCons (fVar 2) fNil)) (fC (.int 1))) (fBlt (one bLen) (fCons (fVar 1) fNil))))) (fRet (fC (.bl false))) fSkip))))) (fRet (fC (.bl true))))))
theorem li__law_objects_right_0 (T : Fx G mg) (c_settle : CalF P w G.K mg base G 3 "settle" 2 F_settle) (c_settled_loads : CalF P w G.K mg base G 3 "settled_loads" 2 F_settled_loads) (c_in_turn : CalF P w G.K mg base G 4 "in_turn" 2 F_in_turn) {f c : Addr} {A : Around} {outer : List Env} {s : Shared} {H : Hp} {E : XK} : LamI P w mg base G (lamD (X__law_objects_right P w G.K mg base f c A outer s H E) (lamP e__law_objects_right_0) (lamBd e__law_objects_right_0) (lamSc e__law_objects_right_0)) ["_law_ka"] "_law_ka" [] 4 fl__law_objects_right_0 := by
  refine ⟨nscope_by (show nscB ["_law_ka"] ["_law_ka"] [] (lamSc e__law_objects_right_0) = true by decide +kernel), fun _ _ _ _ => rfl, fun A' outer' s' H' E' f' c' hr => ?_⟩
  have M : Amb (ncx (L2.CX P w) P w G.K mg base ["_law_ka"] (lamF (lamD (X__law_objects_right P w G.K mg base f c A outer s H E) (lamP e__law_objects_right_0) (lamBd e__law_objects_right_0) (lamSc e__law_objects_right_0)) c') f' A' outer' s' H' E') G E' := amb_ncx
  unfold fl__law_objects_right_0
  exact (s_call M hr c_settle (s_cons (s_tup (s_cons s_int (s_cons s_int s_nil))) (s_cons (s_tup (s_cons s_int (s_cons s_int (s_cons s_int s_nil)))) s_nil)))
theorem li__law_objects_right_1 (T : Fx G mg) (c_settle : CalF P w G.K mg base G 3 "settle" 2 F_settle) (c_settled_loads : CalF P w G.K mg base G 3 "settled_loads" 2 F_settled_loads) (c_in_turn : CalF P w G.K mg base G 4 "in_turn" 2 F_in_turn) {f c : Addr} {A : Around} {outer : List Env} {s : Shared} {H : Hp} {E : XK} : LamI P w mg base G (lamD (X__law_objects_right P w G.K mg base f c A outer s H E) (lamP e__law_objects_right_1) (lamBd e__law_objects_right_1) (lamSc e__law_objects_right_1)) ["_law_kb"] "_law_kb" [] 4 fl__law_objects_right_1 := by
  refine ⟨nscope_by (show nscB ["_law_kb"] ["_law_kb"] [] (lamSc e__law_objects_right_1) = true by decide +kernel), fun _ _ _ _ => rfl, fun A' outer' s' H' E' f' c' hr => ?_⟩
  have M : Amb (ncx (L2.CX P w) P w G.K mg base ["_law_kb"] (lamF (lamD (X__law_objects_right P w G.K mg base f c A outer s H E) (lamP e__law_objects_right_1) (lamBd e__law_objects_right_1) (lamSc e__law_objects_right_1)) c') f' A' outer' s' H' E') G E' := amb_ncx
  unfold fl__law_objects_right_1
  exact (s_call M hr c_settled_loads (s_cons (s_tup (s_cons s_int (s_cons s_int s_nil))) (s_cons (s_tup (s_cons s_int (s_cons s_int (s_cons s_int s_nil)))) s_nil)))
theorem li__law_objects_right_2 (T : Fx G mg) (c_settle : CalF P w G.K mg base G 3 "settle" 2 F_settle) (c_settled_loads : CalF P w G.K mg base G 3 "settled_loads" 2 F_settled_loads) (c_in_turn : CalF P w G.K mg base G 4 "in_turn" 2 F_in_turn) {f c : Addr} {A : Around} {outer : List Env} {s : Shared} {H : Hp} {E : XK} : LamI P w mg base G (lamD (X__law_objects_right P w G.K mg base f c A outer s H E) (lamP e__law_objects_right_2) (lamBd e__law_objects_right_2) (lamSc e__law_objects_right_2)) ["_law_kc"] "_law_kc" [] 4 fl__law_objects_right_2 := by
  refine ⟨nscope_by (show nscB ["_law_kc"] ["_law_kc"] [] (lamSc e__law_objects_right_2) = true by decide +kernel), fun _ _ _ _ => rfl, fun A' outer' s' H' E' f' c' hr => ?_⟩
  have M : Amb (ncx (L2.CX P w) P w G.K mg base ["_law_kc"] (lamF (lamD (X__law_objects_right P w G.K mg base f c A outer s H E) (lamP e__law_objects_right_2) (lamBd e__law_objects_right_2) (lamSc e__law_objects_right_2)) c') f' A' outer' s' H' E') G E' := amb_ncx
  unfold fl__law_objects_right_2
  exact (s_call M hr c_in_turn (s_cons (s_tup (s_cons s_int (s_cons s_int s_nil))) (s_cons s_int s_nil)))
theorem m__law_objects_right (T : Fx G mg) (c_settle : CalF P w G.K mg base G 3 "settle" 2 F_settle) (c_settled_loads : CalF P w G.K mg base G 3 "settled_loads" 2 F_settled_loads) (c_in_turn : CalF P w G.K mg base G 4 "in_turn" 2 F_in_turn) {f c : Addr} {A : Around} {outer : List Env} {s : Shared} {H : Hp} {E : XK} (hG : ∀ j, G.lam j = lams__law_objects_right (X__law_objects_right P w G.K mg base f c A outer s H E) j) : LamMk (X__law_objects_right P w G.K mg base f c A outer s H E) G 5 LT__law_objects_right [] := by
  intro j D js fe h1 h2
  rw [hG] at h2
  match j with
  | 0 =>
    cases (show some ([], fl__law_objects_right_0) = some (js, fe) from h1)
    cases (show some (lamD (X__law_objects_right P w G.K mg base f c A outer s H E) (lamP e__law_objects_right_0) (lamBd e__law_objects_right_0) (lamSc e__law_objects_right_0)) = some D from h2)
    exact ⟨by decide, _, _, _, _, li__law_objects_right_0 T c_settle c_settled_loads c_in_turn, by decide, rfl, fun ok => Caps.made ok (ndef_free (sc := defScope (st 60)) (fr := []) (by decide +kernel)) (ndef_fr (sc := defScope (st 60)) (by decide +kernel)) rfl⟩
  | 1 =>
    cases (show some ([], fl__law_objects_right_1) = some (js, fe) from h1)
    cases (show some (lamD (X__law_objects_right P w G.K mg base f c A outer s H E) (lamP e__law_objects_right_1) (lamBd e__law_objects_right_1) (lamSc e__law_objects_right_1)) = some D from h2)
    exact ⟨by decide, _, _, _, _, li__law_objects_right_1 T c_settle c_settled_loads c_in_turn, by decide, rfl, fun ok => Caps.made ok (ndef_free (sc := defScope (st 60)) (fr := []) (by decide +kernel)) (ndef_fr (sc := defScope (st 60)) (by decide +kernel)) rfl⟩
  | 2 =>
    cases (show some ([], fl__law_objects_right_2) = some (js, fe) from h1)
    cases (show some (lamD (X__law_objects_right P w G.K mg base f c A outer s H E) (lamP e__law_objects_right_2) (lamBd e__law_objects_right_2) (lamSc e__law_objects_right_2)) = some D from h2)
    exact ⟨by decide, _, _, _, _, li__law_objects_right_2 T c_settle c_settled_loads c_in_turn, by decide, rfl, fun ok => Caps.made ok (ndef_free (sc := defScope (st 60)) (fr := []) (by decide +kernel)) (ndef_fr (sc := defScope (st 60)) (by decide +kernel)) rfl⟩
  | j + 3 => cases (show (none : Option (List Nat × FE)) = some (js, fe) from h1)
theorem b__law_objects_right (T : Fx G mg) (O : Ox G) (c_Shares_eq : MetF P w G.K mg base G 1 "__eq__" 1 2 F_Shares_eq) (c_Shares_init : MakF P w G.K mg base G 1 "Shares" 1 2 F_Shares_init) (c_Settled_eq : MetF P w G.K mg base G 1 "__eq__" 0 2 F_Settled_eq) (c_Settled_init : MakF P w G.K mg base G 1 "Settled" 0 2 F_Settled_init) (c_settle : CalF P w G.K mg base G 3 "settle" 2 F_settle) (c_settled_loads : CalF P w G.K mg base G 3 "settled_loads" 2 F_settled_loads) (c_in_turn : CalF P w G.K mg base G 4 "in_turn" 2 F_in_turn) {f c : Addr} {A : Around} {outer : List Env} {s : Shared} {H : Hp} {E : XK} {Pt : Addr} (hG : ∀ j, G.lam j = lams__law_objects_right (X__law_objects_right P w G.K mg base f c A outer s H E) j) (L : LamT (X__law_objects_right P w G.K mg base f c A outer s H E) G c Pt) (hr : Room 6 (X__law_objects_right P w G.K mg base f c A outer s H E).A) : SB (X__law_objects_right P w G.K mg base f c A outer s H E) G E (defBody (st 60)) fs__law_objects_right := by
  have M : Amb (X__law_objects_right P w G.K mg base f c A outer s H E) G E := amb_of
  have hr5 : Room 5 (X__law_objects_right P w G.K mg base f c A outer s H E).A := hr.mono (by decide)
  have m := m__law_objects_right T c_settle c_settled_loads c_in_turn hG
  unfold fs__law_objects_right
  exact (b_cons (S_if (t_w (w_or (t_cmp (c_neO M.K c_Settled_eq hr (by decide) (O.ne 0 (by decide)) (O.mo 0 (by decide))) (s_makeN 0 M hr c_Settled_init (s_cons (s_lst (s_cons s_int (s_cons s_int s_nil))) s_nil)) (s_makeN 0 M hr c_Settled_init (s_cons (s_tup (s_cons s_int (s_cons s_int s_nil))) s_nil))) (w_or (t_cmp (c_eqO M.K c_Settled_eq hr (by decide) (O.nf 0 (by decide) 0 (by decide))) (s_makeN 0 M hr c_Settled_init (s_cons (s_tup (s_cons s_int s_nil)) s_nil)) (s_makeN 0 M hr c_Settled_init (s_cons (s_tup (s_cons s_int s_nil)) s_nil))) (w_or (t_cmp (c_neO M.K c_Shares_eq hr (by decide) (O.ne 1 (by decide)) (O.mo 1 (by decide))) (s_makeN 1 M hr c_Shares_init (s_cons (s_lst (s_cons s_int (s_cons s_int s_nil))) s_nil)) (s_makeN 1 M hr c_Shares_init (s_cons (s_tup (s_cons s_int (s_cons s_int s_nil))) s_nil))) (w_or1 (t_cmp (c_eqO M.K c_Shares_eq hr (by decide) (O.nf 1 (by decide) 1 (by decide))) (s_makeN 1 M hr c_Shares_init (s_cons (s_tup (s_cons s_int s_nil)) s_nil)) (s_makeN 1 M hr c_Shares_init (s_cons (s_tup (s_cons s_int s_nil)) s_nil)))))))) (b_one (S_ret s_bl)) b_nil) (b_cons (S_if (t_w (w_or (t_cmp (c_eqO M.K c_Settled_eq hr (by decide) (O.nf 0 (by decide) 1 (by decide))) (s_makeN 0 M hr c_Settled_init (s_cons (s_tup (s_cons s_int s_nil)) s_nil)) (s_makeN 1 M hr c_Shares_init (s_cons (s_tup (s_cons s_int s_nil)) s_nil))) (w_or1 (t_cmp (c_eqO M.K c_Shares_eq hr (by decide) (O.nf 1 (by decide) 0 (by decide))) (s_makeN 1 M hr c_Shares_init (s_cons (s_tup (s_cons s_int s_nil)) s_nil)) (s_makeN 0 M hr c_Settled_init (s_cons (s_tup (s_cons s_int s_nil)) s_nil)))))) (b_one (S_ret s_bl)) b_nil) (b_cons (S_for 25 M (i_tup M.K (s_tup (s_cons (s_lam 0 L rfl (ndef_free (sc := defScope (st 60)) (fr := []) (by decide +kernel)) (hG 0)) (s_cons (s_lam 1 L rfl (ndef_free (sc := defScope (st 60)) (fr := []) (by decide +kernel)) (hG 1)) (s_cons (s_lam 2 L rfl (ndef_free (sc := defScope (st 60)) (fr := []) (by decide +kernel)) (hG 2)) s_nil)))) y_one) (pg_name (i := 0) n__law_objects_right.nd rfl (Or.inl rfl)) (tg1 0) (b_cons (S_par M.calm n__law_objects_right.nd (s_cons (s_lamcall (jr := 0) M m hr5 (i := 0)) (s_cons (s_lamcall (jr := 0) M m hr5 (i := 0)) s_nil)) (i := 1) (j := 2)) (b_cons (S_drop (s_lm M.K PySem.F.slot_list_append PySem.F.type_list_append mt_append (s_var 1) (s_cons s_int s_nil) m_app)) (b_cons (S_drop (s_lmr M.K (s_var 1))) (b_one (S_if (t_w (w_or (t_cmp (c_neL M.K hr.units) (s_lamcall (jr := 0) M m hr5 (i := 0)) (s_var 2)) (w_or1 (t_cmp c_ne (s_add (s_len M T.len (s_var 2)) s_int) (s_len M T.len (s_var 1)))))) (b_one (S_ret s_bl)) b_nil)))))) (b_one (S_ret s_bl)))))
end
end AIx
namespace AIx
open PySem L2 NdefX
/-! ### the makers of lambdas: each answers True -/
section
variable {G : GE} {ι ι' : Nat → Addr} {h h' : AH} {H H' : Hp} {n : Nat} {l : Nat → Option LamD}
theorem HRel.sub (r : HRel G ι h H) (e : h[n]? = some .draw) : HRel (G.wl l) (fun _ => ι n) [.draw] H := by
  have hn : n < h.length := (List.getElem?_eq_some_iff.mp e).1
  refine ⟨fun a b ha hb _ => ?_, fun m o q => ?_, ?_, r.tab⟩
  · have h1 : a < 1 := ha
    have h2 : b < 1 := hb
    omega
  · match m, q with
    | 0, q => cases q; exact (show ∃ k : Int, H (ι n) = some (.lst [.ref G.scr, .int k]) from r.obj n _ e)
    | m + 1, q => cases q
  · rcases r.scr with t | t | t
    · exact .inl ⟨t.1, fun _ _ => t.2 n hn⟩
    · exact .inr (.inl t)
    · exact .inr (.inr t)
theorem HRel.none {G : GE} {ι ι2 : Nat → Addr} {h : AH} {H : Hp} {l : Nat → Option LamD} (r : HRel G ι h H) : HRel (G.wl l) ι2 [] H := by
  refine ⟨fun a b ha hb _ => absurd ha (Nat.not_lt_zero _), fun m o q => (nomatch q), ?_, r.tab⟩
  rcases r.scr with t | t | t
  · exact .inl ⟨t.1, fun _ q => absurd q (Nat.not_lt_zero _)⟩
  · exact .inr (.inl t)
  · exact .inr (.inr t)
theorem Stp.sub (r : HRel G ι h H) (e : h[n]? = some .draw) (s : Stp (G.wl l) (fun _ => ι n) [.draw] H ι' h' H') (e' : h'[0]? = some .draw) : Stp G ι h H ι h H' := by
  have hn : n < h.length := (List.getElem?_eq_some_iff.mp e).1
  have kp : ∀ b u, H b = some u → b ≠ ι n → (∀ ps, u ≠ .tbl ps) → H' b = some u := fun b u q ne t => s.kp b u q (fun m _ => Ne.symm ne) t
  have d0 : ∃ k : Int, H (ι n) = some (.lst [.ref G.scr, .int k]) := r.obj n _ e
  have d1 : ∃ k : Int, H' (ι n) = some (.lst [.ref G.scr, .int k]) := by
    have q := s.rel.obj 0 _ e'
    rw [s.agr 0 (Nat.zero_lt_one)] at q
    exact q
  have ne : ∀ m o, h[m]? = some o → m ≠ n → ι m ≠ ι n := fun m o q z y => z (r.inj m n (List.getElem?_eq_some_iff.mp q).1 hn y)
  refine ⟨Nat.le_refl _, fun _ _ => rfl, ⟨r.inj, fun m o q0 => ?_, ?_, s.rel.tab⟩, fun a u q f t => kp a u q (fun z => f n hn z.symm) t, fun n a b => absurd b (Nat.not_lt.mpr a), s.mono, s.im⟩
  · by_cases hm : m = n
    · subst hm
      rw [e] at q0
      cases q0
      exact d1
    · have hne := ne m o q0 hm
      have q := r.obj m o q0
      cases o with
      | lst xs => obtain ⟨cs, e1, q1⟩ := q; exact ⟨cs, kp _ _ e1 hne (fun _ z => by cases z), q1⟩
      | tup xs => obtain ⟨cs, e1, q1⟩ := q; exact ⟨cs, kp _ _ e1 hne (fun _ z => by cases z), q1⟩
      | ptup xs => obtain ⟨cs, o, e1, d, q1⟩ := q; exact ⟨cs, o, kp _ _ e1 hne (fun _ z => by cases z), d, q1⟩
      | ins c v => obtain ⟨dx, fs, e1, q1⟩ := q; exact ⟨dx, fs, kp _ _ e1 hne (fun _ z => by cases z), q1⟩
      | draw => obtain ⟨z, e1⟩ := q; exact ⟨z, kp _ _ e1 hne (fun _ z => by cases z)⟩
      | lam j =>
        obtain ⟨D, c', e1, e2, e3⟩ := q
        refine ⟨D, c', e1, kp _ _ e2 hne lamO_ne, kp _ _ e3 (fun z => ?_) (fun _ z => by unfold LamX.CodeO at z; cases z)⟩
        obtain ⟨k, d⟩ := d0
        rw [z, d] at e3
        unfold LamX.CodeO at e3
        cases e3
      | gone => exact s.mono _ q
  · rcases r.scr with t | ⟨o, t⟩ | t
    · exact .inl ⟨kp _ _ t.1 (fun z => t.2 n hn z.symm) (fun _ z => by cases z), t.2⟩
    · refine .inr (.inl ⟨o, kp _ _ t (fun z => ?_) (fun _ z => by cases z)⟩)
      obtain ⟨k, d⟩ := d0
      rw [z, d] at t
      cases t
    · exact .inr (.inr t)
theorem Stp.none (r : HRel G ι h H) (s : Stp (G.wl l) ι [] H ι' h' H') : Stp G ι h H ι h H' :=
  have t : Stp G ι [] H ι [] H' := ⟨Nat.le_refl _, fun _ _ => rfl, HRel.none (G := G.wl l) (l := G.lam) s.rel, fun a o e _ t => s.kp a o e (fun n q => absurd q (Nat.not_lt_zero _)) t, fun n a b => absurd b (Nat.not_lt.mpr a), s.mono, s.im⟩
  Stp.iso r t
end
/-- a run of a maker's body, from the draw alone -/
def RunD (X : Cx) (G : GE) (m : Nat) (body : List Stmt) : Prop := ∃ t : TS, PSs X body t ∧ ∀ (ι : Nat → Addr) (H : Hp) (σc : L2.St) (D : Ends), HRel G ι [.draw] H → SRel ι 1 (some (.ref 0) :: List.replicate m none) σc →
  (∀ ι' h' H', Stp G ι [.draw] H ι' h' H' → h'[0]? = some .draw → D.rt (.bl true) H') → t D σc H
def RunN (X : Cx) (G : GE) (m : Nat) (body : List Stmt) : Prop := ∃ t : TS, PSs X body t ∧ ∀ (ι : Nat → Addr) (H : Hp) (σc : L2.St) (D : Ends), HRel G ι [] H → SRel ι 0 (List.replicate m none) σc →
  (∀ ι' h' H', Stp G ι [] H ι' h' H' → D.rt (.bl true) H') → t D σc H
def okD : KV := fun v h => match v, h with | .bl true, .draw :: _ => true | _, _ => false
def okT : KV := fun v _ => match v with | .bl true => true | _ => false
def okA (n : Nat) : KS := fun σ h => match σ, h with | some (.ref 0) :: _, .draw :: _ => Nat.beq (lenN σ) n | _, _ => false
def noS : KS := fun _ _ => false
theorem okD_ok {v : AV} {h : AH} (e : okD v h = true) : v = .bl true ∧ h[0]? = some .draw := by
  unfold okD at e
  split at e
  · exact ⟨rfl, rfl⟩
  · cases e
theorem okT_ok {v : AV} {h : AH} (e : okT v h = true) : v = .bl true := by
  unfold okT at e
  split at e
  · rfl
  · cases e
theorem okA_ok {n : Nat} {σ : AS} {h : AH} (e : okA n σ h = true) : ∃ r h', σ = some (.ref 0) :: r ∧ h = .draw :: h' ∧ r.length + 1 = n := by
  unfold okA at e
  split at e
  · rw [lenN_eq] at e
    exact ⟨_, _, rfl, rfl, Nat.eq_of_beq_eq_true e⟩
  · cases e
section
variable {X : Cx} {G : GE} {E : XK} {body : List Stmt} {fs fsB : FS} {m : Nat}
theorem runD_of (b : SB X G E body fs) (k : fs (some (.ref 0) :: List.replicate m none) [.draw] noS okD noX = true) : RunD X G m body :=
  ⟨_, b, fun ι H σc D r s P => ⟨ι, _, [.draw], s, r, noS, okD, noX, k, ⟨(fun _ _ _ _ _ _ _ z => nomatch z), (fun ι' h' H' v c st vr e => by
    obtain ⟨rfl, e1⟩ := okD_ok e
    cases (show c = .bl true from vr)
    exact P _ _ _ st e1), (fun _ _ _ _ _ z => nomatch z)⟩⟩⟩
theorem runN_of (b : SB X G E body fs) (k : fs (List.replicate m none) [] noS okT noX = true) : RunN X G m body :=
  ⟨_, b, fun ι H σc D r s P => ⟨ι, _, [], s, r, noS, okT, noX, k, ⟨(fun _ _ _ _ _ _ _ z => nomatch z), (fun ι' h' H' v c st vr e => by
    obtain rfl := okT_ok e
    cases (show c = .bl true from vr)
    exact P _ _ _ st), (fun _ _ _ _ _ z => nomatch z)⟩⟩⟩
/-- .. cut in two -/
theorem runD_two (b : SBt X G E body fs (rdS G E fsB)) (k : fs (some (.ref 0) :: List.replicate m none) [.draw] (okA (m + 1)) okD noX = true) (kB : fsB (some (.ref 0) :: List.replicate m none) [.draw] noS okD noX = true) : RunD X G m body :=
  ⟨_, b, fun ι H σc D r s P => ⟨ι, _, [.draw], s, r, okA (m + 1), okD, noX, k, ⟨(fun ι1 h1 H1 σ1 σc1 st1 sr e => by
    obtain ⟨rr, h', rfl, rfl, hl⟩ := okA_ok e
    have st1d := st1
    have r1 : HRel G ι1 (.draw :: h') H1 := st1.rel
    have sub : HRel (G.wl G.lam) (fun _ => ι1 0) [.draw] H1 := HRel.sub r1 rfl
    have s1 : SRel (fun _ => ι1 0) 1 (some (.ref 0) :: List.replicate m none) σc1 := by
      refine ⟨by rw [← sr.1]; simp; omega, fun i v q => ?_⟩
      match i, q with
      | 0, q =>
        cases q
        obtain ⟨c, c1, c2⟩ := sr.2 0 (.ref 0) rfl
        exact ⟨c, c1, Nat.zero_lt_one, c2.2⟩
      | i + 1, q =>
        rw [List.getElem?_cons_succ, List.getElem?_replicate] at q
        split at q <;> cases q
    refine ⟨fun _ => ι1 0, _, [.draw], s1, sub, noS, okD, noX, kB, ⟨(fun _ _ _ _ _ _ _ z => nomatch z), (fun ι' h2 H' v c st vr e => ?_), (fun _ _ _ _ _ z => nomatch z)⟩⟩
    obtain ⟨rfl, e1⟩ := okD_ok e
    cases (show c = .bl true from vr)
    exact P _ _ _ (st1.trans (Stp.sub (l := G.lam) r1 rfl st e1)) rfl), (fun ι' h' H' v c st vr e => by
    obtain ⟨rfl, e1⟩ := okD_ok e
    cases (show c = .bl true from vr)
    exact P _ _ _ st e1), (fun _ _ _ _ _ z => nomatch z)⟩⟩⟩
end
def F_drawn : FF := fun as h k _ => match as with
  | [v] => (match isDraw h v with | true => k (.bl true) h | false => false)
  | _ => false
def F_none : FF := fun as h k _ => match as with
  | [] => k (.bl true) h
  | _ => false
section
variable {P : Program} {w : World} {mg : Str → Option Value} {base : Heap} {G : GE}
theorem isDraw_ok {h : AH} {v : AV} (e : isDraw h v = true) : ∃ n, v = .ref n ∧ h[n]? = some .draw := by
  unfold isDraw at e
  split at e
  · rename_i n
    rw [getO_eq] at e
    split at e
    · rename_i q; exact ⟨n, rfl, q⟩
    · cases e
  · cases e
/-- a def of the module whose code object lies at c -/
structure DC (K : PySem.W.Frag) (mg : Str → Option Value) (x : Str) (st : Stmt) (c : Addr) : Prop where
  ex : ∃ (f : Addr) (oc : Value) (od : Option Addr) (kV doc pm : Value) (an : Option Addr) (ct : Value) (osl : Array (Option Value)),
    K.lookup f = some ⟨oc, od, .func (PySem.W.fnOf x x (defArgs st) (defBody st) (defScope st) .none kV doc pm an (.ref c) ct), osl⟩ ∧ PySem.W.codeIn K (.ref c) x = true ∧ PySem.W.keepIn K (.ref f) = true ∧ mg x = some (.ref f)
theorem fn_drawn {f c : Addr} {x : Str} {st : Stmt} {k m : Nat} {N : List Str} {oc kV doc pm ct : Value} {od an : Option Addr} {osl : Array (Option Value)} (lk : G.K.lookup f = some ⟨oc, od, .func (PySem.W.fnOf x x (defArgs st) (defBody st) (defScope st) .none kV doc pm an (.ref c) ct), osl⟩) (hcd : PySem.W.codeIn G.K (.ref c) x = true)
    (S : FnScope N ["_law_draw"] (defScope st)) (hN : N.length = m + 1) (hb : ∀ (A : Around) (outer : List Env) (s : Shared) (H : Hp) (E : XK), Room k (A.deeper (PyProof.Rows.envOfC x (defScope st) s.heap.objs.size f (.ref c))) → ∃ l, RunD (cxOf (L2.CX P w) P w G.K mg base N x (defScope st) f (.ref c) A outer s H E) (G.wl l) m (defBody st)) (l : Nat → Option LamD) :
    FnOk P w G.K mg base (L2.CX P w) (k + 1) f (PySem.W.fnOf x x (defArgs st) (defBody st) (defScope st) .none kV doc pm an (.ref c) ct) ["_law_draw"] (spF (G.wl l) 1 F_drawn) := by
  refine fn_of lk hcd S (fun vs H Q E h => h.1) fun A outer s H vs Q E hr h => ?_
  obtain ⟨l', t, b, run⟩ := hb A outer s H E hr
  obtain ⟨hl, ι, h, as, kk, x', q, rr, e, Ps⟩ := h
  refine ⟨t, b, ?_⟩
  unfold F_drawn at e
  split at e
  · rename_i v
    split at e
    · rename_i hd
      obtain ⟨n, rfl, hn⟩ := isDraw_ok hd
      cases q with
      | cons q1 q2 =>
        cases q2
        obtain ⟨hlt, rfl⟩ := q1
        have rs : HRel (G.wl l') (fun _ => ι n) [.draw] H := HRel.sub (G := G.wl l) rr hn
        have sr : SRel (fun _ => ι n) 1 (some (.ref 0) :: List.replicate m none) (L2.start N [.ref (ι n)]) := by
          refine sr_start (n := 1) (as := [.ref 0]) (r := List.replicate m none) (.cons ⟨Nat.zero_lt_one, rfl⟩ .nil) rfl ?_
          rw [hN]
          rfl
        refine run _ _ _ _ rs sr fun ι' h' H' st e' => ?_
        exact Ps.ok _ _ _ (.bl true) (.bl true) (Stp.sub (G := G.wl l) (l := l') rr hn st e') rfl e
    · cases e
  · cases e
theorem fn_none {f c : Addr} {x : Str} {st : Stmt} {k m : Nat} {N : List Str} {oc kV doc pm ct : Value} {od an : Option Addr} {osl : Array (Option Value)} (lk : G.K.lookup f = some ⟨oc, od, .func (PySem.W.fnOf x x (defArgs st) (defBody st) (defScope st) .none kV doc pm an (.ref c) ct), osl⟩) (hcd : PySem.W.codeIn G.K (.ref c) x = true)
    (S : FnScope N [] (defScope st)) (hN : N.length = m) (hb : ∀ (A : Around) (outer : List Env) (s : Shared) (H : Hp) (E : XK), Room k (A.deeper (PyProof.Rows.envOfC x (defScope st) s.heap.objs.size f (.ref c))) → ∃ l, RunN (cxOf (L2.CX P w) P w G.K mg base N x (defScope st) f (.ref c) A outer s H E) (G.wl l) m (defBody st)) (l : Nat → Option LamD) :
    FnOk P w G.K mg base (L2.CX P w) (k + 1) f (PySem.W.fnOf x x (defArgs st) (defBody st) (defScope st) .none kV doc pm an (.ref c) ct) [] (spF (G.wl l) 0 F_none) := by
  refine fn_of lk hcd S (fun vs H Q E h => h.1) fun A outer s H vs Q E hr h => ?_
  obtain ⟨l', t, b, run⟩ := hb A outer s H E hr
  obtain ⟨hl, ι, h, as, kk, x', q, rr, e, Ps⟩ := h
  refine ⟨t, b, ?_⟩
  unfold F_none at e
  split at e
  · cases q
    have rs : HRel (G.wl l') ι [] H := HRel.none (G := G.wl l) rr
    have sr : SRel ι 0 (List.replicate m none) (L2.start N []) := by
      refine sr_start (n := 0) (as := []) (r := List.replicate m none) .nil rfl ?_
      rw [hN]
      rfl
    refine run _ _ _ _ rs sr fun ι' h' H' st => ?_
    exact Ps.ok _ _ _ (.bl true) (.bl true) (Stp.none (G := G.wl l) (l := l') rr st) rfl e
  · cases e
end
end AIx
namespace AIx
open PySem L2 NdefX
/-! ### a run cut at a list of states -/
def eqV : AV → AV → Bool
  | .any, .any => true
  | .non, .non => true
  | .bl true, .bl true => true
  | .bl false, .bl false => true
  | .int i, .int j => iEq i j
  | .str m, .str n => Nat.beq m n
  | .ref m, .ref n => Nat.beq m n
  | _, _ => false
theorem eqV_ok {a b : AV} (e : eqV a b = true) : a = b := by
  unfold eqV at e
  split at e
  · rfl
  · rfl
  · rfl
  · rfl
  · rw [iEq_eq, decide_eq_true_iff] at e; rw [e]
  · rw [Nat.eq_of_beq_eq_true e]
  · rw [Nat.eq_of_beq_eq_true e]
  · cases e
def eqVs : List AV → List AV → Bool
  | [], [] => true
  | a :: r, b :: t => (match eqV a b with | true => eqVs r t | false => false)
  | _, _ => false
theorem eqVs_ok : ∀ {a b : List AV}, eqVs a b = true → a = b
  | [], [], _ => rfl
  | a :: r, b :: t, e => by
    rw [eqVs] at e
    split at e
    · rename_i q; rw [eqV_ok q, eqVs_ok e]
    · cases e
  | [], _ :: _, e => by cases e
  | _ :: _, [], e => by cases e
def eqO : AO → AO → Bool
  | .lst a, .lst b => eqVs a b
  | .tup a, .tup b => eqVs a b
  | .ptup a, .ptup b => eqVs a b
  | .draw, .draw => true
  | .lam i, .lam j => Nat.beq i j
  | .gone, .gone => true
  | _, _ => false
theorem eqO_ok {a b : AO} (e : eqO a b = true) : a = b := by
  unfold eqO at e
  split at e
  · rw [eqVs_ok e]
  · rw [eqVs_ok e]
  · rw [eqVs_ok e]
  · rfl
  · rw [Nat.eq_of_beq_eq_true e]
  · rfl
  · cases e
def eqH : AH → AH → Bool
  | [], [] => true
  | a :: r, b :: t => (match eqO a b with | true => eqH r t | false => false)
  | _, _ => false
theorem eqH_ok : ∀ {a b : AH}, eqH a b = true → a = b
  | [], [], _ => rfl
  | a :: r, b :: t, e => by
    rw [eqH] at e
    split at e
    · rename_i q; rw [eqO_ok q, eqH_ok e]
    · cases e
  | [], _ :: _, e => by cases e
  | _ :: _, [], e => by cases e
def eqS : AS → AS → Bool
  | [], [] => true
  | none :: r, none :: t => eqS r t
  | some a :: r, some b :: t => (match eqV a b with | true => eqS r t | false => false)
  | _, _ => false
theorem eqS_ok : ∀ {a b : AS}, eqS a b = true → a = b
  | [], [], _ => rfl
  | none :: r, none :: t, e => by
    have e : eqS r t = true := e
    rw [eqS_ok e]
  | some a :: r, some b :: t, e => by
    have e : (match eqV a b with | true => eqS r t | false => false) = true := e
    split at e
    · rename_i q; rw [eqV_ok q, eqS_ok e]
    · cases e
  | [], none :: _, e => nomatch e
  | [], some _ :: _, e => nomatch e
  | none :: _, [], e => nomatch e
  | some _ :: _, [], e => nomatch e
  | none :: _, some _ :: _, e => nomatch e
  | some _ :: _, none :: _, e => nomatch e
def inS : List (AS × AH) → KS
  | [], _, _ => false
  | s :: r, σ, h => (match eqS s.1 σ with | true => (match eqH s.2 h with | true => true | false => inS r σ h) | false => inS r σ h)
theorem inS_ok : ∀ {S : List (AS × AH)} {σ : AS} {h : AH}, inS S σ h = true → (σ, h) ∈ S
  | [], _, _, e => by cases e
  | s :: r, σ, h, e => by
    rw [inS] at e
    split at e
    · rename_i q
      split at e
      · rename_i q2
        rw [← eqS_ok q, ← eqH_ok q2]
        exact List.mem_cons_self ..
      · exact List.mem_cons_of_mem _ (inS_ok e)
    · exact List.mem_cons_of_mem _ (inS_ok e)
/-- from every state of a list -/
def AllS (f : FS) (n : KS) (S : List (AS × AH)) : Prop := ∀ s ∈ S, f s.1 s.2 n okD noX = true
theorem AllS.nil {f : FS} {n : KS} : AllS f n [] := fun _ q => nomatch q
theorem AllS.cons {f : FS} {n : KS} {s : AS × AH} {S : List (AS × AH)} (a : f s.1 s.2 n okD noX = true) (b : AllS f n S) : AllS f n (s :: S) := fun t q => by
  rcases List.mem_cons.mp q with rfl | q
  · exact a
  · exact b t q
section
variable {X : Cx} {G : GE} {E : XK} {body : List Stmt} {f1 f2 f3 : FS} {m : Nat}
/-- the end of a maker's run: True, the draw in its place -/
theorem pst_end {ι : Nat → Addr} {h : AH} {H : Hp} {D : Ends} (P : ∀ ι' h' H', Stp G ι h H ι' h' H' → h'[0]? = some .draw → D.rt (.bl true) H') : PstS G E ι h H noS okD noX D :=
  ⟨(fun _ _ _ _ _ _ _ z => nomatch z), (fun ι' h' H' v c st vr e => by
    obtain ⟨rfl, e1⟩ := okD_ok e
    cases (show c = .bl true from vr)
    exact P _ _ _ st e1), (fun _ _ _ _ _ z => nomatch z)⟩
/-- two parts, cut at the states of S -/
theorem runD_cut {S : List (AS × AH)} (b : SBt X G E body f1 (rdS G E f2)) (k1 : f1 (some (.ref 0) :: List.replicate m none) [.draw] (inS S) okD noX = true) (k2 : AllS f2 noS S) : RunD X G m body :=
  ⟨_, b, fun ι H σc D r s P => ⟨ι, _, [.draw], s, r, inS S, okD, noX, k1, ⟨(fun ι1 h1 H1 σ1 σc1 st1 sr e => ⟨ι1, σ1, h1, sr, st1.rel, noS, okD, noX, k2 _ (inS_ok e), pst_end fun ι' h' H' st e' => P _ _ _ (st1.trans st) e'⟩), (fun ι' h' H' v c st vr e => by
    obtain ⟨rfl, e1⟩ := okD_ok e
    cases (show c = .bl true from vr)
    exact P _ _ _ st e1), (fun _ _ _ _ _ z => nomatch z)⟩⟩⟩
/-- three parts: cut at the states of S, then at the draw alone -/
theorem runD_cut2 {S : List (AS × AH)} (b : SBt X G E body f1 (fun D σ H => rdS G E f2 { D with nx := fun σ' H' => rdS G E f3 D σ' H' } σ H)) (k1 : f1 (some (.ref 0) :: List.replicate m none) [.draw] (inS S) okD noX = true) (k2 : AllS f2 (okA (m + 1)) S) (k3 : f3 (some (.ref 0) :: List.replicate m none) [.draw] noS okD noX = true) : RunD X G m body :=
  ⟨_, b, fun ι H σc D r s P => ⟨ι, _, [.draw], s, r, inS S, okD, noX, k1, ⟨(fun ι1 h1 H1 σ1 σc1 st1 sr e => ⟨ι1, σ1, h1, sr, st1.rel, okA (m + 1), okD, noX, k2 _ (inS_ok e), ⟨(fun ι2 h2 H2 σ2 σc2 st2 sr2 e2 => by
    obtain ⟨rr, h', rfl, rfl, hl⟩ := okA_ok e2
    have r1 : HRel G ι2 (.draw :: h') H2 := st2.rel
    have sub : HRel (G.wl G.lam) (fun _ => ι2 0) [.draw] H2 := HRel.sub r1 rfl
    have s1 : SRel (fun _ => ι2 0) 1 (some (.ref 0) :: List.replicate m none) σc2 := by
      refine ⟨by rw [← sr2.1]; simp; omega, fun i v q => ?_⟩
      match i, q with
      | 0, q =>
        cases q
        obtain ⟨c, c1, c2⟩ := sr2.2 0 (.ref 0) rfl
        exact ⟨c, c1, Nat.zero_lt_one, c2.2⟩
      | i + 1, q =>
        rw [List.getElem?_cons_succ, List.getElem?_replicate] at q
        split at q <;> cases q
    exact ⟨fun _ => ι2 0, _, [.draw], s1, sub, noS, okD, noX, k3, pst_end fun ι' h3 H' st e1 => P _ _ _ (st1.trans (st2.trans (Stp.sub (l := G.lam) r1 rfl st e1))) rfl⟩), (fun ι' h' H' v c st vr e => by
    obtain ⟨rfl, e1⟩ := okD_ok e
    cases (show c = .bl true from vr)
    exact P _ _ _ (st1.trans st) e1), (fun _ _ _ _ _ z => nomatch z)⟩⟩), (fun ι' h' H' v c st vr e => by
    obtain ⟨rfl, e1⟩ := okD_ok e
    cases (show c = .bl true from vr)
    exact P _ _ _ st e1), (fun _ _ _ _ _ z => nomatch z)⟩⟩⟩
end
end AIx
namespace AIx
theorem k_obj : fs__law_objects_right (List.replicate 3 none) [] noS okT noX = true := by decide +kernel
end AIx
namespace AIx
open PySem L2
def hN : AH := [.draw, .lst [.int 0, .int 10, .int 11, .int (-1), .bl true, .non, .int 3, .str 9], .lst [.int 1, .int 8, .int 0, .int 9, .non, .bl true]]
def sN (v u : AV) : AS × AH := (some (.ref 0) :: some v :: some u :: List.replicate 6 none, hN)
def SN : List (AS × AH) := [sN (.int 0) (.int 1), sN (.int 0) (.int 8), sN (.int 0) (.int 0), sN (.int 0) (.int 9), sN (.int 0) (.non), sN (.int 0) (.bl true), sN (.int 10) (.int 1), sN (.int 10) (.int 8), sN (.int 10) (.int 0), sN (.int 10) (.int 9), sN (.int 10) (.non), sN (.int 10) (.bl true), sN (.int 11) (.int 1), sN (.int 11) (.int 8), sN (.int 11) (.int 0), sN (.int 11) (.int 9), sN (.int 11) (.non), sN (.int 11) (.bl true), sN (.int (-1)) (.int 1), sN (.int (-1)) (.int 8), sN (.int (-1)) (.int 0), sN (.int (-1)) (.int 9), sN (.int (-1)) (.non), sN (.int (-1)) (.bl true), sN (.bl true) (.int 1), sN (.bl true) (.int 8), sN (.bl true) (.int 0), sN (.bl true) (.int 9), sN (.bl true) (.non), sN (.bl true) (.bl true), sN (.non) (.int 1), sN (.non) (.int 8), sN (.non) (.int 0), sN (.non) (.int 9), sN (.non) (.non), sN (.non) (.bl true), sN (.int 3) (.int 1), sN (.int 3) (.int 8), sN (.int 3) (.int 0), sN (.int 3) (.int 9), sN (.int 3) (.non), sN (.int 3) (.bl true), sN (.str 9) (.int 1), sN (.str 9) (.int 8), sN (.str 9) (.int 0), sN (.str 9) (.int 9), sN (.str 9) (.non), sN (.str 9) (.bl true)]
theorem kN1 : fs__law_numbers_right (some (.ref 0) :: List.replicate 8 none) [.draw] (inS SN) okD noX = true := by decide +kernel
theorem kN2_0_0 : fsB__law_numbers_right (sN (.int 0) (.int 1)).1 (sN (.int 0) (.int 1)).2 (okA 9) okD noX = true := by decide +kernel
theorem kN2_0_1 : fsB__law_numbers_right (sN (.int 0) (.int 8)).1 (sN (.int 0) (.int 8)).2 (okA 9) okD noX = true := by decide +kernel
theorem kN2_0_2 : fsB__law_numbers_right (sN (.int 0) (.int 0)).1 (sN (.int 0) (.int 0)).2 (okA 9) okD noX = true := by decide +kernel
theorem kN2_0_3 : fsB__law_numbers_right (sN (.int 0) (.int 9)).1 (sN (.int 0) (.int 9)).2 (okA 9) okD noX = true := by decide +kernel
theorem kN2_0_4 : fsB__law_numbers_right (sN (.int 0) (.non)).1 (sN (.int 0) (.non)).2 (okA 9) okD noX = true := by decide +kernel
theorem kN2_0_5 : fsB__law_numbers_right (sN (.int 0) (.bl true)).1 (sN (.int 0) (.bl true)).2 (okA 9) okD noX = true := by decide +kernel
theorem kN2_1_0 : fsB__law_numbers_right (sN (.int 10) (.int 1)).1 (sN (.int 10) (.int 1)).2 (okA 9) okD noX = true := by decide +kernel
theorem kN2_1_1 : fsB__law_numbers_right (sN (.int 10) (.int 8)).1 (sN (.int 10) (.int 8)).2 (okA 9) okD noX = true := by decide +kernel
theorem kN2_1_2 : fsB__law_numbers_right (sN (.int 10) (.int 0)).1 (sN (.int 10) (.int 0)).2 (okA 9) okD noX = true := by decide +kernel
theorem kN2_1_3 : fsB__law_numbers_right (sN (.int 10) (.int 9)).1 (sN (.int 10) (.int 9)).2 (okA 9) okD noX = true := by decide +kernel
theorem kN2_1_4 : fsB__law_numbers_right (sN (.int 10) (.non)).1 (sN (.int 10) (.non)).2 (okA 9) okD noX = true := by decide +kernel
theorem kN2_1_5 : fsB__law_numbers_right (sN (.int 10) (.bl true)).1 (sN (.int 10) (.bl true)).2 (okA 9) okD noX = true := by decide +kernel
theorem kN2_2_0 : fsB__law_numbers_right (sN (.int 11) (.int 1)).1 (sN (.int 11) (.int 1)).2 (okA 9) okD noX = true := by decide +kernel
theorem kN2_2_1 : fsB__law_numbers_right (sN (.int 11) (.int 8)).1 (sN (.int 11) (.int 8)).2 (okA 9) okD noX = true := by decide +kernel
theorem kN2_2_2 : fsB__law_numbers_right (sN (.int 11) (.int 0)).1 (sN (.int 11) (.int 0)).2 (okA 9) okD noX = true := by decide +kernel
theorem kN2_2_3 : fsB__law_numbers_right (sN (.int 11) (.int 9)).1 (sN (.int 11) (.int 9)).2 (okA 9) okD noX = true := by decide +kernel
theorem kN2_2_4 : fsB__law_numbers_right (sN (.int 11) (.non)).1 (sN (.int 11) (.non)).2 (okA 9) okD noX = true := by decide +kernel
theorem kN2_2_5 : fsB__law_numbers_right (sN (.int 11) (.bl true)).1 (sN (.int 11) (.bl true)).2 (okA 9) okD noX = true := by decide +kernel
theorem kN2_3_0 : fsB__law_numbers_right (sN (.int (-1)) (.int 1)).1 (sN (.int (-1)) (.int 1)).2 (okA 9) okD noX = true := by decide +kernel
theorem kN2_3_1 : fsB__law_numbers_right (sN (.int (-1)) (.int 8)).1 (sN (.int (-1)) (.int 8)).2 (okA 9) okD noX = true := by decide +kernel
theorem kN2_3_2 : fsB__law_numbers_right (sN (.int (-1)) (.int 0)).1 (sN (.int (-1)) (.int 0)).2 (okA 9) okD noX = true := by decide +kernel
theorem kN2_3_3 : fsB__law_numbers_right (sN (.int (-1)) (.int 9)).1 (sN (.int (-1)) (.int 9)).2 (okA 9) okD noX = true := by decide +kernel
theorem kN2_3_4 : fsB__law_numbers_right (sN (.int (-1)) (.non)).1 (sN (.int (-1)) (.non)).2 (okA 9) okD noX = true := by decide +kernel
theorem kN2_3_5 : fsB__law_numbers_right (sN (.int (-1)) (.bl true)).1 (sN (.int (-1)) (.bl true)).2 (okA 9) okD noX = true := by decide +kernel
theorem kN2_4_0 : fsB__law_numbers_right (sN (.bl true) (.int 1)).1 (sN (.bl true) (.int 1)).2 (okA 9) okD noX = true := by decide +kernel
theorem kN2_4_1 : fsB__law_numbers_right (sN (.bl true) (.int 8)).1 (sN (.bl true) (.int 8)).2 (okA 9) okD noX = true := by decide +kernel
theorem kN2_4_2 : fsB__law_numbers_right (sN (.bl true) (.int 0)).1 (sN (.bl true) (.int 0)).2 (okA 9) okD noX = true := by decide +kernel
theorem kN2_4_3 : fsB__law_numbers_right (sN (.bl true) (.int 9)).1 (sN (.bl true) (.int 9)).2 (okA 9) okD noX = true := by decide +kernel
theorem kN2_4_4 : fsB__law_numbers_right (sN (.bl true) (.non)).1 (sN (.bl true) (.non)).2 (okA 9) okD noX = true := by decide +kernel
theorem kN2_4_5 : fsB__law_numbers_right (sN (.bl true) (.bl true)).1 (sN (.bl true) (.bl true)).2 (okA 9) okD noX = true := by decide +kernel
theorem kN2_5_0 : fsB__law_numbers_right (sN (.non) (.int 1)).1 (sN (.non) (.int 1)).2 (okA 9) okD noX = true := by decide +kernel
theorem kN2_5_1 : fsB__law_numbers_right (sN (.non) (.int 8)).1 (sN (.non) (.int 8)).2 (okA 9) okD noX = true := by decide +kernel
theorem kN2_5_2 : fsB__law_numbers_right (sN (.non) (.int 0)).1 (sN (.non) (.int 0)).2 (okA 9) okD noX = true := by decide +kernel
theorem kN2_5_3 : fsB__law_numbers_right (sN (.non) (.int 9)).1 (sN (.non) (.int 9)).2 (okA 9) okD noX = true := by decide +kernel
theorem kN2_5_4 : fsB__law_numbers_right (sN (.non) (.non)).1 (sN (.non) (.non)).2 (okA 9) okD noX = true := by decide +kernel
theorem kN2_5_5 : fsB__law_numbers_right (sN (.non) (.bl true)).1 (sN (.non) (.bl true)).2 (okA 9) okD noX = true := by decide +kernel
theorem kN2_6_0 : fsB__law_numbers_right (sN (.int 3) (.int 1)).1 (sN (.int 3) (.int 1)).2 (okA 9) okD noX = true := by decide +kernel
theorem kN2_6_1 : fsB__law_numbers_right (sN (.int 3) (.int 8)).1 (sN (.int 3) (.int 8)).2 (okA 9) okD noX = true := by decide +kernel
theorem kN2_6_2 : fsB__law_numbers_right (sN (.int 3) (.int 0)).1 (sN (.int 3) (.int 0)).2 (okA 9) okD noX = true := by decide +kernel
theorem kN2_6_3 : fsB__law_numbers_right (sN (.int 3) (.int 9)).1 (sN (.int 3) (.int 9)).2 (okA 9) okD noX = true := by decide +kernel
theorem kN2_6_4 : fsB__law_numbers_right (sN (.int 3) (.non)).1 (sN (.int 3) (.non)).2 (okA 9) okD noX = true := by decide +kernel
theorem kN2_6_5 : fsB__law_numbers_right (sN (.int 3) (.bl true)).1 (sN (.int 3) (.bl true)).2 (okA 9) okD noX = true := by decide +kernel
theorem kN2_7_0 : fsB__law_numbers_right (sN (.str 9) (.int 1)).1 (sN (.str 9) (.int 1)).2 (okA 9) okD noX = true := by decide +kernel
theorem kN2_7_1 : fsB__law_numbers_right (sN (.str 9) (.int 8)).1 (sN (.str 9) (.int 8)).2 (okA 9) okD noX = true := by decide +kernel
theorem kN2_7_2 : fsB__law_numbers_right (sN (.str 9) (.int 0)).1 (sN (.str 9) (.int 0)).2 (okA 9) okD noX = true := by decide +kernel
theorem kN2_7_3 : fsB__law_numbers_right (sN (.str 9) (.int 9)).1 (sN (.str 9) (.int 9)).2 (okA 9) okD noX = true := by decide +kernel
theorem kN2_7_4 : fsB__law_numbers_right (sN (.str 9) (.non)).1 (sN (.str 9) (.non)).2 (okA 9) okD noX = true := by decide +kernel
theorem kN2_7_5 : fsB__law_numbers_right (sN (.str 9) (.bl true)).1 (sN (.str 9) (.bl true)).2 (okA 9) okD noX = true := by decide +kernel
theorem kN2 : AllS fsB__law_numbers_right (okA 9) SN := AllS.cons (f := fsB__law_numbers_right) (n := (okA 9)) (s := sN (.int 0) (.int 1)) kN2_0_0 (AllS.cons (f := fsB__law_numbers_right) (n := (okA 9)) (s := sN (.int 0) (.int 8)) kN2_0_1 (AllS.cons (f := fsB__law_numbers_right) (n := (okA 9)) (s := sN (.int 0) (.int 0)) kN2_0_2 (AllS.cons (f := fsB__law_numbers_right) (n := (okA 9)) (s := sN (.int 0) (.int 9)) kN2_0_3 (AllS.cons (f := fsB__law_numbers_right) (n := (okA 9)) (s := sN (.int 0) (.non)) kN2_0_4 (AllS.cons (f := fsB__law_numbers_right) (n := (okA 9)) (s := sN (.int 0) (.bl true)) kN2_0_5 (AllS.cons (f := fsB__law_numbers_right) (n := (okA 9)) (s := sN (.int 10) (.int 1)) kN2_1_0 (AllS.cons (f := fsB__law_numbers_right) (n := (okA 9)) (s := sN (.int 10) (.int 8)) kN2_1_1 (AllS.cons (f := fsB__law_numbers_right) (n := (okA 9)) (s := sN (.int 10) (.int 0)) kN2_1_2 (AllS.cons (f := fsB__law_numbers_right) (n := (okA 9)) (s := sN (.int 10) (.int 9)) kN2_1_3 (AllS.cons (f := fsB__law_numbers_right) (n := (okA 9)) (s := sN (.int 10) (.non)) kN2_1_4 (AllS.cons (f := fsB__law_numbers_right) (n := (okA 9)) (s := sN (.int 10) (.bl true)) kN2_1_5 (AllS.cons (f := fsB__law_numbers_right) (n := (okA 9)) (s := sN (.int 11) (.int 1)) kN2_2_0 (AllS.cons (f := fsB__law_numbers_right) (n := (okA 9)) (s := sN (.int 11) (.int 8)) kN2_2_1 (AllS.cons (f := fsB__law_numbers_right) (n := (okA 9)) (s := sN (.int 11) (.int 0)) kN2_2_2 (AllS.cons (f := fsB__law_numbers_right) (n := (okA 9)) (s := sN (.int 11) (.int 9)) kN2_2_3 (AllS.cons (f := fsB__law_numbers_right) (n := (okA 9)) (s := sN (.int 11) (.non)) kN2_2_4 (AllS.cons (f := fsB__law_numbers_right) (n := (okA 9)) (s := sN (.int 11) (.bl true)) kN2_2_5 (AllS.cons (f := fsB__law_numbers_right) (n := (okA 9)) (s := sN (.int (-1)) (.int 1)) kN2_3_0 (AllS.cons (f := fsB__law_numbers_right) (n := (okA 9)) (s := sN (.int (-1)) (.int 8)) kN2_3_1 (AllS.cons (f := fsB__law_numbers_right) (n := (okA 9)) (s := sN (.int (-1)) (.int 0)) kN2_3_2 (AllS.cons (f := fsB__law_numbers_right) (n := (okA 9)) (s := sN (.int (-1)) (.int 9)) kN2_3_3 (AllS.cons (f := fsB__law_numbers_right) (n := (okA 9)) (s := sN (.int (-1)) (.non)) kN2_3_4 (AllS.cons (f := fsB__law_numbers_right) (n := (okA 9)) (s := sN (.int (-1)) (.bl true)) kN2_3_5 (AllS.cons (f := fsB__law_numbers_right) (n := (okA 9)) (s := sN (.bl true) (.int 1)) kN2_4_0 (AllS.cons (f := fsB__law_numbers_right) (n := (okA 9)) (s := sN (.bl true) (.int 8)) kN2_4_1 (AllS.cons (f := fsB__law_numbers_right) (n := (okA 9)) (s := sN (.bl true) (.int 0)) kN2_4_2 (AllS.cons (f := fsB__law_numbers_right) (n := (okA 9)) (s := sN (.bl true) (.int 9)) kN2_4_3 (AllS.cons (f := fsB__law_numbers_right) (n := (okA 9)) (s := sN (.bl true) (.non)) kN2_4_4 (AllS.cons (f := fsB__law_numbers_right) (n := (okA 9)) (s := sN (.bl true) (.bl true)) kN2_4_5 (AllS.cons (f := fsB__law_numbers_right) (n := (okA 9)) (s := sN (.non) (.int 1)) kN2_5_0 (AllS.cons (f := fsB__law_numbers_right) (n := (okA 9)) (s := sN (.non) (.int 8)) kN2_5_1 (AllS.cons (f := fsB__law_numbers_right) (n := (okA 9)) (s := sN (.non) (.int 0)) kN2_5_2 (AllS.cons (f := fsB__law_numbers_right) (n := (okA 9)) (s := sN (.non) (.int 9)) kN2_5_3 (AllS.cons (f := fsB__law_numbers_right) (n := (okA 9)) (s := sN (.non) (.non)) kN2_5_4 (AllS.cons (f := fsB__law_numbers_right) (n := (okA 9)) (s := sN (.non) (.bl true)) kN2_5_5 (AllS.cons (f := fsB__law_numbers_right) (n := (okA 9)) (s := sN (.int 3) (.int 1)) kN2_6_0 (AllS.cons (f := fsB__law_numbers_right) (n := (okA 9)) (s := sN (.int 3) (.int 8)) kN2_6_1 (AllS.cons (f := fsB__law_numbers_right) (n := (okA 9)) (s := sN (.int 3) (.int 0)) kN2_6_2 (AllS.cons (f := fsB__law_numbers_right) (n := (okA 9)) (s := sN (.int 3) (.int 9)) kN2_6_3 (AllS.cons (f := fsB__law_numbers_right) (n := (okA 9)) (s := sN (.int 3) (.non)) kN2_6_4 (AllS.cons (f := fsB__law_numbers_right) (n := (okA 9)) (s := sN (.int 3) (.bl true)) kN2_6_5 (AllS.cons (f := fsB__law_numbers_right) (n := (okA 9)) (s := sN (.str 9) (.int 1)) kN2_7_0 (AllS.cons (f := fsB__law_numbers_right) (n := (okA 9)) (s := sN (.str 9) (.int 8)) kN2_7_1 (AllS.cons (f := fsB__law_numbers_right) (n := (okA 9)) (s := sN (.str 9) (.int 0)) kN2_7_2 (AllS.cons (f := fsB__law_numbers_right) (n := (okA 9)) (s := sN (.str 9) (.int 9)) kN2_7_3 (AllS.cons (f := fsB__law_numbers_right) (n := (okA 9)) (s := sN (.str 9) (.non)) kN2_7_4 (AllS.cons (f := fsB__law_numbers_right) (n := (okA 9)) (s := sN (.str 9) (.bl true)) kN2_7_5 (AllS.nil))))))))))))))))))))))))))))))))))))))))))))))))
theorem kN3 : fsC__law_numbers_right (some (.ref 0) :: List.replicate 8 none) [.draw] noS okD noX = true := by decide +kernel
end AIx
namespace AIx
open PySem L2
def hR : AH := [.draw, .ptup [.int 2, .int 1], .ptup [.int 0, .int 0], .ptup [.int 10], .ptup [.int 10, .int 10, .int 10, .int 10, .int 10, .int 10, .int 10, .int 10], .ptup [.int 10], .ptup [.int 10, .int 10, .int 10, .int 10, .int 10, .int 10, .int 10, .int 10, .int 10], .ptup [.int 11], .ptup [], .lst [.int 1], .ptup [.bl true], .ptup [.int 3], .ptup [.int (-1), .int 4],
  .lst [.ref 1, .ref 2, .ref 4, .ref 6, .ref 7, .ref 8, .ref 9, .ref 10, .non, .ref 11, .ref 12]]
def sR (v : AV) : AS × AH := (some (.ref 0) :: some v :: List.replicate 9 none, hR)
def SR : List (AS × AH) := [sR (.ref 1), sR (.ref 2), sR (.ref 4), sR (.ref 6), sR (.ref 7), sR (.ref 8), sR (.ref 9), sR (.ref 10), sR .non, sR (.ref 11), sR (.ref 12)]
theorem kR1 : fs__law_rings_right (some (.ref 0) :: List.replicate 10 none) [.draw] (inS SR) okD noX = true := by decide +kernel
theorem kR2_0 : fsB__law_rings_right (sR (.ref 1)).1 (sR (.ref 1)).2 noS okD noX = true := by decide +kernel
theorem kR2_1 : fsB__law_rings_right (sR (.ref 2)).1 (sR (.ref 2)).2 noS okD noX = true := by decide +kernel
theorem kR2_2 : fsB__law_rings_right (sR (.ref 4)).1 (sR (.ref 4)).2 noS okD noX = true := by decide +kernel
theorem kR2_3 : fsB__law_rings_right (sR (.ref 6)).1 (sR (.ref 6)).2 noS okD noX = true := by decide +kernel
theorem kR2_4 : fsB__law_rings_right (sR (.ref 7)).1 (sR (.ref 7)).2 noS okD noX = true := by decide +kernel
theorem kR2_5 : fsB__law_rings_right (sR (.ref 8)).1 (sR (.ref 8)).2 noS okD noX = true := by decide +kernel
theorem kR2_6 : fsB__law_rings_right (sR (.ref 9)).1 (sR (.ref 9)).2 noS okD noX = true := by decide +kernel
theorem kR2_7 : fsB__law_rings_right (sR (.ref 10)).1 (sR (.ref 10)).2 noS okD noX = true := by decide +kernel
theorem kR2_8 : fsB__law_rings_right (sR (.non)).1 (sR (.non)).2 noS okD noX = true := by decide +kernel
theorem kR2_9 : fsB__law_rings_right (sR (.ref 11)).1 (sR (.ref 11)).2 noS okD noX = true := by decide +kernel
theorem kR2_10 : fsB__law_rings_right (sR (.ref 12)).1 (sR (.ref 12)).2 noS okD noX = true := by decide +kernel
theorem kR2 : AllS fsB__law_rings_right noS SR := AllS.cons (f := fsB__law_rings_right) (n := noS) (s := sR (.ref 1)) kR2_0 (AllS.cons (f := fsB__law_rings_right) (n := noS) (s := sR (.ref 2)) kR2_1 (AllS.cons (f := fsB__law_rings_right) (n := noS) (s := sR (.ref 4)) kR2_2 (AllS.cons (f := fsB__law_rings_right) (n := noS) (s := sR (.ref 6)) kR2_3 (AllS.cons (f := fsB__law_rings_right) (n := noS) (s := sR (.ref 7)) kR2_4 (AllS.cons (f := fsB__law_rings_right) (n := noS) (s := sR (.ref 8)) kR2_5 (AllS.cons (f := fsB__law_rings_right) (n := noS) (s := sR (.ref 9)) kR2_6 (AllS.cons (f := fsB__law_rings_right) (n := noS) (s := sR (.ref 10)) kR2_7 (AllS.cons (f := fsB__law_rings_right) (n := noS) (s := sR (.non)) kR2_8 (AllS.cons (f := fsB__law_rings_right) (n := noS) (s := sR (.ref 11)) kR2_9 (AllS.cons (f := fsB__law_rings_right) (n := noS) (s := sR (.ref 12)) kR2_10 (AllS.nil)))))))))))
end AIx
namespace AIx
open PySem L2 NdefX
def lamQ (x : Str) : Str := x ++ ".<locals>." ++ "<lambda>"
/-- the table of the code objects of x's lambdas -/
structure TabF (G : GE) (base : Heap) (mg : Str → Option Value) (x : Str) (c Pt : Addr) : Prop where
  tb : LamX.TabB base mg c Pt
  mem : (Pt, lamQ x) ∈ G.T
  uni : ∀ p ∈ G.T, p.1 = Pt → p.2 = lamQ x
theorem WordF.wl {G : GE} {mg : Str → Option Value} {g : Addr} {l : Nat → Option LamD} (W : WordF G mg g) : WordF (G.wl l) mg g := ⟨W.df, W.mgf, W.lot, W.exm⟩
theorem Ox.wl {G : GE} {l : Nat → Option LamD} (O : Ox G) : Ox (G.wl l) := ⟨O.ne, O.mo, O.nf⟩
section
variable {P : Program} {w : World} {mg : Str → Option Value} {base : Heap} {G : GE}
theorem c__law_rings_right {c Pt : Addr} (T : Fx G mg) {g : Addr} (W : WordF G mg g) (c__law_pick : CalF P w G.K mg base G 3 "_law_pick" 2 F__law_pick) (c__law_no : CalF P w G.K mg base G 1 "_law_no" 2 F__law_no) (c__law_is_tuple : CalF P w G.K mg base G 2 "_law_is_tuple" 5 F__law_is_tuple) (c__law_first : CalF P w G.K mg base G 1 "_law_first" 1 F__law_first) (c__law_is_number : CalF P w G.K mg base G 1 "_law_is_number" 3 F__law_is_number) (c_settle : CalF P w G.K mg base G 3 "settle" 2 F_settle) (c_settled : CalF P w G.K mg base G 3 "settled" 2 F_settled) (c_settled_loads : CalF P w G.K mg base G 3 "settled_loads" 2 F_settled_loads) (c_total_steps : CalF P w G.K mg base G 3 "total_steps" 2 F_total_steps) (c_Settled_init : MakF P w G.K mg base G 1 "Settled" 0 2 F_Settled_init) (c_Settled_shows : MetF P w G.K mg base G 3 "shows" 0 3 F_Settled_shows) (c_vacated : CalF P w G.K mg base G 3 "vacated" 3 F_vacated) (D : DC G.K mg "_law_rings_right" (st 58) c) (L : TabF G base mg "_law_rings_right" c Pt) : CalF P w G.K mg base G 7 "_law_rings_right" 1 F_drawn := by
  obtain ⟨f, oc, od, kV, doc, pm, an, ct, osl, lk, hcd, kp, hm⟩ := D.ex
  have Fu : Fun G.K "_law_rings_right" "_law_rings_right" (st 58) f (PySem.W.fnOf "_law_rings_right" "_law_rings_right" (defArgs (st 58)) (defBody (st 58)) (defScope (st 58)) .none kV doc pm an (.ref c) ct) := ⟨⟨oc, od, kV, doc, pm, an, .ref c, ct, osl, rfl, lk, hcd⟩, kp⟩
  refine ⟨⟨f, _, ["_law_draw"], fun l => fn_drawn (m := 10) (k := 6) lk hcd n__law_rings_right rfl (fun A outer s H E hr => ⟨lams__law_rings_right (X__law_rings_right P w G.K mg base f c A outer s H E), ?_⟩) l, hm, kp, Fu.binds fun _ _ _ _ _ _ us hl => match us, hl with | [_], _ => rfl⟩, fun as h k x e => ?_⟩
  · exact runD_cut (b__law_rings_right (G := G.wl (lams__law_rings_right (X__law_rings_right P w G.K mg base f c A outer s H E))) (E := E) T.wl W.wl c__law_pick.wl c__law_no.wl c__law_is_tuple.wl c__law_first.wl c__law_is_number.wl c_settle.wl c_settled.wl c_settled_loads.wl c_total_steps.wl c_Settled_init.wl c_Settled_shows.wl c_vacated.wl (outer := outer) (H := H) (fun _ => rfl) ⟨L.tb, rfl, L.mem, L.uni⟩ hr) kR1 kR2
  · unfold F_drawn at e
    split at e
    · rfl
    · cases e
theorem c__law_numbers_right {c Pt : Addr} (T : Fx G mg) {g : Addr} (W : WordF G mg g) (c__law_pick : CalF P w G.K mg base G 3 "_law_pick" 2 F__law_pick) (c__law_first : CalF P w G.K mg base G 1 "_law_first" 1 F__law_first) (c__law_no : CalF P w G.K mg base G 1 "_law_no" 2 F__law_no) (c__law_is_number : CalF P w G.K mg base G 1 "_law_is_number" 3 F__law_is_number) (c__law_is_tuple : CalF P w G.K mg base G 2 "_law_is_tuple" 5 F__law_is_tuple) (c_expected_most : CalF P w G.K mg base G 4 "expected_most" 2 F_expected_most) (c_used_chances : CalF P w G.K mg base G 3 "used_chances" 2 F_used_chances) (c_apart_chance : CalF P w G.K mg base G 3 "apart_chance" 2 F_apart_chance) (c_most_chance : CalF P w G.K mg base G 4 "most_chance" 3 F_most_chance) (c_share_out : CalF P w G.K mg base G 4 "share_out" 2 F_share_out) (c_in_turn : CalF P w G.K mg base G 4 "in_turn" 2 F_in_turn) (c_least_ratio : CalF P w G.K mg base G 4 "least_ratio" 2 F_least_ratio) (c_count_shares : CalF P w G.K mg base G 4 "count_shares" 2 F_count_shares) (c_Shares_init : MakF P w G.K mg base G 1 "Shares" 1 2 F_Shares_init) (c_Shares_shows : MetF P w G.K mg base G 3 "shows" 1 3 F_Shares_shows) (D : DC G.K mg "_law_numbers_right" (st 59) c) (L : TabF G base mg "_law_numbers_right" c Pt) : CalF P w G.K mg base G 7 "_law_numbers_right" 1 F_drawn := by
  obtain ⟨f, oc, od, kV, doc, pm, an, ct, osl, lk, hcd, kp, hm⟩ := D.ex
  have Fu : Fun G.K "_law_numbers_right" "_law_numbers_right" (st 59) f (PySem.W.fnOf "_law_numbers_right" "_law_numbers_right" (defArgs (st 59)) (defBody (st 59)) (defScope (st 59)) .none kV doc pm an (.ref c) ct) := ⟨⟨oc, od, kV, doc, pm, an, .ref c, ct, osl, rfl, lk, hcd⟩, kp⟩
  refine ⟨⟨f, _, ["_law_draw"], fun l => fn_drawn (m := 8) (k := 6) lk hcd n__law_numbers_right rfl (fun A outer s H E hr => ⟨lams__law_numbers_right (X__law_numbers_right P w G.K mg base f c A outer s H E), ?_⟩) l, hm, kp, Fu.binds fun _ _ _ _ _ _ us hl => match us, hl with | [_], _ => rfl⟩, fun as h k x e => ?_⟩
  · exact runD_cut2 (b__law_numbers_right (G := G.wl (lams__law_numbers_right (X__law_numbers_right P w G.K mg base f c A outer s H E))) (E := E) T.wl W.wl c__law_pick.wl c__law_first.wl c__law_no.wl c__law_is_number.wl c__law_is_tuple.wl c_expected_most.wl c_used_chances.wl c_apart_chance.wl c_most_chance.wl c_share_out.wl c_in_turn.wl c_least_ratio.wl c_count_shares.wl c_Shares_init.wl c_Shares_shows.wl (outer := outer) (H := H) (fun _ => rfl) ⟨L.tb, rfl, L.mem, L.uni⟩ hr) kN1 kN2 kN3
  · unfold F_drawn at e
    split at e
    · rfl
    · cases e
theorem c__law_objects_right {c Pt : Addr} (T : Fx G mg) (O : Ox G) (c_Shares_eq : MetF P w G.K mg base G 1 "__eq__" 1 2 F_Shares_eq) (c_Shares_init : MakF P w G.K mg base G 1 "Shares" 1 2 F_Shares_init) (c_Settled_eq : MetF P w G.K mg base G 1 "__eq__" 0 2 F_Settled_eq) (c_Settled_init : MakF P w G.K mg base G 1 "Settled" 0 2 F_Settled_init) (c_settle : CalF P w G.K mg base G 3 "settle" 2 F_settle) (c_settled_loads : CalF P w G.K mg base G 3 "settled_loads" 2 F_settled_loads) (c_in_turn : CalF P w G.K mg base G 4 "in_turn" 2 F_in_turn) (D : DC G.K mg "_law_objects_right" (st 60) c) (L : TabF G base mg "_law_objects_right" c Pt) : CalF P w G.K mg base G 7 "_law_objects_right" 0 F_none := by
  obtain ⟨f, oc, od, kV, doc, pm, an, ct, osl, lk, hcd, kp, hm⟩ := D.ex
  have Fu : Fun G.K "_law_objects_right" "_law_objects_right" (st 60) f (PySem.W.fnOf "_law_objects_right" "_law_objects_right" (defArgs (st 60)) (defBody (st 60)) (defScope (st 60)) .none kV doc pm an (.ref c) ct) := ⟨⟨oc, od, kV, doc, pm, an, .ref c, ct, osl, rfl, lk, hcd⟩, kp⟩
  refine ⟨⟨f, _, [], fun l => fn_none (m := 3) (k := 6) lk hcd n__law_objects_right rfl (fun A outer s H E hr => ⟨lams__law_objects_right (X__law_objects_right P w G.K mg base f c A outer s H E), ?_⟩) l, hm, kp, Fu.binds fun _ _ _ _ _ _ us hl => match us, hl with | [], _ => rfl⟩, fun as h k x e => ?_⟩
  · exact runN_of (b__law_objects_right (G := G.wl (lams__law_objects_right (X__law_objects_right P w G.K mg base f c A outer s H E))) (E := E) T.wl O.wl c_Shares_eq.wl c_Shares_init.wl c_Settled_eq.wl c_Settled_init.wl c_settle.wl c_settled_loads.wl c_in_turn.wl (outer := outer) (H := H) (fun _ => rfl) ⟨L.tb, rfl, L.mem, L.uni⟩ hr) k_obj
  · unfold F_none at e
    split at e
    · rfl
    · cases e
end
end AIx
namespace AIx
open PySem L2
section
variable {P : Program} {w : World} {mg : Str → Option Value} {base : Heap} {G : GE}
abbrev N_law : List Str := ["_law_script", "_law_draw", "_law_turn"]
theorem n_law : FnScope N_law ["_law_script"] (defScope (st 61)) := ⟨rfl, rfl, rfl, by decide +kernel, rfl, by decide +kernel, by decide +kernel⟩
def fs_law : FS := fSeq (fFor 25 (g1 2) (fItR (fC (.int 6))) (fIte (fOrT (fNotT (fTest (fCall F_drawn (fCons (fVar 1) fNil)))) (fOrT (fNotT (fTest (fCall F_drawn (fCons (fVar 1) fNil)))) (fNotT (fTest (fCall0 F_none))))) (fRet (fC (.bl false))) fSkip)) (fRet (fC (.bl true)))
theorem k_law : fs_law [none, some (.ref 0), none] [.draw] noS okT noX = true := by decide +kernel
theorem b_law (T : Fx G mg) (c_r : CalF P w G.K mg base G 7 "_law_rings_right" 1 F_drawn) (c_n : CalF P w G.K mg base G 7 "_law_numbers_right" 1 F_drawn) (c_o : CalF P w G.K mg base G 7 "_law_objects_right" 0 F_none) {f : Addr} {cdv : Value} {A : Around} {outer : List Env} {s : Shared} {H : Hp} {E : XK} (hr : Room 7 (A.deeper (PyProof.Rows.envOfC "law" (defScope (st 61)) s.heap.objs.size f cdv))) :
    SB (cxOf (L2.CX P w) P w G.K mg base N_law "law" (defScope (st 61)) f cdv A outer s H E) G E ((defBody (st 61)).drop 1) fs_law := by
  have M : Amb (cxOf (L2.CX P w) P w G.K mg base N_law "law" (defScope (st 61)) f cdv A outer s H E) G E := amb_of
  unfold fs_law
  exact (b_cons (S_for 25 M (i_range T.range s_int) (pg_name (i := 2) n_law.nd rfl (Or.inl rfl)) (tg1 2) (b_one (S_if (t_w (w_or (t_not (s_val (s_call M hr c_r (s_cons (s_var 1) s_nil)))) (w_or (t_not (s_val (s_call M hr c_n (s_cons (s_var 1) s_nil)))) (w_or1 (t_not (s_val (s_call0 M hr c_o))))))) (b_one (S_ret s_bl)) b_nil))) (b_one (S_ret s_bl)))
theorem p_law (T : Fx G mg) (c_r : CalF P w G.K mg base G 7 "_law_rings_right" 1 F_drawn) (c_n : CalF P w G.K mg base G 7 "_law_numbers_right" 1 F_drawn) (c_o : CalF P w G.K mg base G 7 "_law_objects_right" 0 F_none) {f : Addr} {cdv : Value} {A : Around} {outer : List Env} {s : Shared} {H0 : Hp} {E : XK} (hr : Room 7 (A.deeper (PyProof.Rows.envOfC "law" (defScope (st 61)) s.heap.objs.size f cdv))) :
    ∃ t, PSs (cxOf (L2.CX P w) P w G.K mg base N_law "law" (defScope (st 61)) f cdv A outer s H0 E) (defBody (st 61)) t ∧ ∀ (ι : Nat → Addr) (H : Hp) (D : Ends), HRel G ι [] H → (∀ H', D.rt (.bl true) H') → t D (L2.start N_law [.ref G.scr]) H := by
  have B := b_law T c_r c_n c_o (A := A) (outer := outer) (s := s) (H := H0) (E := E) hr
  refine ⟨_, pss_cons (ps_set (i := 1) n_law.nd rfl (Or.inl rfl) (pe_lst (pa_cons (pe_var (i := 0) rfl (Or.inl rfl)) (pa_cons pe_int pa_nil)))) B, fun ι H D r q => ?_⟩
  refine ⟨.ref G.scr, rfl, (show 2 ≤ sizeLine by decide), fun p hp => ?_⟩
  have st := Stp.alloc (p := p) (o := .draw) (oc := .lst [.ref G.scr, .int 0]) r hp ⟨0, upd_same⟩
  refine ⟨_, [none, some (.ref 0), none], [.draw], ⟨rfl, fun i v e => ?_⟩, st.rel, noS, okT, noX, k_law, ⟨(fun _ _ _ _ _ _ _ z => nomatch z), (fun ι' h' H' v c st vr e => ?_), (fun _ _ _ _ _ z => nomatch z)⟩⟩
  · match i, e with
    | 0, e => cases e
    | 1, e => cases e; exact ⟨_, rfl, VRel.new⟩
    | 2, e => cases e
    | i + 3, e => cases e
  · obtain rfl := okT_ok e
    cases (show c = .bl true from vr)
    exact q _
end
end AIx
namespace AIx
open PySem L2
section
variable {K : PySem.W.Frag} {mg : Str → Option Value} {h : Heap}
theorem DF.mk' {x : Str} {st : Stmt} {f : Addr} {oc kV doc pm cdv ct : Value} {od an : Option Addr} {osl : Array (Option Value)} (X : K.In h) (G : h.Ns mainGlobals mg) (a : PySem.W.nsIn K mainGlobals x = some (some (.ref f)))
    (l : K.lookup f = some ⟨oc, od, .func (PySem.W.fnOf x x (defArgs st) (defBody st) (defScope st) .none kV doc pm an cdv ct), osl⟩) (c : PySem.W.codeIn K cdv x = true) (k : PySem.W.keepIn K (.ref f) = true) : DF K mg x st := ⟨f, _, fun_mk l c k, PySem.W.mg_of X G a⟩
theorem DC.mk' {x : Str} {st : Stmt} {f c0 : Addr} {oc kV doc pm ct : Value} {od an : Option Addr} {osl : Array (Option Value)} (X : K.In h) (G : h.Ns mainGlobals mg) (a : PySem.W.nsIn K mainGlobals x = some (some (.ref f)))
    (l : K.lookup f = some ⟨oc, od, .func (PySem.W.fnOf x x (defArgs st) (defBody st) (defScope st) .none kV doc pm an (.ref c0) ct), osl⟩) (c : PySem.W.codeIn K (.ref c0) x = true) (k : PySem.W.keepIn K (.ref f) = true) : DC K mg x st c0 := ⟨f, oc, od, kV, doc, pm, an, ct, osl, l, c, k, PySem.W.mg_of X G a⟩
theorem DM.mkI {q : Str} {st : Stmt} {C f : Addr} {oc kV doc pm cdv ct : Value} {od an : Option Addr} {osl : Array (Option Value)} (i : PySem.W.findIn K (.ref C) "__init__" = some (some (.ref f))) (n : PySem.W.isFn K (.ref f) = true)
    (l : K.lookup f = some ⟨oc, od, .func (PySem.W.fnOf "__init__" q (defArgs st) (defBody st) (defScope st) .none kV doc pm an cdv ct), osl⟩) (c : PySem.W.codeIn K cdv q = true) (k : PySem.W.keepIn K (.ref f) = true) (m : PySem.W.makesIn K C = true) (kc : PySem.W.keepIn K (.ref C) = true) : DM K "__init__" q st (fun f => Mk K C f) := ⟨f, _, fun_mk l c k, ⟨m, i, n, kc⟩⟩
theorem DM.mkM {x q : Str} {st : Stmt} {C f : Addr} {oc kV doc pm cdv ct : Value} {od an : Option Addr} {osl : Array (Option Value)} (i : PySem.W.findIn K (.ref C) x = some (some (.ref f))) (n : PySem.W.isFn K (.ref f) = true)
    (l : K.lookup f = some ⟨oc, od, .func (PySem.W.fnOf x q (defArgs st) (defBody st) (defScope st) .none kV doc pm an cdv ct), osl⟩) (c : PySem.W.codeIn K cdv q = true) (k : PySem.W.keepIn K (.ref f) = true) (cl : Cls K C) : DM K x q st (fun f => Cls K C ∧ Meth K C x f) := ⟨f, _, fun_mk l c k, cl, ⟨i, n, k⟩⟩
theorem con_mk {x : Str} {i : Int} {u : Value} {t : Tok} (X : K.In h) (G : h.Ns mainGlobals mg) (a : PySem.W.nsIn K mainGlobals x = some (some u)) (e : u = .int i t) : ∃ t : Tok, mg x = some (.int i t) := ⟨t, e ▸ PySem.W.mg_of X G a⟩
theorem ExF.mk' {x : Str} {C : Addr} (X : K.In h) (G : h.Ns mainGlobals mg) (a : PySem.W.nsIn K mainGlobals x = some (some (.ref C))) (e : PySem.W.excIn K C [.type "ValueError", .type "Exception", .type "BaseException", .type "object"] "ValueError.__new__" = true) (k : PySem.W.keepIn K (.ref C) = true) (b : PySem.W.subIn K (.ref C) (.type "BaseException") = some true) (t : PySem.W.typeIn K (.ref C) = some (.type "type")) : ExF K mg x C := ⟨PySem.W.mg_of X G a, e, k, b, t⟩
end
def exN (E0 E1 E2 E3 E4 E5 E6 : Addr) : Nat → Addr := fun c => match c with | 0 => E0 | 1 => E1 | 2 => E2 | 3 => E3 | 4 => E4 | 5 => E5 | _ => E6
def clN (C0 C1 : Addr) : Nat → Addr := fun c => match c with | 0 => C0 | _ => C1
abbrev gN (K : PySem.W.Frag) (C0 C1 E0 E1 E2 E3 E4 E5 E6 : Addr) (T : List (Addr × Str)) (a : Addr) (ns : List Int) : GE := ⟨K, clN C0 C1, exN E0 E1 E2 E3 E4 E5 E6, a, ns, T, fun _ => none⟩
abbrev tbN (c1 P1 c2 P2 c3 P3 : Addr) : List (Addr × Addr) := [(c1, P1), (c2, P2), (c3, P3)]
abbrev tqN (P1 P2 P3 : Addr) : List (Addr × Str) := [(P1, lamQ "_law_rings_right"), (P2, lamQ "_law_numbers_right"), (P3, lamQ "_law_objects_right")]
/-- the three makers, from what the top has written -/
theorem makers {P : Program} {w : World} {K : PySem.W.Frag} {mg : Str → Option Value} {base : Heap} {C0 C1 g c1 P1 c2 P2 c3 P3 : Addr} {G : GE} (hK : G.K = K) (h0 : G.cls 0 = C0) (h1 : G.cls 1 = C1) (T : Fx G mg) (O : Ox G) (W : WordF G mg g) (D_is_number : DF K mg "is_number" (st 12)) (D_lowest : DF K mg "lowest" (st 13)) (D_check_ring : DF K mg "check_ring" (st 17)) (D_settle : DF K mg "settle" (st 18)) (D_passes_of : DF K mg "passes_of" (st 19)) (D_loads_from : DF K mg "loads_from" (st 20)) (D_settled : DF K mg "settled" (st 22)) (D_settled_loads : DF K mg "settled_loads" (st 23)) (D_total_steps : DF K mg "total_steps" (st 24)) (D_vacated : DF K mg "vacated" (st 25)) (D_check_throw : DF K mg "check_throw" (st 27)) (D_choose : DF K mg "choose" (st 28)) (D_power_of : DF K mg "power_of" (st 29)) (D_ways_more : DF K mg "ways_more" (st 31)) (D_ways_with : DF K mg "ways_with" (st 30)) (D_most_chance : DF K mg "most_chance" (st 32)) (D_expected_most : DF K mg "expected_most" (st 33)) (D_used_ways : DF K mg "used_ways" (st 34)) (D_used_chances : DF K mg "used_chances" (st 35)) (D_apart_chance : DF K mg "apart_chance" (st 36)) (D_check_share : DF K mg "check_share" (st 40)) (D_is_before : DF K mg "is_before" (st 41)) (D_next_server : DF K mg "next_server" (st 42)) (D_servers_in_turn : DF K mg "servers_in_turn" (st 43)) (D_share_out : DF K mg "share_out" (st 45)) (D_in_turn : DF K mg "in_turn" (st 46)) (D_least_ratio : DF K mg "least_ratio" (st 47)) (D_count_shares : DF K mg "count_shares" (st 48)) (D__law_is_number : DF K mg "_law_is_number" (st 53)) (D__law_first : DF K mg "_law_first" (st 55)) (D__law_no : DF K mg "_law_no" (st 56)) (D__law_is_tuple : DF K mg "_law_is_tuple" (st 57)) (D__law_number : DF K mg "_law_number" (st 50)) (D__law_take : DF K mg "_law_take" (st 51)) (D__law_pick : DF K mg "_law_pick" (st 52)) (D_Settled_init : DM K "__init__" "Settled.__init__" (inClass (st 21) 0) (fun f => Mk K C0 f)) (D_Settled_eq : DM K "__eq__" "Settled.__eq__" (inClass (st 21) 1) (fun f => Cls K C0 ∧ Meth K C0 "__eq__" f)) (D_Settled_shows : DM K "shows" "Settled.shows" (inClass (st 21) 2) (fun f => Cls K C0 ∧ Meth K C0 "shows" f)) (D_Shares_init : DM K "__init__" "Shares.__init__" (inClass (st 44) 0) (fun f => Mk K C1 f)) (D_Shares_eq : DM K "__eq__" "Shares.__eq__" (inClass (st 44) 1) (fun f => Cls K C1 ∧ Meth K C1 "__eq__" f)) (D_Shares_shows : DM K "shows" "Shares.shows" (inClass (st 44) 2) (fun f => Cls K C1 ∧ Meth K C1 "shows" f)) (D__law_rings_right : DC K mg "_law_rings_right" (st 58) c1) (D__law_numbers_right : DC K mg "_law_numbers_right" (st 59) c2) (D__law_objects_right : DC K mg "_law_objects_right" (st 60) c3)
    (L1 : TabF G base mg "_law_rings_right" c1 P1) (L2 : TabF G base mg "_law_numbers_right" c2 P2) (L3 : TabF G base mg "_law_objects_right" c3 P3) : CalF P w G.K mg base G 7 "_law_rings_right" 1 F_drawn ∧ CalF P w G.K mg base G 7 "_law_numbers_right" 1 F_drawn ∧ CalF P w G.K mg base G 7 "_law_objects_right" 0 F_none := by
  subst hK h0 h1
  have c_is_number := c_is_number (P := P) (w := w) (base := base) T D_is_number
  have c_lowest := c_lowest (P := P) (w := w) (base := base) T D_lowest
  have c_check_ring := c_check_ring (P := P) (w := w) (base := base) T D_check_ring c_is_number
  have c_settle := c_settle (P := P) (w := w) (base := base) T D_settle c_check_ring
  have c_passes_of := c_passes_of (P := P) (w := w) (base := base) T D_passes_of
  have c_loads_from := c_loads_from (P := P) (w := w) (base := base) T D_loads_from c_passes_of
  have c_Settled_init := c_Settled_init (P := P) (w := w) (base := base) T D_Settled_init
  have c_Settled_eq := c_Settled_eq (P := P) (w := w) (base := base) T D_Settled_eq
  have c_Settled_shows := c_Settled_shows (P := P) (w := w) (base := base) T D_Settled_shows c_check_ring
  have c_settled := c_settled (P := P) (w := w) (base := base) T D_settled c_check_ring c_Settled_init c_passes_of
  have c_settled_loads := c_settled_loads (P := P) (w := w) (base := base) T D_settled_loads c_check_ring c_loads_from
  have c_total_steps := c_total_steps (P := P) (w := w) (base := base) T D_total_steps c_check_ring c_passes_of
  have c_vacated := c_vacated (P := P) (w := w) (base := base) T D_vacated c_check_ring c_is_number c_loads_from
  have c_check_throw := c_check_throw (P := P) (w := w) (base := base) T D_check_throw c_is_number
  have c_choose := c_choose (P := P) (w := w) (base := base) T D_choose
  have c_power_of := c_power_of (P := P) (w := w) (base := base) T D_power_of
  have c_ways_more := c_ways_more (P := P) (w := w) (base := base) T D_ways_more c_choose
  have c_ways_with := c_ways_with (P := P) (w := w) (base := base) T D_ways_with c_ways_more
  have c_ways_withT := c_ways_withT (P := P) (w := w) (base := base) c_ways_with
  have c_most_chance := c_most_chance (P := P) (w := w) (base := base) T D_most_chance c_check_throw c_is_number c_lowest c_ways_withT c_power_of
  have c_expected_most := c_expected_most (P := P) (w := w) (base := base) T D_expected_most c_check_throw c_ways_withT c_power_of c_lowest
  have c_used_ways := c_used_ways (P := P) (w := w) (base := base) T D_used_ways c_choose c_power_of
  have c_used_chances := c_used_chances (P := P) (w := w) (base := base) T D_used_chances c_check_throw c_lowest c_used_ways c_power_of
  have c_apart_chance := c_apart_chance (P := P) (w := w) (base := base) T D_apart_chance c_check_throw c_lowest c_power_of
  have c_check_share := c_check_share (P := P) (w := w) (base := base) T D_check_share c_is_number
  have c_is_before := c_is_before (P := P) (w := w) (base := base) T D_is_before
  have c_next_server := c_next_server (P := P) (w := w) (base := base) T D_next_server c_is_before
  have c_servers_in_turn := c_servers_in_turn (P := P) (w := w) (base := base) T D_servers_in_turn c_next_server
  have c_Shares_init := c_Shares_init (P := P) (w := w) (base := base) T D_Shares_init
  have c_Shares_eq := c_Shares_eq (P := P) (w := w) (base := base) T D_Shares_eq
  have c_Shares_shows := c_Shares_shows (P := P) (w := w) (base := base) T D_Shares_shows c_check_share
  have c_share_out := c_share_out (P := P) (w := w) (base := base) T D_share_out c_check_share c_servers_in_turn c_Shares_init
  have c_in_turn := c_in_turn (P := P) (w := w) (base := base) T D_in_turn c_check_share c_servers_in_turn
  have c_least_ratio := c_least_ratio (P := P) (w := w) (base := base) T D_least_ratio c_check_share c_servers_in_turn c_lowest
  have c_count_shares := c_count_shares (P := P) (w := w) (base := base) T D_count_shares c_check_share c_servers_in_turn c_choose
  have c__law_is_number := c__law_is_number (P := P) (w := w) (base := base) T D__law_is_number
  have c__law_first := c__law_first (P := P) (w := w) (base := base) T D__law_first
  have c__law_no := c__law_no (P := P) (w := w) (base := base) T D__law_no
  have c__law_is_tuple := c__law_is_tuple (P := P) (w := w) (base := base) T D__law_is_tuple c__law_is_number
  have c__law_take := c__law_take (P := P) (w := w) (base := base) T D__law_number D__law_take
  have c__law_pick := c__law_pick (P := P) (w := w) (base := base) T D__law_pick c__law_take
  have c__law_rings_right := c__law_rings_right (P := P) (w := w) (base := base) T W c__law_pick c__law_no c__law_is_tuple c__law_first c__law_is_number c_settle c_settled c_settled_loads c_total_steps c_Settled_init c_Settled_shows c_vacated D__law_rings_right L1
  have c__law_numbers_right := c__law_numbers_right (P := P) (w := w) (base := base) T W c__law_pick c__law_first c__law_no c__law_is_number c__law_is_tuple c_expected_most c_used_chances c_apart_chance c_most_chance c_share_out c_in_turn c_least_ratio c_count_shares c_Shares_init c_Shares_shows D__law_numbers_right L2
  have c__law_objects_right := c__law_objects_right (P := P) (w := w) (base := base) T O c_Shares_eq c_Shares_init c_Settled_eq c_Settled_init c_settle c_settled_loads c_in_turn D__law_objects_right L3
  exact ⟨c__law_rings_right, c__law_numbers_right, c__law_objects_right⟩
def spLaw (K : PySem.W.Frag) (cs : List (Addr × Addr)) : Sp := fun vs H Q _ => ∃ (a : Addr) (ns : List Int), vs = [.ref a] ∧ (∀ p ∈ cs, H p.2 = some (.tbl #[])) ∧ SqL K H a (ns.map V.int) ∧ ∀ H', Q (.bl true) H'
theorem all_mk {l : PySem.W.OpenLaw} {w : World} {K : PySem.W.Frag} {h : Heap} {mg : Str → Option Value} {ts : List Addr} {fa C0 C1 E0 E1 E2 E3 E4 E5 E6 g CL c1 P1 c2 P2 c3 P3 f5 : Addr} {od5 an5 : Option Addr} {sl5 : Array (Option Value)} {oc5 kV5 dc5 pm5 cd5 ct5 oq1 oq2 oq3 : Value} {dq1 dq2 dq3 : Option Addr} {vs1 vs2 vs3 : Array Value} {sq1 sq2 sq3 : Array (Option Value)} (X : K.In h) (G : h.Ns mainGlobals mg) (hfa : mg "law" = some (.ref fa)) (hts : ∀ P ∈ ts, h.get? P = some (PySem.W.tabObj #[]))
    (aC0 : PySem.W.nsIn K mainGlobals "Settled" = some (some (.ref C0))) (aC1 : PySem.W.nsIn K mainGlobals "Shares" = some (some (.ref C1)))
    (a0 : PySem.W.nsIn K mainGlobals "BadRooms" = some (some (.ref E0))) (a1 : PySem.W.nsIn K mainGlobals "BadStarts" = some (some (.ref E1))) (a2 : PySem.W.nsIn K mainGlobals "NotPossible" = some (some (.ref E2))) (a3 : PySem.W.nsIn K mainGlobals "BadIndex" = some (some (.ref E3))) (a4 : PySem.W.nsIn K mainGlobals "BadMany" = some (some (.ref E4))) (a5 : PySem.W.nsIn K mainGlobals "BadServers" = some (some (.ref E5))) (a6 : PySem.W.nsIn K mainGlobals "BadCapacities" = some (some (.ref E6)))
    (q1 : K.lookup c1 = some ⟨oq1, dq1, .fields vs1, sq1⟩) (r1 : vs1[11]? = some (.ref P1)) (q2 : K.lookup c2 = some ⟨oq2, dq2, .fields vs2, sq2⟩) (r2 : vs2[11]? = some (.ref P2)) (q3 : K.lookup c3 = some ⟨oq3, dq3, .fields vs3, sq3⟩) (r3 : vs3[11]? = some (.ref P3))
    (d1 : PySem.W.codeHdIn K c1 P1 = true) (d2 : PySem.W.codeHdIn K c2 P2 = true) (d3 : PySem.W.codeHdIn K c3 P3 = true) (n1 : K.lookup P1 = none) (n2 : K.lookup P2 = none) (n3 : K.lookup P3 = none) (m1 : P1 ∈ ts) (m2 : P2 ∈ ts) (m3 : P3 ∈ ts) (e12 : P1 ≠ P2) (e13 : P1 ≠ P3) (e23 : P2 ≠ P3)
    (L0 : ClsF K C0 (fldN 0)) (L1 : ClsF K C1 (fldN 1)) (k00 : PySem.W.kitOne K (.ref C0) (.ref C0) = some true) (k01 : PySem.W.kitOne K (.ref C1) (.ref C0) = some false) (k10 : PySem.W.kitOne K (.ref C0) (.ref C1) = some false) (k11 : PySem.W.kitOne K (.ref C1) (.ref C1) = some true) (f00 : PySem.W.notFirst K C0 (.ref C0) = true) (f01 : PySem.W.notFirst K C0 (.ref C1) = true) (f10 : PySem.W.notFirst K C1 (.ref C0) = true) (f11 : PySem.W.notFirst K C1 (.ref C1) = true) (n0 : PySem.W.findIn K (.ref C0) "__ne__" = some (some (.builtin "object.__ne__"))) (n1' : PySem.W.findIn K (.ref C1) "__ne__" = some (some (.builtin "object.__ne__")))
    (X0 : ExF K mg "BadRooms" E0) (X1 : ExF K mg "BadStarts" E1) (X2 : ExF K mg "NotPossible" E2) (X3 : ExF K mg "BadIndex" E3) (X4 : ExF K mg "BadMany" E4) (X5 : ExF K mg "BadServers" E5) (X6 : ExF K mg "BadCapacities" E6) (x00 : PySem.W.exmOne K (.ref E0) (.ref E0) = some true) (x10 : PySem.W.exmOne K (.ref E1) (.ref E0) = some false) (x11 : PySem.W.exmOne K (.ref E1) (.ref E1) = some true) (x20 : PySem.W.exmOne K (.ref E2) (.ref E0) = some false) (x21 : PySem.W.exmOne K (.ref E2) (.ref E1) = some false) (x22 : PySem.W.exmOne K (.ref E2) (.ref E2) = some true) (x30 : PySem.W.exmOne K (.ref E3) (.ref E0) = some false) (x31 : PySem.W.exmOne K (.ref E3) (.ref E1) = some false) (x32 : PySem.W.exmOne K (.ref E3) (.ref E2) = some false) (x33 : PySem.W.exmOne K (.ref E3) (.ref E3) = some true) (x40 : PySem.W.exmOne K (.ref E4) (.ref E0) = some false) (x41 : PySem.W.exmOne K (.ref E4) (.ref E1) = some false) (x42 : PySem.W.exmOne K (.ref E4) (.ref E2) = some false) (x43 : PySem.W.exmOne K (.ref E4) (.ref E3) = some false) (x44 : PySem.W.exmOne K (.ref E4) (.ref E4) = some true) (x50 : PySem.W.exmOne K (.ref E5) (.ref E0) = some false) (x51 : PySem.W.exmOne K (.ref E5) (.ref E1) = some false) (x52 : PySem.W.exmOne K (.ref E5) (.ref E2) = some false) (x53 : PySem.W.exmOne K (.ref E5) (.ref E3) = some false) (x54 : PySem.W.exmOne K (.ref E5) (.ref E4) = some false) (x55 : PySem.W.exmOne K (.ref E5) (.ref E5) = some true) (x60 : PySem.W.exmOne K (.ref E6) (.ref E0) = some false) (x61 : PySem.W.exmOne K (.ref E6) (.ref E1) = some false) (x62 : PySem.W.exmOne K (.ref E6) (.ref E2) = some false) (x63 : PySem.W.exmOne K (.ref E6) (.ref E3) = some false) (x64 : PySem.W.exmOne K (.ref E6) (.ref E4) = some false) (x65 : PySem.W.exmOne K (.ref E6) (.ref E5) = some false) (x66 : PySem.W.exmOne K (.ref E6) (.ref E6) = some true)
    (aL : PySem.W.nsIn K mainGlobals "LotError" = some (some (.ref CL))) (aW : PySem.W.nsIn K mainGlobals "_law_word" = some (some (.ref g))) (FW : ∃ gd, Fun K "_law_word" "_law_word" (st 54) g gd)
    (z_isinstance : PySem.W.nsIn K mainGlobals "isinstance" = some none) (z_int : PySem.W.nsIn K mainGlobals "int" = some none) (z_bool : PySem.W.nsIn K mainGlobals "bool" = some none) (z_tuple : PySem.W.nsIn K mainGlobals "tuple" = some none) (z_len : PySem.W.nsIn K mainGlobals "len" = some none) (z_all : PySem.W.nsIn K mainGlobals "all" = some none) (z_any : PySem.W.nsIn K mainGlobals "any" = some none) (z_sum : PySem.W.nsIn K mainGlobals "sum" = some none) (z_range : PySem.W.nsIn K mainGlobals "range" = some none) (z_max : PySem.W.nsIn K mainGlobals "max" = some none) (z_min : PySem.W.nsIn K mainGlobals "min" = some none) (z_abs : PySem.W.nsIn K mainGlobals "abs" = some none) (z_enumerate : PySem.W.nsIn K mainGlobals "enumerate" = some none) (z_zip : PySem.W.nsIn K mainGlobals "zip" = some none) (z_list : PySem.W.nsIn K mainGlobals "list" = some none) (v_MOST_SERVERS : ∃ t : Tok, mg "MOST_SERVERS" = some (.int 8 t)) (v_MOST_ITEMS : ∃ t : Tok, mg "MOST_ITEMS" = some (.int 10 t)) (v_MOST_ROOM : ∃ t : Tok, mg "MOST_ROOM" = some (.int 10 t)) (v_MOST_STARTS : ∃ t : Tok, mg "MOST_STARTS" = some (.int 20 t)) (v_MOST_CAPACITY : ∃ t : Tok, mg "MOST_CAPACITY" = some (.int 10 t)) (v_MOST_SHARED : ∃ t : Tok, mg "MOST_SHARED" = some (.int 20 t))
    (D_is_number : DF K mg "is_number" (st 12)) (D_lowest : DF K mg "lowest" (st 13)) (D_check_ring : DF K mg "check_ring" (st 17)) (D_settle : DF K mg "settle" (st 18)) (D_passes_of : DF K mg "passes_of" (st 19)) (D_loads_from : DF K mg "loads_from" (st 20)) (D_settled : DF K mg "settled" (st 22)) (D_settled_loads : DF K mg "settled_loads" (st 23)) (D_total_steps : DF K mg "total_steps" (st 24)) (D_vacated : DF K mg "vacated" (st 25)) (D_check_throw : DF K mg "check_throw" (st 27)) (D_choose : DF K mg "choose" (st 28)) (D_power_of : DF K mg "power_of" (st 29)) (D_ways_more : DF K mg "ways_more" (st 31)) (D_ways_with : DF K mg "ways_with" (st 30)) (D_most_chance : DF K mg "most_chance" (st 32)) (D_expected_most : DF K mg "expected_most" (st 33)) (D_used_ways : DF K mg "used_ways" (st 34)) (D_used_chances : DF K mg "used_chances" (st 35)) (D_apart_chance : DF K mg "apart_chance" (st 36)) (D_check_share : DF K mg "check_share" (st 40)) (D_is_before : DF K mg "is_before" (st 41)) (D_next_server : DF K mg "next_server" (st 42)) (D_servers_in_turn : DF K mg "servers_in_turn" (st 43)) (D_share_out : DF K mg "share_out" (st 45)) (D_in_turn : DF K mg "in_turn" (st 46)) (D_least_ratio : DF K mg "least_ratio" (st 47)) (D_count_shares : DF K mg "count_shares" (st 48)) (D__law_is_number : DF K mg "_law_is_number" (st 53)) (D__law_first : DF K mg "_law_first" (st 55)) (D__law_no : DF K mg "_law_no" (st 56)) (D__law_is_tuple : DF K mg "_law_is_tuple" (st 57)) (D__law_number : DF K mg "_law_number" (st 50)) (D__law_take : DF K mg "_law_take" (st 51)) (D__law_pick : DF K mg "_law_pick" (st 52)) (D_Settled_init : DM K "__init__" "Settled.__init__" (inClass (st 21) 0) (fun f => Mk K C0 f)) (D_Settled_eq : DM K "__eq__" "Settled.__eq__" (inClass (st 21) 1) (fun f => Cls K C0 ∧ Meth K C0 "__eq__" f)) (D_Settled_shows : DM K "shows" "Settled.shows" (inClass (st 21) 2) (fun f => Cls K C0 ∧ Meth K C0 "shows" f)) (D_Shares_init : DM K "__init__" "Shares.__init__" (inClass (st 44) 0) (fun f => Mk K C1 f)) (D_Shares_eq : DM K "__eq__" "Shares.__eq__" (inClass (st 44) 1) (fun f => Cls K C1 ∧ Meth K C1 "__eq__" f)) (D_Shares_shows : DM K "shows" "Shares.shows" (inClass (st 44) 2) (fun f => Cls K C1 ∧ Meth K C1 "shows" f)) (D__law_rings_right : DC K mg "_law_rings_right" (st 58) c1) (D__law_numbers_right : DC K mg "_law_numbers_right" (st 59) c2) (D__law_objects_right : DC K mg "_law_objects_right" (st 60) c3)
    (aF : PySem.W.nsIn K mainGlobals "law" = some (some (.ref f5))) (l5 : K.lookup f5 = some ⟨oc5, od5, .func (PySem.W.fnOf "law" "law" (defArgs (st 61)) (defBody (st 61)) (defScope (st 61)) .none kV5 dc5 pm5 an5 cd5 ct5), sl5⟩) (c5 : PySem.W.codeIn K cd5 "law" = true) (k5 : PySem.W.keepIn K (.ref f5) = true) :
    LamX.LawAtS l w K (L2.CX l.prog w) 8 63 "_law_script" mg fa h := by
  have e := hfa.symm.trans (PySem.W.mg_of X G aF)
  cases e
  have F5 := fun_mk (st := st 61) l5 c5 k5
  refine ⟨PySem.W.fnOf "law" "law" (defArgs (st 61)) (defBody (st 61)) (defScope (st 61)) .none kV5 dc5 pm5 an5 cd5 ct5, tbN c1 P1 c2 P2 c3 P3, spLaw K (tbN c1 P1 c2 P2 c3 P3), ?_, ?_, ?_, fun s v => .of_eq rfl, fun H a ns _ _ hT hS => ⟨a, ns, rfl, hT, hS, fun _ => rfl⟩, fun base XB GB TB => ?_⟩
  · intro p hp
    simp only [tbN, List.mem_cons, List.not_mem_nil, or_false] at hp
    rcases hp with rfl | rfl | rfl
    · exact hts _ m1
    · exact hts _ m2
    · exact hts _ m3
  · intro p hp
    simp only [tbN, List.mem_cons, List.not_mem_nil, or_false] at hp
    rcases hp with rfl | rfl | rfl
    · exact n1
    · exact n2
    · exact n3
  · intro p hp
    simp only [tbN, List.mem_cons, List.not_mem_nil, or_false] at hp
    rcases hp with rfl | rfl | rfl
    · exact PySem.W.codeHd_of_K X d1
    · exact PySem.W.codeHd_of_K X d2
    · exact PySem.W.codeHd_of_K X d3
  · refine F5.okX (k := 7) n_law (fun vs H Q E ⟨a, ns, e, _⟩ => by rw [e]; rfl) fun cdv A outer s H vs Q E hr hs => ?_
    obtain ⟨a, ns, rfl, hT, hS, hq⟩ := hs
    have T : Fx (gN K C0 C1 E0 E1 E2 E3 E4 E5 E6 (tqN P1 P2 P3) a ns) mg := {
      isinstance := PySem.W.mg_none_of X G z_isinstance
      int := PySem.W.mg_none_of X G z_int
      bool := PySem.W.mg_none_of X G z_bool
      tuple := PySem.W.mg_none_of X G z_tuple
      len := PySem.W.mg_none_of X G z_len
      all := PySem.W.mg_none_of X G z_all
      any := PySem.W.mg_none_of X G z_any
      sum := PySem.W.mg_none_of X G z_sum
      range := PySem.W.mg_none_of X G z_range
      max := PySem.W.mg_none_of X G z_max
      min := PySem.W.mg_none_of X G z_min
      abs := PySem.W.mg_none_of X G z_abs
      enumerate := PySem.W.mg_none_of X G z_enumerate
      zip := PySem.W.mg_none_of X G z_zip
      list := PySem.W.mg_none_of X G z_list
      MOST_SERVERS := v_MOST_SERVERS
      MOST_ITEMS := v_MOST_ITEMS
      MOST_ROOM := v_MOST_ROOM
      MOST_STARTS := v_MOST_STARTS
      MOST_CAPACITY := v_MOST_CAPACITY
      MOST_SHARED := v_MOST_SHARED
      BadRooms := X0
      BadStarts := X1
      NotPossible := X2
      BadIndex := X3
      BadMany := X4
      BadServers := X5
      BadCapacities := X6
      cls := fun d hd => match d, hd with | 0, _ => L0 | 1, _ => L1
      kit := fun c hc d hd => match c, d, hc, hd with | 0, 0, _, _ => k00 | 0, 1, _, _ => k01 | 1, 0, _, _ => k10 | 1, 1, _, _ => k11
      Settled := PySem.W.mg_of X G aC0
      Shares := PySem.W.mg_of X G aC1 }
    have O : Ox (gN K C0 C1 E0 E1 E2 E3 E4 E5 E6 (tqN P1 P2 P3) a ns) := {
      ne := fun d hd => match d, hd with | 0, _ => n0 | 1, _ => n1'
      mo := fun d hd => match d, hd with | 0, _ => L0.mo | 1, _ => L1.mo
      nf := fun c hc d hd => match c, d, hc, hd with | 0, 0, _, _ => f00 | 0, 1, _, _ => f01 | 1, 0, _, _ => f10 | 1, 1, _, _ => f11 }
    have W : WordF (gN K C0 C1 E0 E1 E2 E3 E4 E5 E6 (tqN P1 P2 P3) a ns) mg g := {
      df := FW
      mgf := PySem.W.mg_of X G aW
      lot := ⟨CL, PySem.W.mg_of X G aL⟩
      exm := fun c hc d hd => match c, d, hc, hd with
        | 0, 0, _, _ => x00
        | 1, 0, _, _ => x10
        | 1, 1, _, _ => x11
        | 2, 0, _, _ => x20
        | 2, 1, _, _ => x21
        | 2, 2, _, _ => x22
        | 3, 0, _, _ => x30
        | 3, 1, _, _ => x31
        | 3, 2, _, _ => x32
        | 3, 3, _, _ => x33
        | 4, 0, _, _ => x40
        | 4, 1, _, _ => x41
        | 4, 2, _, _ => x42
        | 4, 3, _, _ => x43
        | 4, 4, _, _ => x44
        | 5, 0, _, _ => x50
        | 5, 1, _, _ => x51
        | 5, 2, _, _ => x52
        | 5, 3, _, _ => x53
        | 5, 4, _, _ => x54
        | 5, 5, _, _ => x55
        | 6, 0, _, _ => x60
        | 6, 1, _, _ => x61
        | 6, 2, _, _ => x62
        | 6, 3, _, _ => x63
        | 6, 4, _, _ => x64
        | 6, 5, _, _ => x65
        | 6, 6, _, _ => x66 }
    obtain ⟨r1, r2, r3⟩ := makers (P := l.prog) (w := w) (base := base) (G := gN K C0 C1 E0 E1 E2 E3 E4 E5 E6 (tqN P1 P2 P3) a ns) rfl rfl rfl T O W D_is_number D_lowest D_check_ring D_settle D_passes_of D_loads_from D_settled D_settled_loads D_total_steps D_vacated D_check_throw D_choose D_power_of D_ways_more D_ways_with D_most_chance D_expected_most D_used_ways D_used_chances D_apart_chance D_check_share D_is_before D_next_server D_servers_in_turn D_share_out D_in_turn D_least_ratio D_count_shares D__law_is_number D__law_first D__law_no D__law_is_tuple D__law_number D__law_take D__law_pick D_Settled_init D_Settled_eq D_Settled_shows D_Shares_init D_Shares_eq D_Shares_shows D__law_rings_right D__law_numbers_right D__law_objects_right
      ⟨TB _ (List.mem_cons_self ..), List.mem_cons_self .., fun p hp e => by
        simp only [tqN, List.mem_cons, List.not_mem_nil, or_false] at hp
        rcases hp with rfl | rfl | rfl
        · rfl
        · exact absurd e.symm e12
        · exact absurd e.symm e13⟩
      ⟨TB _ (List.mem_cons_of_mem _ (List.mem_cons_self ..)), List.mem_cons_of_mem _ (List.mem_cons_self ..), fun p hp e => by
        simp only [tqN, List.mem_cons, List.not_mem_nil, or_false] at hp
        rcases hp with rfl | rfl | rfl
        · exact absurd e e12
        · rfl
        · exact absurd e.symm e23⟩
      ⟨TB _ (List.mem_cons_of_mem _ (List.mem_cons_of_mem _ (List.mem_cons_self ..))), List.mem_cons_of_mem _ (List.mem_cons_of_mem _ (List.mem_cons_self ..)), fun p hp e => by
        simp only [tqN, List.mem_cons, List.not_mem_nil, or_false] at hp
        rcases hp with rfl | rfl | rfl
        · exact absurd e e13
        · exact absurd e e23
        · rfl⟩
    obtain ⟨t, b, run⟩ := p_law T r1 r2 r3 (A := A) (outer := outer) (s := s) (H0 := H) (E := E) hr
    refine ⟨t, b, run (fun _ => a) H _ ⟨fun n m q _ _ => absurd q (Nat.not_lt_zero _), fun n o q => (nomatch q), ?_, ?_⟩ hq⟩
    · rcases hS with (q | q) | q
      · exact .inl ⟨q, fun _ z => absurd z (Nat.not_lt_zero _)⟩
      · exact .inr (.inl q)
      · exact .inr (.inr q)
    · intro p hp
      simp only [tqN, List.mem_cons, List.not_mem_nil, or_false] at hp
      rcases hp with rfl | rfl | rfl
      · exact LamX.TabS.nil (hT _ (List.mem_cons_self ..))
      · exact LamX.TabS.nil (hT _ (List.mem_cons_of_mem _ (List.mem_cons_self ..)))
      · exact LamX.TabS.nil (hT _ (List.mem_cons_of_mem _ (List.mem_cons_of_mem _ (List.mem_cons_self ..))))
end AIx
open PySem PyProof.Rows PySem.W
theorem PySem.Challenge.cw_copylots_k65_whole_refused_more_holds : PySem.Challenge.rw_copylots_k65_whole_refused_more.Holds := by
  w_on; o_law; k_head; (case hw => w_witness2); k_fill
  refine LamX.walk_ofTs (l := PySem.Challenge.rw_copylots_k65_whole_refused_more) (n := 63) (k := 8) (x := "_law_script") (CX := fun w => L2.CX PySem.Challenge.rw_copylots_k65_whole_refused_more.prog w) rfl (by decide) rfl ⟨rfl, by decide, by decide⟩ (fun w h Y => PySem.W.km_in_of Y) ?F ?hCX
  case hCX =>
    intro w H s e s' hz
    obtain ⟨_, _, _, _, _, _, _, _, _, _, _, _, z⟩ := hz
    exact z.elim
  case F =>
    intro w mg fa h Y KX G hmg
    refine' AIx.all_mk KX G hmg (PySem.W.km_tabs_of Y) ?h_aC0 ?h_aC1 ?h_a0 ?h_a1 ?h_a2 ?h_a3 ?h_a4 ?h_a5 ?h_a6 ?h_q1 ?h_r1 ?h_q2 ?h_r2 ?h_q3 ?h_r3 ?h_d1 ?h_d2 ?h_d3 ?h_n1 ?h_n2 ?h_n3 ?h_m1 ?h_m2 ?h_m3 ?h_e12 ?h_e13 ?h_e23 ?h_L0 ?h_L1 ?h_k00 ?h_k01 ?h_k10 ?h_k11 ?h_f00 ?h_f01 ?h_f10 ?h_f11 ?h_n0 ?h_n1p ?h_X0 ?h_X1 ?h_X2 ?h_X3 ?h_X4 ?h_X5 ?h_X6 ?h_x00 ?h_x10 ?h_x11 ?h_x20 ?h_x21 ?h_x22 ?h_x30 ?h_x31 ?h_x32 ?h_x33 ?h_x40 ?h_x41 ?h_x42 ?h_x43 ?h_x44 ?h_x50 ?h_x51 ?h_x52 ?h_x53 ?h_x54 ?h_x55 ?h_x60 ?h_x61 ?h_x62 ?h_x63 ?h_x64 ?h_x65 ?h_x66 ?h_aL ?h_aW ?h_FW ?h_z_isinstance ?h_z_int ?h_z_bool ?h_z_tuple ?h_z_len ?h_z_all ?h_z_any ?h_z_sum ?h_z_range ?h_z_max ?h_z_min ?h_z_abs ?h_z_enumerate ?h_z_zip ?h_z_list ?h_v_MOST_SERVERS ?h_v_MOST_ITEMS ?h_v_MOST_ROOM ?h_v_MOST_STARTS ?h_v_MOST_CAPACITY ?h_v_MOST_SHARED ?h_D_is_number ?h_D_lowest ?h_D_check_ring ?h_D_settle ?h_D_passes_of ?h_D_loads_from ?h_D_settled ?h_D_settled_loads ?h_D_total_steps ?h_D_vacated ?h_D_check_throw ?h_D_choose ?h_D_power_of ?h_D_ways_more ?h_D_ways_with ?h_D_most_chance ?h_D_expected_most ?h_D_used_ways ?h_D_used_chances ?h_D_apart_chance ?h_D_check_share ?h_D_is_before ?h_D_next_server ?h_D_servers_in_turn ?h_D_share_out ?h_D_in_turn ?h_D_least_ratio ?h_D_count_shares ?h_D__law_is_number ?h_D__law_first ?h_D__law_no ?h_D__law_is_tuple ?h_D__law_number ?h_D__law_take ?h_D__law_pick ?h_D_Settled_init ?h_D_Settled_eq ?h_D_Settled_shows ?h_D_Shares_init ?h_D_Shares_eq ?h_D_Shares_shows ?h_D__law_rings_right ?h_D__law_numbers_right ?h_D__law_objects_right ?h_aF ?h_l5 ?h_c5 ?h_k5
    (case h_D__law_rings_right => refine' AIx.DC.mk' KX G ?a ?l ?c ?k; (case a => k_is); (case l => k_is); (case c => k_is); (case k => k_is))
    (case h_D__law_numbers_right => refine' AIx.DC.mk' KX G ?a ?l ?c ?k; (case a => k_is); (case l => k_is); (case c => k_is); (case k => k_is))
    (case h_D__law_objects_right => refine' AIx.DC.mk' KX G ?a ?l ?c ?k; (case a => k_is); (case l => k_is); (case c => k_is); (case k => k_is))
    (case h_aC0 => k_is)
    (case h_aC1 => k_is)
    (case h_a0 => k_is)
    (case h_a1 => k_is)
    (case h_a2 => k_is)
    (case h_a3 => k_is)
    (case h_a4 => k_is)
    (case h_a5 => k_is)
    (case h_a6 => k_is)
    (case h_q1 => k_is)
    (case h_r1 => rfl)
    (case h_q2 => k_is)
    (case h_r2 => rfl)
    (case h_q3 => k_is)
    (case h_r3 => rfl)
    (case h_d1 => kernel_rfl)
    (case h_d2 => kernel_rfl)
    (case h_d3 => kernel_rfl)
    (case h_n1 => kernel_rfl)
    (case h_n2 => kernel_rfl)
    (case h_n3 => kernel_rfl)
    (case h_m1 => decide)
    (case h_m2 => decide)
    (case h_m3 => decide)
    (case h_e12 => decide)
    (case h_e13 => decide)
    (case h_e23 => decide)
    (case h_L0 => refine' ⟨⟨?p1, ?p2, ?p3, ?p4⟩, ?p5, ?p6, ?p7, ?p8, ?p9⟩; (case p1 => k_is); (case p2 => k_is); (case p3 => k_is); (case p4 => k_is); (case p5 => exact (show PySem.W.findIn _ _ _ = some none by k_is)); (case p6 => k_is); (case p7 => k_is); (case p8 => k_is); (case p9 => k_is))
    (case h_L1 => refine' ⟨⟨?p1, ?p2, ?p3, ?p4⟩, ?p5, ?p6, ?p7, ?p8, ?p9⟩; (case p1 => k_is); (case p2 => k_is); (case p3 => k_is); (case p4 => k_is); (case p5 => exact (show PySem.W.findIn _ _ _ = some none by k_is)); (case p6 => k_is); (case p7 => k_is); (case p8 => k_is); (case p9 => k_is))
    (case h_k00 => kernel_rfl)
    (case h_k01 => kernel_rfl)
    (case h_k10 => kernel_rfl)
    (case h_k11 => kernel_rfl)
    (case h_f00 => k_is)
    (case h_f01 => k_is)
    (case h_f10 => k_is)
    (case h_f11 => k_is)
    (case h_n0 => k_is)
    (case h_n1p => k_is)
    (case h_X0 => refine' AIx.ExF.mk' KX G ?a ?e ?k ?b ?t; (case a => k_is); (case e => kernel_rfl); (case k => k_is); (case b => k_is); (case t => k_is))
    (case h_X1 => refine' AIx.ExF.mk' KX G ?a ?e ?k ?b ?t; (case a => k_is); (case e => kernel_rfl); (case k => k_is); (case b => k_is); (case t => k_is))
    (case h_X2 => refine' AIx.ExF.mk' KX G ?a ?e ?k ?b ?t; (case a => k_is); (case e => kernel_rfl); (case k => k_is); (case b => k_is); (case t => k_is))
    (case h_X3 => refine' AIx.ExF.mk' KX G ?a ?e ?k ?b ?t; (case a => k_is); (case e => kernel_rfl); (case k => k_is); (case b => k_is); (case t => k_is))
    (case h_X4 => refine' AIx.ExF.mk' KX G ?a ?e ?k ?b ?t; (case a => k_is); (case e => kernel_rfl); (case k => k_is); (case b => k_is); (case t => k_is))
    (case h_X5 => refine' AIx.ExF.mk' KX G ?a ?e ?k ?b ?t; (case a => k_is); (case e => kernel_rfl); (case k => k_is); (case b => k_is); (case t => k_is))
    (case h_X6 => refine' AIx.ExF.mk' KX G ?a ?e ?k ?b ?t; (case a => k_is); (case e => kernel_rfl); (case k => k_is); (case b => k_is); (case t => k_is))
    (case h_x00 => kernel_rfl)
    (case h_x10 => kernel_rfl)
    (case h_x11 => kernel_rfl)
    (case h_x20 => kernel_rfl)
    (case h_x21 => kernel_rfl)
    (case h_x22 => kernel_rfl)
    (case h_x30 => kernel_rfl)
    (case h_x31 => kernel_rfl)
    (case h_x32 => kernel_rfl)
    (case h_x33 => kernel_rfl)
    (case h_x40 => kernel_rfl)
    (case h_x41 => kernel_rfl)
    (case h_x42 => kernel_rfl)
    (case h_x43 => kernel_rfl)
    (case h_x44 => kernel_rfl)
    (case h_x50 => kernel_rfl)
    (case h_x51 => kernel_rfl)
    (case h_x52 => kernel_rfl)
    (case h_x53 => kernel_rfl)
    (case h_x54 => kernel_rfl)
    (case h_x55 => kernel_rfl)
    (case h_x60 => kernel_rfl)
    (case h_x61 => kernel_rfl)
    (case h_x62 => kernel_rfl)
    (case h_x63 => kernel_rfl)
    (case h_x64 => kernel_rfl)
    (case h_x65 => kernel_rfl)
    (case h_x66 => kernel_rfl)
    (case h_aL => k_is)
    (case h_aW => k_is)
    (case h_FW => refine' ⟨_, L2.fun_mk ?l ?c ?k⟩; (case l => k_is); (case c => k_is); (case k => k_is))
    (case h_z_isinstance => k_is)
    (case h_z_int => k_is)
    (case h_z_bool => k_is)
    (case h_z_tuple => k_is)
    (case h_z_len => k_is)
    (case h_z_all => k_is)
    (case h_z_any => k_is)
    (case h_z_sum => k_is)
    (case h_z_range => k_is)
    (case h_z_max => k_is)
    (case h_z_min => k_is)
    (case h_z_abs => k_is)
    (case h_z_enumerate => k_is)
    (case h_z_zip => k_is)
    (case h_z_list => k_is)
    (case h_v_MOST_SERVERS => refine' AIx.con_mk KX G ?v ?e; (case v => k_is); (case e => rfl))
    (case h_v_MOST_ITEMS => refine' AIx.con_mk KX G ?v ?e; (case v => k_is); (case e => rfl))
    (case h_v_MOST_ROOM => refine' AIx.con_mk KX G ?v ?e; (case v => k_is); (case e => rfl))
    (case h_v_MOST_STARTS => refine' AIx.con_mk KX G ?v ?e; (case v => k_is); (case e => rfl))
    (case h_v_MOST_CAPACITY => refine' AIx.con_mk KX G ?v ?e; (case v => k_is); (case e => rfl))
    (case h_v_MOST_SHARED => refine' AIx.con_mk KX G ?v ?e; (case v => k_is); (case e => rfl))
    (case h_D_is_number => refine' AIx.DF.mk' KX G ?a ?l ?c ?k; (case a => k_is); (case l => k_is); (case c => k_is); (case k => k_is))
    (case h_D_lowest => refine' AIx.DF.mk' KX G ?a ?l ?c ?k; (case a => k_is); (case l => k_is); (case c => k_is); (case k => k_is))
    (case h_D_check_ring => refine' AIx.DF.mk' KX G ?a ?l ?c ?k; (case a => k_is); (case l => k_is); (case c => k_is); (case k => k_is))
    (case h_D_settle => refine' AIx.DF.mk' KX G ?a ?l ?c ?k; (case a => k_is); (case l => k_is); (case c => k_is); (case k => k_is))
    (case h_D_passes_of => refine' AIx.DF.mk' KX G ?a ?l ?c ?k; (case a => k_is); (case l => k_is); (case c => k_is); (case k => k_is))
    (case h_D_loads_from => refine' AIx.DF.mk' KX G ?a ?l ?c ?k; (case a => k_is); (case l => k_is); (case c => k_is); (case k => k_is))
    (case h_D_settled => refine' AIx.DF.mk' KX G ?a ?l ?c ?k; (case a => k_is); (case l => k_is); (case c => k_is); (case k => k_is))
    (case h_D_settled_loads => refine' AIx.DF.mk' KX G ?a ?l ?c ?k; (case a => k_is); (case l => k_is); (case c => k_is); (case k => k_is))
    (case h_D_total_steps => refine' AIx.DF.mk' KX G ?a ?l ?c ?k; (case a => k_is); (case l => k_is); (case c => k_is); (case k => k_is))
    (case h_D_vacated => refine' AIx.DF.mk' KX G ?a ?l ?c ?k; (case a => k_is); (case l => k_is); (case c => k_is); (case k => k_is))
    (case h_D_check_throw => refine' AIx.DF.mk' KX G ?a ?l ?c ?k; (case a => k_is); (case l => k_is); (case c => k_is); (case k => k_is))
    (case h_D_choose => refine' AIx.DF.mk' KX G ?a ?l ?c ?k; (case a => k_is); (case l => k_is); (case c => k_is); (case k => k_is))
    (case h_D_power_of => refine' AIx.DF.mk' KX G ?a ?l ?c ?k; (case a => k_is); (case l => k_is); (case c => k_is); (case k => k_is))
    (case h_D_ways_more => refine' AIx.DF.mk' KX G ?a ?l ?c ?k; (case a => k_is); (case l => k_is); (case c => k_is); (case k => k_is))
    (case h_D_ways_with => refine' AIx.DF.mk' KX G ?a ?l ?c ?k; (case a => k_is); (case l => k_is); (case c => k_is); (case k => k_is))
    (case h_D_most_chance => refine' AIx.DF.mk' KX G ?a ?l ?c ?k; (case a => k_is); (case l => k_is); (case c => k_is); (case k => k_is))
    (case h_D_expected_most => refine' AIx.DF.mk' KX G ?a ?l ?c ?k; (case a => k_is); (case l => k_is); (case c => k_is); (case k => k_is))
    (case h_D_used_ways => refine' AIx.DF.mk' KX G ?a ?l ?c ?k; (case a => k_is); (case l => k_is); (case c => k_is); (case k => k_is))
    (case h_D_used_chances => refine' AIx.DF.mk' KX G ?a ?l ?c ?k; (case a => k_is); (case l => k_is); (case c => k_is); (case k => k_is))
    (case h_D_apart_chance => refine' AIx.DF.mk' KX G ?a ?l ?c ?k; (case a => k_is); (case l => k_is); (case c => k_is); (case k => k_is))
    (case h_D_check_share => refine' AIx.DF.mk' KX G ?a ?l ?c ?k; (case a => k_is); (case l => k_is); (case c => k_is); (case k => k_is))
    (case h_D_is_before => refine' AIx.DF.mk' KX G ?a ?l ?c ?k; (case a => k_is); (case l => k_is); (case c => k_is); (case k => k_is))
    (case h_D_next_server => refine' AIx.DF.mk' KX G ?a ?l ?c ?k; (case a => k_is); (case l => k_is); (case c => k_is); (case k => k_is))
    (case h_D_servers_in_turn => refine' AIx.DF.mk' KX G ?a ?l ?c ?k; (case a => k_is); (case l => k_is); (case c => k_is); (case k => k_is))
    (case h_D_share_out => refine' AIx.DF.mk' KX G ?a ?l ?c ?k; (case a => k_is); (case l => k_is); (case c => k_is); (case k => k_is))
    (case h_D_in_turn => refine' AIx.DF.mk' KX G ?a ?l ?c ?k; (case a => k_is); (case l => k_is); (case c => k_is); (case k => k_is))
    (case h_D_least_ratio => refine' AIx.DF.mk' KX G ?a ?l ?c ?k; (case a => k_is); (case l => k_is); (case c => k_is); (case k => k_is))
    (case h_D_count_shares => refine' AIx.DF.mk' KX G ?a ?l ?c ?k; (case a => k_is); (case l => k_is); (case c => k_is); (case k => k_is))
    (case h_D__law_is_number => refine' AIx.DF.mk' KX G ?a ?l ?c ?k; (case a => k_is); (case l => k_is); (case c => k_is); (case k => k_is))
    (case h_D__law_first => refine' AIx.DF.mk' KX G ?a ?l ?c ?k; (case a => k_is); (case l => k_is); (case c => k_is); (case k => k_is))
    (case h_D__law_no => refine' AIx.DF.mk' KX G ?a ?l ?c ?k; (case a => k_is); (case l => k_is); (case c => k_is); (case k => k_is))
    (case h_D__law_is_tuple => refine' AIx.DF.mk' KX G ?a ?l ?c ?k; (case a => k_is); (case l => k_is); (case c => k_is); (case k => k_is))
    (case h_D__law_number => refine' AIx.DF.mk' KX G ?a ?l ?c ?k; (case a => k_is); (case l => k_is); (case c => k_is); (case k => k_is))
    (case h_D__law_take => refine' AIx.DF.mk' KX G ?a ?l ?c ?k; (case a => k_is); (case l => k_is); (case c => k_is); (case k => k_is))
    (case h_D__law_pick => refine' AIx.DF.mk' KX G ?a ?l ?c ?k; (case a => k_is); (case l => k_is); (case c => k_is); (case k => k_is))
    (case h_D_Settled_init => refine' AIx.DM.mkI ?i ?n ?l ?c ?k ?m ?kc; (case i => k_is); (case n => k_is); (case l => k_is); (case c => k_is); (case k => k_is); (case m => k_is); (case kc => k_is))
    (case h_D_Settled_eq => refine' AIx.DM.mkM ?i ?n ?l ?c ?k ⟨?p1, ?p2, ?p3, ?p4⟩; (case i => k_is); (case n => k_is); (case l => k_is); (case c => k_is); (case k => k_is); (case p1 => k_is); (case p2 => k_is); (case p3 => k_is); (case p4 => k_is))
    (case h_D_Settled_shows => refine' AIx.DM.mkM ?i ?n ?l ?c ?k ⟨?p1, ?p2, ?p3, ?p4⟩; (case i => k_is); (case n => k_is); (case l => k_is); (case c => k_is); (case k => k_is); (case p1 => k_is); (case p2 => k_is); (case p3 => k_is); (case p4 => k_is))
    (case h_D_Shares_init => refine' AIx.DM.mkI ?i ?n ?l ?c ?k ?m ?kc; (case i => k_is); (case n => k_is); (case l => k_is); (case c => k_is); (case k => k_is); (case m => k_is); (case kc => k_is))
    (case h_D_Shares_eq => refine' AIx.DM.mkM ?i ?n ?l ?c ?k ⟨?p1, ?p2, ?p3, ?p4⟩; (case i => k_is); (case n => k_is); (case l => k_is); (case c => k_is); (case k => k_is); (case p1 => k_is); (case p2 => k_is); (case p3 => k_is); (case p4 => k_is))
    (case h_D_Shares_shows => refine' AIx.DM.mkM ?i ?n ?l ?c ?k ⟨?p1, ?p2, ?p3, ?p4⟩; (case i => k_is); (case n => k_is); (case l => k_is); (case c => k_is); (case k => k_is); (case p1 => k_is); (case p2 => k_is); (case p3 => k_is); (case p4 => k_is))
    (case h_aF => k_is)
    (case h_l5 => k_is)
    (case h_c5 => k_is)
    (case h_k5 => k_is)
