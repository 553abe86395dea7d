import PyProof.Rows.All
import Wide.All
import OpenK.AllK
import Wide.FinOn
import HandS.ForMost
import HandS.Exc
import HandS.TryOnly
import HandS.ExcOwn
import HandS.WordsExc
import HandS.Wide
import HandS.IsInst
import HandS.TupAny
import HandS.Conv
import HandS.More
import HandS.Lambda
import HandS.Dict
import HandS.SetKeys
import KE.KDictKeyed
import HandS.EndOwn
import HandS.ExcIs
import HandS.SetFor
import KE.KNestM
import HandS.TupMul
import HandS.ExcValue
import HandS.HeadHook3
import PySem.Challenge.RW_drawchain_k01_chains_refused
set_option Elab.async false
set_option linter.all false
section
set_option maxRecDepth 100000
set_option maxHeartbeats 2000000
namespace LamV
open PySem PySem.Spec PyProof.Rows L2
/-- an object that stands as it is -/
def Fix (o : Obj) : HO := .frz o (.own 0)
/-- a lambda, its closure and its code known -/
def LamO (q : Str) (pr : Arguments) (bd : Expr) (sc : Scope) (cl : List (Str × Addr)) (cd : Addr) (pm ct : Value) : HO := Fix (PySem.W.kla_obj "<lambda>" q pr bd sc cl pm cd ct)
end LamV
namespace DL
open PySem PySem.Spec PyProof.Rows L2

inductive D where
  | non | bl (b : Bool) | int (i : Int) | str (x : Str) | ty (n : String)
  | tup (ds : List D) | lst (ds : List D) | frz (ds : List D) | ref (a : Addr)

/-- an owned object -/
inductive Ob where
  | lst (ds : List D)
  | ins (C : Addr) (fs : List (Str × D))
  | dk (kvs : List (Key × D))
  | dt (kvs : List (List Key × D))
  /-- a table of a code's lambdas -/
  | tbl (q : Str)
  /-- a lambda, a cell that is known to it alone -/
  | lam (q : Str) (pr : Arguments) (bd : Expr) (sc : Scope) (cl : List (Str × Addr))
  | cel (d : D)
abbrev Wd := Addr → Option Ob

mutual
inductive Is (W : Wd) (H : Hp) : D → V → Prop
  | non : Is W H .non .non
  | bl (b : Bool) : Is W H (.bl b) (.bl b)
  | int (i : Int) : Is W H (.int i) (.int i)
  | str (x : Str) : Is W H (.str x) (.str x)
  | ty (n : String) : Is W H (.ty n) (.ty n)
  | ref (a : Addr) : Is W H (.ref a) (.ref a)
  | tup {a : Addr} {vs : List V} {ds : List D} : H a = some (.tup vs) → W a = none → IsL W H ds vs → Is W H (.tup ds) (.ref a)
  | lst {a : Addr} {vs : List V} {ds : List D} : H a = some (.lst vs) → W a = none → IsL W H ds vs → Is W H (.lst ds) (.ref a)
  | frz {a : Addr} {vs : List V} {ds : List D} : Rd H a (.lst vs) → W a = none → IsL W H ds vs → Is W H (.frz ds) (.ref a)
inductive IsL (W : Wd) (H : Hp) : List D → List V → Prop
  | nil : IsL W H [] []
  | cons {d : D} {v : V} {ds : List D} {vs : List V} : Is W H d v → IsL W H ds vs → IsL W H (d :: ds) (v :: vs)
end

/-- no table -/
def Nt (o : HO) : Prop := ∀ ps, o ≠ .tbl ps
theorem nt_tup {vs : List V} : Nt (.tup vs) := fun _ z => by cases z
theorem nt_lst {vs : List V} : Nt (.lst vs) := fun _ z => by cases z
theorem nt_frz {o : Obj} {h : HO} : Nt (.frz o h) := fun _ z => by cases z
/-- what was known and is not owned stands as it was, and stays unowned -/
structure Step (W : Wd) (H : Hp) (W' : Wd) (H' : Hp) : Prop where
  ext : ∀ b o, H b = some o → Nt o → W b = none → H' b = some o
  dom : ∀ b o, H b = some o → Nt o → W b = none → W' b = none
theorem Step.refl (W : Wd) (H : Hp) : Step W H W H := ⟨fun _ _ h _ _ => h, fun _ _ _ _ h => h⟩
theorem Step.trans {W W1 W2 : Wd} {H H1 H2 : Hp} (a : Step W H W1 H1) (b : Step W1 H1 W2 H2) : Step W H W2 H2 :=
  ⟨fun x o h n w => b.ext x o (a.ext x o h n w) n (a.dom x o h n w), fun x o h n w => b.dom x o (a.ext x o h n w) n (a.dom x o h n w)⟩

mutual
theorem Is.mono {W W' : Wd} {H H' : Hp} (s : Step W H W' H') : ∀ {d : D} {v : V}, Is W H d v → Is W' H' d v
  | _, _, .non => .non
  | _, _, .bl b => .bl b
  | _, _, .int i => .int i
  | _, _, .str x => .str x
  | _, _, .ty n => .ty n
  | _, _, .ref a => .ref a
  | _, _, .tup h w l => .tup (s.ext _ _ h nt_tup w) (s.dom _ _ h nt_tup w) (IsL.mono s l)
  | _, _, .lst h w l => .lst (s.ext _ _ h nt_lst w) (s.dom _ _ h nt_lst w) (IsL.mono s l)
  | _, _, .frz h w l => .frz (h.elim (fun h => .inl (s.ext _ _ h nt_lst w)) fun ⟨o, h⟩ => .inr ⟨o, s.ext _ _ h nt_frz w⟩) (h.elim (fun h => s.dom _ _ h nt_lst w) fun ⟨o, h⟩ => s.dom _ _ h nt_frz w) (IsL.mono s l)
theorem IsL.mono {W W' : Wd} {H H' : Hp} (s : Step W H W' H') : ∀ {ds : List D} {vs : List V}, IsL W H ds vs → IsL W' H' ds vs
  | _, _, .nil => .nil
  | _, _, .cons h t => .cons (Is.mono s h) (IsL.mono s t)
end
theorem IsL.length {W : Wd} {H : Hp} : ∀ {ds : List D} {vs : List V}, IsL W H ds vs → ds.length = vs.length
  | _, _, .nil => rfl
  | _, _, .cons _ t => by rw [List.length_cons, List.length_cons, IsL.length t]
theorem IsL.get {W : Wd} {H : Hp} : ∀ {ds : List D} {vs : List V} {i : Nat} {d : D}, IsL W H ds vs → ds[i]? = some d → ∃ v, vs[i]? = some v ∧ Is W H d v
  | _, _, _, _, .nil, e => by simp at e
  | _, _, 0, _, .cons h _, e => by simp at e; subst e; exact ⟨_, rfl, h⟩
  | _, _, i + 1, d, .cons _ t, e => by
    obtain ⟨v, h1, h2⟩ := IsL.get (i := i) (d := d) t (by simpa using e)
    exact ⟨v, by simpa using h1, h2⟩
theorem IsL.getV {W : Wd} {H : Hp} : ∀ {ds : List D} {vs : List V} {i : Nat} {v : V}, IsL W H ds vs → vs[i]? = some v → ∃ d, ds[i]? = some d ∧ Is W H d v
  | _, _, _, _, .nil, e => by simp at e
  | _, _, 0, _, .cons h _, e => by simp at e; subst e; exact ⟨_, rfl, h⟩
  | _, _, i + 1, v, .cons _ t, e => by
    obtain ⟨d, h1, h2⟩ := IsL.getV (i := i) (v := v) t (by simpa using e)
    exact ⟨d, by simpa using h1, h2⟩
theorem IsL.append {W : Wd} {H : Hp} : ∀ {ds es : List D} {vs us : List V}, IsL W H ds vs → IsL W H es us → IsL W H (ds ++ es) (vs ++ us)
  | _, _, _, _, .nil, s => s
  | _, _, _, _, .cons h t, s => .cons h (IsL.append t s)
theorem IsL.take {W : Wd} {H : Hp} : ∀ {ds : List D} {vs : List V} (n : Nat), IsL W H ds vs → IsL W H (ds.take n) (vs.take n)
  | _, _, 0, _ => .nil
  | _, _, _ + 1, .nil => .nil
  | _, _, n + 1, .cons r t => .cons r (IsL.take n t)
theorem IsL.drop {W : Wd} {H : Hp} : ∀ {ds : List D} {vs : List V} (n : Nat), IsL W H ds vs → IsL W H (ds.drop n) (vs.drop n)
  | _, _, 0, r => r
  | _, _, _ + 1, .nil => .nil
  | _, _, n + 1, .cons _ t => IsL.drop n t
theorem IsL.set {W : Wd} {H : Hp} {d : D} {v : V} (r : Is W H d v) : ∀ {ds : List D} {vs : List V} (i : Nat), IsL W H ds vs → IsL W H (ds.set i d) (vs.set i v)
  | _, _, _, .nil => .nil
  | _, _, 0, .cons _ t => .cons r t
  | _, _, i + 1, .cons q t => .cons q (IsL.set r i t)
theorem IsL.rep {W : Wd} {H : Hp} {ds : List D} {vs : List V} (h : IsL W H ds vs) : ∀ n : Nat, IsL W H (List.replicate n ds).flatten (List.replicate n vs).flatten
  | 0 => .nil
  | n + 1 => by
    rw [List.replicate_succ, List.flatten_cons, List.replicate_succ, List.flatten_cons]
    exact h.append (IsL.rep h n)
theorem IsL.dropLast {W : Wd} {H : Hp} {ds : List D} {vs : List V} (h : IsL W H ds vs) : IsL W H ds.dropLast vs.dropLast := by
  rw [List.dropLast_eq_take, List.dropLast_eq_take, h.length]
  exact h.take _

def FsIs (W : Wd) (H : Hp) {κ : Type} (fs : List (κ × D)) (vs : List (κ × V)) : Prop := Paired (fun (p : κ × D) (q : κ × V) => p.1 = q.1 ∧ Is W H p.2 q.2) fs vs
def ObAt (W : Wd) (H : Hp) (a : Addr) : Ob → Prop
  | .lst ds => ∃ vs, H a = some (.lst vs) ∧ IsL W H ds vs
  | .ins C fs => ∃ dx vs, H a = some (.ins C dx vs) ∧ FsIs W H fs vs
  | .dk kvs => ∃ vs, H a = some (.dK vs) ∧ FsIs W H kvs vs
  | .dt kvs => ∃ vs, H a = some (.dT vs) ∧ FsIs W H kvs vs
  | .tbl q => LamX.TabS H a q
  | .lam q pr bd sc cl => ∃ cd pm ct, H a = some (LamV.LamO q pr bd sc cl cd pm ct) ∧ H cd = some (LamX.CodeO cd q)
  | .cel d => ∃ o v u, H a = some (LamV.Fix o) ∧ o.data = .cell (some u) ∧ RelV v u ∧ Is W H d v
def Own (W : Wd) (H : Hp) : Prop := ∀ a ob, W a = some ob → ObAt W H a ob
theorem FsIs.mono {κ : Type} {W W' : Wd} {H H' : Hp} (s : Step W H W' H') : ∀ {fs : List (κ × D)} {vs : List (κ × V)}, FsIs W H fs vs → FsIs W' H' fs vs
  | _, _, .nil => .nil
  | _, _, .cons h t => .cons ⟨h.1, h.2.mono s⟩ (FsIs.mono s t)
theorem ObAt.some {W : Wd} {H : Hp} {a : Addr} {ob : Ob} (h : ObAt W H a ob) : H a ≠ none := by
  cases ob with
  | lst ds => obtain ⟨_, h, _⟩ := h; rw [h]; simp
  | ins C fs => obtain ⟨_, _, h, _⟩ := h; rw [h]; simp
  | dk kvs => obtain ⟨_, h, _⟩ := h; rw [h]; simp
  | dt kvs => obtain ⟨_, h, _⟩ := h; rw [h]; simp
  | tbl q => obtain ⟨_, h, _⟩ := h; rw [h]; simp
  | lam _ _ _ _ _ => obtain ⟨_, _, _, h, _⟩ := h; rw [h]; simp
  | cel _ => obtain ⟨_, _, _, h, _⟩ := h; rw [h]; simp
theorem nt_code {c : Addr} {q : Str} : Nt (LamX.CodeO c q) := LamX.codeO_ne
/-- a code object is owned by none -/
theorem Own.code {W : Wd} {H : Hp} (o : Own W H) {c d : Addr} {q : Str} (h : H c = some (LamX.CodeO d q)) : W c = none := by
  cases e : W c with
  | none => rfl
  | some ob =>
    have k := o c ob e
    unfold LamX.CodeO at h
    cases ob with
    | lst ds => obtain ⟨_, k, _⟩ := k; rw [h] at k; cases k
    | ins C fs => obtain ⟨_, _, k, _⟩ := k; rw [h] at k; cases k
    | dk kvs => obtain ⟨_, k, _⟩ := k; rw [h] at k; cases k
    | dt kvs => obtain ⟨_, k, _⟩ := k; rw [h] at k; cases k
    | tbl q => obtain ⟨_, k, _⟩ := k; rw [h] at k; cases k
    | lam _ _ _ _ _ => obtain ⟨_, _, _, k, _⟩ := k; rw [h] at k; cases k
    | cel _ => obtain ⟨_, _, _, k, _⟩ := k; rw [h] at k; cases k
theorem Own.lam {W W' : Wd} {H H' : Hp} (o : Own W H) (s : Step W H W' H') {a : Addr} {q : Str} {pr : Arguments} {bd : Expr} {sc : Scope} {cl : List (Str × Addr)} (h : ObAt W H a (.lam q pr bd sc cl)) (k : ∀ u, H a = some u → H' a = some u) : ObAt W' H' a (.lam q pr bd sc cl) := by
  obtain ⟨cd, pm, ct, h1, h2⟩ := h
  exact ⟨cd, pm, ct, k _ h1, s.ext _ _ h2 nt_code (o.code h2)⟩
theorem Own.cel {W W' : Wd} {H H' : Hp} (s : Step W H W' H') {a : Addr} {d : D} (h : ObAt W H a (.cel d)) (k : ∀ u, H a = some u → H' a = some u) : ObAt W' H' a (.cel d) := by
  obtain ⟨o, v, u, h1, h2, h3, h4⟩ := h
  exact ⟨o, v, u, k _ h1, h2, h3, h4.mono s⟩
theorem Own.tab {W W' : Wd} {H H' : Hp} (o : Own W H) (s : Step W H W' H') {a : Addr} {q : Str} (h : LamX.TabS H a q) (k : ∀ u, H a = some u → H' a = some u) : LamX.TabS H' a q := by
  obtain ⟨ps, h1, h2, h3⟩ := h
  refine ⟨ps, k _ h1, h2, fun pos cv e => ?_⟩
  obtain ⟨c, e1, e2⟩ := h3 pos cv e
  exact ⟨c, e1, s.ext _ _ e2 nt_code (o.code e2)⟩
theorem Own.new {W : Wd} {H : Hp} (o : Own W H) {p : Addr} (h : H p = none) : W p = none := by
  cases e : W p with
  | none => rfl
  | some ob => exact absurd h (o p ob e).some

def put (W : Wd) (a : Addr) (ob : Ob) : Wd := fun b => if b = a then some ob else W b
def del (W : Wd) (a : Addr) : Wd := fun b => if b = a then none else W b
theorem put_same {W : Wd} {a : Addr} {ob : Ob} : put W a ob a = some ob := by unfold put; rw [if_pos rfl]
theorem put_ne {W : Wd} {a b : Addr} {ob : Ob} (h : b ≠ a) : put W a ob b = W b := by unfold put; rw [if_neg h]
theorem put_put {W : Wd} {a : Addr} {x y : Ob} : put (put W a x) a y = put W a y := by
  funext b; unfold put; split <;> rfl
theorem put_self {W : Wd} {a : Addr} {x : Ob} (h : W a = some x) : put W a x = W := by
  funext b; unfold put; split
  · rename_i e; rw [e, h]
  · rfl
theorem put_comm {W : Wd} {a b : Addr} {x y : Ob} (h : a ≠ b) : put (put W a x) b y = put (put W b y) a x := by
  funext c; unfold put
  by_cases h1 : c = b
  · subst h1; rw [if_pos rfl, if_neg (Ne.symm h), if_pos rfl]
  · rw [if_neg h1]
    by_cases h2 : c = a
    · rw [if_pos h2, if_pos h2]
    · rw [if_neg h2, if_neg h2, if_neg h1]
theorem del_put {W : Wd} {a : Addr} {x : Ob} (h : W a = none) : del (put W a x) a = W := by
  funext b; unfold del put; split
  · rename_i e; rw [e, h]
  · rfl
theorem del_same {W : Wd} {a : Addr} : del W a a = none := by unfold del; rw [if_pos rfl]
theorem del_ne {W : Wd} {a b : Addr} (h : b ≠ a) : del W a b = W b := by unfold del; rw [if_neg h]

/-- the heap is laid anew at a fresh place -/
theorem Step.new {W : Wd} {H : Hp} {p : Addr} {o : HO} (h : H p = none) : Step W H W (upd H p o) :=
  ⟨fun b u e _ _ => by rw [upd_ne (ne_of_none e h)]; exact e, fun _ _ _ _ w => w⟩
theorem Own.step {W : Wd} {H H' : Hp} (o : Own W H) (s : Step W H W H') (k : ∀ a u, H a = some u → W a ≠ none → H' a = some u) : Own W H' := fun a ob e => by
  have w : W a ≠ none := by rw [e]; simp
  cases ob with
  | lst ds => obtain ⟨vs, h, l⟩ := o a _ e; exact ⟨vs, k a _ h w, l.mono s⟩
  | ins C fs => obtain ⟨dx, vs, h, l⟩ := o a _ e; exact ⟨dx, vs, k a _ h w, l.mono s⟩
  | dk kvs => obtain ⟨vs, h, l⟩ := o a _ e; exact ⟨vs, k a _ h w, l.mono s⟩
  | dt kvs => obtain ⟨vs, h, l⟩ := o a _ e; exact ⟨vs, k a _ h w, l.mono s⟩
  | tbl q => exact o.tab s (o a _ e) fun u h => k a u h w
  | lam _ _ _ _ _ => exact o.lam s (o a _ e) fun u h => k a u h w
  | cel _ => exact Own.cel s (o a _ e) fun u h => k a u h w
theorem Own.laid {W : Wd} {H : Hp} (o : Own W H) {p : Addr} {u : HO} (h : H p = none) : Own W (upd H p u) :=
  o.step (Step.new h) fun a x e _ => by rw [upd_ne (ne_of_none e h)]; exact e
/-- an owned object is changed, or a new one is owned -/
theorem Step.put {W : Wd} {H : Hp} {p : Addr} {o : HO} {ob : Ob} (h : H p = none ∨ W p ≠ none) : Step W H (put W p ob) (upd H p o) := by
  have hn : ∀ b u, H b = some u → W b = none → b ≠ p := fun b u e w z => by
    subst z
    rcases h with h | h
    · rw [h] at e; cases e
    · exact h w
  exact ⟨fun b u e _ w => by rw [upd_ne (hn b u e w)]; exact e, fun b u e _ w => by rw [put_ne (hn b u e w)]; exact w⟩
theorem Own.put {W : Wd} {H : Hp} (o : Own W H) {p : Addr} {u : HO} {ob : Ob} (h : H p = none ∨ W p ≠ none) (new : ObAt (put W p ob) (upd H p u) p ob) : Own (DL.put W p ob) (upd H p u) := fun a x e => by
  have s : Step W H (DL.put W p ob) (upd H p u) := Step.put h
  by_cases z : a = p
  · subst z; rw [put_same] at e; cases e; exact new
  · rw [put_ne z] at e
    cases x with
    | lst ds => obtain ⟨vs, h, l⟩ := o a _ e; exact ⟨vs, by rw [upd_ne z]; exact h, l.mono s⟩
    | ins C fs => obtain ⟨dx, vs, h, l⟩ := o a _ e; exact ⟨dx, vs, by rw [upd_ne z]; exact h, l.mono s⟩
    | dk kvs => obtain ⟨vs, h, l⟩ := o a _ e; exact ⟨vs, by rw [upd_ne z]; exact h, l.mono s⟩
    | dt kvs => obtain ⟨vs, h, l⟩ := o a _ e; exact ⟨vs, by rw [upd_ne z]; exact h, l.mono s⟩
    | tbl q => exact o.tab s (o a _ e) fun u h => by rw [upd_ne z]; exact h
    | lam _ _ _ _ _ => exact o.lam s (o a _ e) fun u h => by rw [upd_ne z]; exact h
    | cel _ => exact Own.cel s (o a _ e) fun u h => by rw [upd_ne z]; exact h
/-- an owned object is let go: from now on it only stands there -/
theorem Step.del {W : Wd} {H : Hp} (p : Addr) : Step W H (del W p) H := ⟨fun _ _ e _ _ => e, fun b _ _ _ w => by unfold DL.del; split <;> first | rfl | exact w⟩
theorem Own.del {W : Wd} {H : Hp} (o : Own W H) (p : Addr) : Own (DL.del W p) H := fun a x e => by
  have s : Step W H (DL.del W p) H := Step.del p
  have e' : W a = some x := by
    unfold DL.del at e
    split at e
    · cases e
    · exact e
  cases x with
  | lst ds => obtain ⟨vs, h, l⟩ := o a _ e'; exact ⟨vs, h, l.mono s⟩
  | ins C fs => obtain ⟨dx, vs, h, l⟩ := o a _ e'; exact ⟨dx, vs, h, l.mono s⟩
  | dk kvs => obtain ⟨vs, h, l⟩ := o a _ e'; exact ⟨vs, h, l.mono s⟩
  | dt kvs => obtain ⟨vs, h, l⟩ := o a _ e'; exact ⟨vs, h, l.mono s⟩
  | tbl q => exact o a _ e'
  | lam _ _ _ _ _ => exact o.lam s (o a _ e') fun u h => h
  | cel _ => exact Own.cel s (o a _ e') fun u h => h
end DL
end
section
set_option maxRecDepth 100000
set_option maxHeartbeats 2000000
namespace DL
open PySem PySem.Spec PyProof.Rows L2

abbrev Dt := List (Option D)
abbrev GE := Dt → Wd → (D → Wd → Prop) → Prop
abbrev GT := Dt → Wd → (Bool → Wd → Prop) → Prop
abbrev GA := Dt → Wd → (List D → Wd → Prop) → Prop
structure GEnds where
  nx : Dt → Wd → Prop
  rt : D → Wd → Prop
  bk : Dt → Wd → Prop := fun _ _ => False
  ct : Dt → Wd → Prop := fun _ _ => False
abbrev GS := GEnds → Dt → Wd → Prop

structure At (W0 : Wd) (H0 : Hp) (δ : Dt) (W : Wd) (σ : L2.St) (H : Hp) : Prop where
  own : Own W H
  len : δ.length = σ.length
  env : ∀ (i : Nat) (d : D), δ[i]? = some (some d) → ∃ v, σ[i]? = some (some v) ∧ Is W H d v
  st : Step W0 H0 W H
def Fin (W : Wd) (H : Hp) (Q : VK) (Qd : D → Wd → Prop) : Prop := ∀ d W' v H', Qd d W' → Step W H W' H' → Own W' H' → Is W' H' d v → Q v H'
def FinT (W : Wd) (H : Hp) (Q : Bool → Hp → Prop) (Qd : Bool → Wd → Prop) : Prop := ∀ b W' H', Qd b W' → Step W H W' H' → Own W' H' → Q b H'
def FinA (W : Wd) (H : Hp) (Q : List V → Hp → Prop) (Qd : List D → Wd → Prop) : Prop := ∀ ds W' vs H', Qd ds W' → Step W H W' H' → Own W' H' → IsL W' H' ds vs → Q vs H'
structure FinS (W0 : Wd) (H0 : Hp) (W : Wd) (H : Hp) (D : Ends) (G : GEnds) : Prop where
  nx : ∀ δ W' σ H', G.nx δ W' → At W0 H0 δ W' σ H' → Step W H W' H' → D.nx σ H'
  rt : ∀ d W' v H', G.rt d W' → Step W H W' H' → Own W' H' → Is W' H' d v → D.rt v H'
  bk : ∀ δ W' σ H', G.bk δ W' → At W0 H0 δ W' σ H' → Step W H W' H' → D.bk σ H'
  ct : ∀ δ W' σ H', G.ct δ W' → At W0 H0 δ W' σ H' → Step W H W' H' → D.ct σ H'
def lift (W0 : Wd) (H0 : Hp) (g : GE) : TE := fun σ H Q => ∃ δ W Qd, At W0 H0 δ W σ H ∧ g δ W Qd ∧ Fin W H Q Qd
def liftT (W0 : Wd) (H0 : Hp) (g : GT) : TT := fun σ H Q => ∃ δ W Qd, At W0 H0 δ W σ H ∧ g δ W Qd ∧ FinT W H Q Qd
def liftA (W0 : Wd) (H0 : Hp) (g : GA) : TA := fun σ H Q => ∃ δ W Qd, At W0 H0 δ W σ H ∧ g δ W Qd ∧ FinA W H Q Qd
def liftS (W0 : Wd) (H0 : Hp) (g : GS) : TS := fun D σ H => ∃ δ W G, At W0 H0 δ W σ H ∧ g G δ W ∧ FinS W0 H0 W H D G
/-- an expression has a reading over data -/
def DE (W0 : Wd) (H0 : Hp) (X : Cx) (e : Expr) (g : GE) : Prop := PE X e (lift W0 H0 g)
def DTs (W0 : Wd) (H0 : Hp) (X : Cx) (e : Expr) (g : GT) : Prop := PT X e (liftT W0 H0 g)
def DA (W0 : Wd) (H0 : Hp) (X : Cx) (es : List Expr) (g : GA) : Prop := PA X es (liftA W0 H0 g)
def DS (W0 : Wd) (H0 : Hp) (X : Cx) (st : Stmt) (g : GS) : Prop := PS X st (liftS W0 H0 g)
def DSs (W0 : Wd) (H0 : Hp) (X : Cx) (st : List Stmt) (g : GS) : Prop := PSs X st (liftS W0 H0 g)

section
variable {W0 : Wd} {H0 : Hp} {δ : Dt} {W W1 : Wd} {σ : L2.St} {H H1 : Hp}
theorem At.go (a : At W0 H0 δ W σ H) (s : Step W H W1 H1) (o : Own W1 H1) : At W0 H0 δ W1 σ H1 :=
  ⟨o, a.len, fun i d e => let ⟨v, e1, i1⟩ := a.env i d e; ⟨v, e1, i1.mono s⟩, a.st.trans s⟩
theorem At.set (a : At W0 H0 δ W σ H) {d : D} {v : V} (i : Nat) (h : Is W H d v) : At W0 H0 (δ.set i (some d)) W (σ.set i (some v)) H := by
  refine ⟨a.own, by rw [List.length_set, List.length_set, a.len], fun j x e => ?_, a.st⟩
  by_cases z : i = j
  · subst z
    have hl : i < δ.length := by
      have := (List.getElem?_eq_some_iff.mp e).1
      rwa [List.length_set] at this
    rw [List.getElem?_set_self hl] at e
    cases e
    exact ⟨v, List.getElem?_set_self (by rw [← a.len]; exact hl), h⟩
  · rw [List.getElem?_set_ne z] at e ⊢
    exact a.env j x e
theorem Fin.go {Q : VK} {Qd : D → Wd → Prop} (f : Fin W H Q Qd) (s : Step W H W1 H1) : Fin W1 H1 Q Qd := fun d W' v H' q t o i => f d W' v H' q (s.trans t) o i
theorem FinT.go {Q : Bool → Hp → Prop} {Qd : Bool → Wd → Prop} (f : FinT W H Q Qd) (s : Step W H W1 H1) : FinT W1 H1 Q Qd := fun d W' H' q t o => f d W' H' q (s.trans t) o
theorem FinS.go {D : Ends} {G : GEnds} (f : FinS W0 H0 W H D G) (s : Step W H W1 H1) : FinS W0 H0 W1 H1 D G :=
  ⟨fun δ W' σ H' q a t => f.nx δ W' σ H' q a (s.trans t), fun d W' v H' q t o i => f.rt d W' v H' q (s.trans t) o i, fun δ W' σ H' q a t => f.bk δ W' σ H' q a (s.trans t), fun δ W' σ H' q a t => f.ct δ W' σ H' q a (s.trans t)⟩
theorem FinA.go {Q : List V → Hp → Prop} {Qd : List D → Wd → Prop} (f : FinA W H Q Qd) (s : Step W H W1 H1) : FinA W1 H1 Q Qd := fun d W' v H' q t o i => f d W' v H' q (s.trans t) o i
end

def listOf (W : Wd) : D → Option (List D)
  | .lst ds => some ds
  | .ref p => match W p with
    | some (.lst ds) => some ds
    | _ => none
  | _ => none
def seqOf (W : Wd) : D → Option (List D)
  | .lst ds => some ds
  | .tup ds => some ds
  | .frz ds => some ds
  | .ref p => match W p with
    | some (.lst ds) => some ds
    | _ => none
  | _ => none
section
variable {W : Wd} {H : Hp} {d : D} {v : V} {ds : List D}
theorem listOf_at (o : Own W H) (i : Is W H d v) (h : listOf W d = some ds) : ∃ a vs, v = .ref a ∧ H a = some (.lst vs) ∧ IsL W H ds vs := by
  cases i with
  | lst h1 h2 h3 => cases h; exact ⟨_, _, rfl, h1, h3⟩
  | ref a =>
    have h : (match W a with | some (.lst ds) => some ds | _ => none) = some ds := h
    split at h
    · rename_i e
      cases h
      obtain ⟨vs, h1, h2⟩ := o _ _ e
      exact ⟨_, vs, rfl, h1, h2⟩
    · cases h
  | _ => cases h
theorem seqOf_at {K : PySem.W.Frag} (o : Own W H) (i : Is W H d v) (h : seqOf W d = some ds) : ∃ a vs, v = .ref a ∧ (SqL K H a vs ∨ SqT K H a vs) ∧ IsL W H ds vs := by
  cases i with
  | lst h1 h2 h3 => cases h; exact ⟨_, _, rfl, .inl (.inl (.inl h1)), h3⟩
  | tup h1 h2 h3 => cases h; exact ⟨_, _, rfl, .inr (.inl (.inl h1)), h3⟩
  | frz h1 h2 h3 => cases h; exact ⟨_, _, rfl, .inl (.inl h1), h3⟩
  | ref a =>
    have h : (match W a with | some (.lst ds) => some ds | _ => none) = some ds := h
    split at h
    · rename_i e
      cases h
      obtain ⟨vs, h1, h2⟩ := o _ _ e
      exact ⟨_, vs, rfl, .inl (.inl (.inl h1)), h2⟩
    · cases h
  | _ => cases h
end
theorem Is.of_upd_tup {W : Wd} {H : Hp} (o : Own W H) {p : Addr} (hp : H p = none) {ds : List D} {vs : List V} (l : IsL W H ds vs) : Is W (upd H p (.tup vs)) (.tup ds) (.ref p) :=
  .tup upd_same (o.new hp) (l.mono (Step.new hp))
theorem Is.of_upd_lst {W : Wd} {H : Hp} (o : Own W H) {p : Addr} (hp : H p = none) {ds : List D} {vs : List V} (l : IsL W H ds vs) : Is W (upd H p (.lst vs)) (.lst ds) (.ref p) :=
  .lst upd_same (o.new hp) (l.mono (Step.new hp))

abbrev GR1 := D → Wd → (D → Wd → Prop) → Prop
abbrev GR2 := D → D → Wd → (D → Wd → Prop) → Prop
abbrev GRN := List D → Wd → (D → Wd → Prop) → Prop
def SimU (r : V → Hp → VK → Prop) (f : GR1) : Prop := ∀ x W H Q v Qd, Own W H → Is W H x v → f x W Qd → Fin W H Q Qd → r v H Q
def SimR (r : R2) (f : GR2) : Prop := ∀ x y W H Q v u Qd, Own W H → Is W H x v → Is W H y u → f x y W Qd → Fin W H Q Qd → r v u H Q
def SimN (r : List V → Hp → VK → Prop) (f : GRN) : Prop := ∀ xs W H Q vs Qd, Own W H → IsL W H xs vs → f xs W Qd → Fin W H Q Qd → r vs H Q
/-- a pure operator: what it gives, what it asks -/
def gP1 (o : Wd → D → Option D) : GR1 := fun x W Q => ∃ z, o W x = some z ∧ Q z W
def gP2 (c : Wd → D → D → Prop) (o : Wd → D → D → Option D) : GR2 := fun x y W Q => c W x y ∧ ∃ z, o W x y = some z ∧ Q z W
def gPN (o : Wd → List D → Option D) : GRN := fun xs W Q => ∃ z, o W xs = some z ∧ Q z W

def gVar (i : Nat) : GE := fun δ W Q => ∃ d, δ[i]? = some (some d) ∧ Q d W
def gC (d : D) : GE := fun _ W Q => Q d W
def gUn (f : GR1) (ga : GE) : GE := fun δ W Q => ga δ W fun x W1 => f x W1 Q
def gOp (f : GR2) (ga gb : GE) : GE := fun δ W Q => ga δ W fun x W1 => gb δ W1 fun y W2 => f x y W2 Q
def gNil : GA := fun _ W Q => Q [] W
def gCons (ga : GE) (gr : GA) : GA := fun δ W Q => ga δ W fun x W1 => gr δ W1 fun xs W2 => Q (x :: xs) W2
def gN (f : GRN) (ga : GA) : GE := fun δ W Q => ga δ W fun xs W1 => f xs W1 Q
def gTup (ga : GA) : GE := fun δ W Q => ga δ W fun xs W1 => xs.length ≤ sizeLine ∧ Q (.tup xs) W1
def gLst (ga : GA) : GE := fun δ W Q => ga δ W fun xs W1 => xs.length ≤ sizeLine ∧ Q (.lst xs) W1
/-- a list that will be changed -/
def gOwn (ga : GA) : GE := fun δ W Q => ga δ W fun xs W1 => xs.length ≤ sizeLine ∧ ∀ p, W1 p = none → Q (.ref p) (put W1 p (.lst xs))
def gB (g : GE) : GT := fun δ W Q => g δ W fun x W1 => ∃ b, x = .bl b ∧ Q b W1
def gAnd (ga gb : GE) : GE := fun δ W Q => ga δ W fun x W1 => ∃ c, x = .bl c ∧ if c = true then gb δ W1 Q else Q (.bl false) W1
def gOr (ga gb : GE) : GE := fun δ W Q => ga δ W fun x W1 => ∃ c, x = .bl c ∧ if c = true then Q (.bl true) W1 else gb δ W1 Q
def gNot (ga : GE) : GE := fun δ W Q => ga δ W fun x W1 => ∃ c, x = .bl c ∧ Q (.bl (!c)) W1
def gIf (gt : GT) (ga gb : GE) : GE := fun δ W Q => gt δ W fun c W1 => if c = true then ga δ W1 Q else gb δ W1 Q
def gChain (f f' : GR2) (ga gb gc : GE) : GE := fun δ W Q => ga δ W fun x W1 => gb δ W1 fun y W2 => f x y W2 fun z W3 => ∃ k, z = .bl k ∧ (if k = true then gc δ W3 fun w W4 => f' y w W4 Q else Q (.bl false) W3)

section
variable {X : Cx} {W0 : Wd} {H0 : Hp} {e a b c : Expr} {es : List Expr} {t : TE} {g ga gb gc : GE} {gs : GA} {pos : Pos}
theorem _root_.L2.PE.to {t' : TE} (h : PE X e t) (k : ∀ σ H Q, t' σ H Q → t σ H Q) : PE X e t' := ⟨fun pins s σ H Q I q => h.run pins s σ H Q I (k σ H Q q)⟩
theorem _root_.L2.PT.to {t t' : TT} (h : PT X e t) (k : ∀ σ H Q, t' σ H Q → t σ H Q) : PT X e t' := ⟨fun pins s σ H Q I q => h.run pins s σ H Q I (k σ H Q q)⟩
theorem _root_.L2.PA.to {t t' : TA} (h : PA X es t) (k : ∀ σ H Q, t' σ H Q → t σ H Q) : PA X es t' := ⟨fun pos pins s σ H Q I q => h.run pos pins s σ H Q I (k σ H Q q)⟩
theorem _root_.L2.PS.to {st : Stmt} {t t' : TS} (h : PS X st t) (k : ∀ D σ H, t' D σ H → t D σ H) : PS X st t' := ⟨fun pins s σ H D I q => h.run pins s σ H D I (k D σ H q)⟩
theorem _root_.L2.PSs.to {st : List Stmt} {t t' : TS} (h : PSs X st t) (k : ∀ D σ H, t' D σ H → t D σ H) : PSs X st t' := ⟨fun pins s σ H D I q => h.run pins s σ H D I (k D σ H q)⟩
/-- a value that is there -/
theorem Fin.here {W : Wd} {H : Hp} {Q : VK} {Qd : D → Wd → Prop} (f : Fin W H Q Qd) (o : Own W H) {d : D} {v : V} (q : Qd d W) (i : Is W H d v) : Q v H := f d W v H q (Step.refl W H) o i
theorem FinT.here {W : Wd} {H : Hp} {Q : Bool → Hp → Prop} {Qd : Bool → Wd → Prop} (f : FinT W H Q Qd) (o : Own W H) {b : Bool} (q : Qd b W) : Q b H := f b W H q (Step.refl W H) o

theorem d_var (i : Nat) {x : Str} {pos : Pos} (hN : X.N[i]? = some x := by rfl) (hv : Vis X.env.scope x := by first | exact Or.inl rfl | exact Or.inr (Or.inl rfl) | exact Or.inr (Or.inr rfl)) (hd : (x == ("__debug__" : Str)) = false := by decide)
    (hcd : (x == ("__classdict__" : Str)) = false := by decide) : DE W0 H0 X (.Name x pos) (gVar i) := by
  refine (pv i hN hv hd hcd).to fun σ H Q => ?_
  rintro ⟨δ, W, Qd, at_, ⟨d, e, q⟩, f⟩
  obtain ⟨v, e1, i1⟩ := at_.env i d e
  exact ⟨v, e1, f.here at_.own q i1⟩
theorem d_const {v : V} {d : D} (h : PE X e (tC v)) (i : ∀ W H, Is W H d v) : DE W0 H0 X e (gC d) := h.to fun σ H Q => by
  rintro ⟨δ, W, Qd, at_, q, f⟩
  exact f.here at_.own q (i W H)
theorem d_int {i j pos} : DE W0 H0 X (.Constant (.int i) j pos) (gC (.int i)) := d_const pe_int fun _ _ => .int i
theorem d_bl {b j pos} : DE W0 H0 X (.Constant (.bool b) j pos) (gC (.bl b)) := d_const pe_bl fun _ _ => .bl b
theorem d_non {j pos} : DE W0 H0 X (.Constant .none j pos) (gC .non) := d_const pe_non fun _ _ => .non
theorem d_str {x j pos} : DE W0 H0 X (.Constant (.str x) j pos) (gC (.str x)) := d_const pe_str fun _ _ => .str x
/-- a module's constant -/
theorem d_globI {x : Str} {i : Int} {u : Value} (hg : Gl X x) (hm : X.mg x = some u) (r : RelV (.int i) u) (hd : (x == ("__debug__" : Str)) = false := by decide) : DE W0 H0 X (.Name x pos) (gC (.int i)) := d_const (pe_glob hg hm r hd) fun _ _ => .int i
theorem d_globS {x y : Str} {u : Value} (hg : Gl X x) (hm : X.mg x = some u) (r : RelV (.str y) u) (hd : (x == ("__debug__" : Str)) = false := by decide) : DE W0 H0 X (.Name x pos) (gC (.str y)) := d_const (pe_glob hg hm r hd) fun _ _ => .str y
theorem d_globR {x : Str} {a : Addr} {u : Value} (hg : Gl X x) (hm : X.mg x = some u) (r : RelV (.ref a) u) (hd : (x == ("__debug__" : Str)) = false := by decide) : DE W0 H0 X (.Name x pos) (gC (.ref a)) := d_const (pe_glob hg hm r hd) fun _ _ => .ref a
/-- a built-in class's name, as a value -/
theorem d_ty {x : Str} {n : String} (hg : Gl X x) (hm : X.mg x = none) (hv : bootBuiltins x = some (.type n)) (hn : x ≠ "__name__" := by decide) (hd : (x == ("__debug__" : Str)) = false := by decide) : DE W0 H0 X (.Name x pos) (gC (.ty n)) :=
  d_const (pe_bltn (v := .ty n) hg hm hv rfl hn hd) fun _ _ => .ty n

theorem seq2 {W : Wd} {H : Hp} {δ : Dt} {σ : L2.St} {Qd : D → D → Wd → Prop} {R : V → V → Hp → Prop} (at_ : At W0 H0 δ W σ H) (h : ga δ W fun x W1 => gb δ W1 fun y W2 => Qd x y W2)
    (k : ∀ x y v u W2 H2, Step W H W2 H2 → Own W2 H2 → Is W2 H2 x v → Is W2 H2 y u → Qd x y W2 → R v u H2) : lift W0 H0 ga σ H fun v H1 => lift W0 H0 gb σ H1 fun u H2 => R v u H2 := by
  refine ⟨δ, W, _, at_, h, fun x W1 v H1 q s1 o1 i1 => ⟨δ, W1, _, at_.go s1 o1, q, fun y W2 u H2 q2 s2 o2 i2 => ?_⟩⟩
  exact k x y v u W2 H2 (s1.trans s2) o2 (i1.mono s2) i2 q2
theorem sim_op {r : R2} {f : GR2} (hs : SimR r f) : ∀ σ H Q, lift W0 H0 (gOp f ga gb) σ H Q → tOp r (lift W0 H0 ga) (lift W0 H0 gb) σ H Q := by
  rintro σ H Q ⟨δ, W, Qd, at_, h, fin⟩
  exact seq2 at_ h fun x y v u W2 H2 s o i1 i2 q => hs x y W2 H2 Q v u Qd o i1 i2 q (fin.go s)
theorem d_op {op : Operator} {r : R2} {f : GR2} (ho : OpR X (binaryOp op) r) (hs : SimR r f) (ha : DE W0 H0 X a ga) (hb : DE W0 H0 X b gb) : DE W0 H0 X (.BinOp a op b pos) (gOp f ga gb) := (pe_op ho ha hb).to (sim_op hs)
theorem d_cmp {op : CmpOp} {r : R2} {f : GR2} (ho : OpR X (compareOp op) r) (hs : SimR r f) (ha : DE W0 H0 X a ga) (hb : DE W0 H0 X b gb) (hm : behindInMarks op b = false) : DE W0 H0 X (.Compare a [op] [b] pos) (gOp f ga gb) := (pe_cmpR ho ha hb hm).to (sim_op hs)
theorem d_chain {op op' : CmpOp} {r r' : R2} {f f' : GR2} (ho : OpR X (compareOp op) r) (hs : SimR r f) (ho' : OpR X (compareOp op') r') (hs' : SimR r' f') (ha : DE W0 H0 X a ga) (hb : DE W0 H0 X b gb) (hc : DE W0 H0 X c gc)
    (hm : lastMarks [op, op'] [b, c] = false := by with_unfolding_all rfl) : DE W0 H0 X (.Compare a [op, op'] [b, c] pos) (gChain f f' ga gb gc) := by
  refine (pe_chain ho ho' ha hb hc hm).to ?_
  rintro σ H Q ⟨δ, W, Qd, at_, h, fin⟩
  refine seq2 at_ h fun x y v u W2 H2 s o i1 i2 q => hs x y W2 H2 _ v u _ o i1 i2 q fun z W3 z' H3 q3 s3 o3 i3 => ?_
  obtain ⟨k, rfl, q4⟩ := q3
  cases i3
  refine ⟨k, rfl, ?_⟩
  cases k with
  | true =>
    rw [if_pos rfl] at q4 ⊢
    exact ⟨δ, W3, _, at_.go (s.trans s3) o3, q4, fun w W4 w' H4 q5 s4 o4 i4 => hs' y w W4 H4 Q u w' Qd o4 ((i2.mono s3).mono s4) i4 q5 (fin.go ((s.trans s3).trans s4))⟩
  | false =>
    rw [if_neg Bool.false_ne_true] at q4 ⊢
    exact fin _ _ _ _ q4 (s.trans s3) o3 (.bl false)
theorem d_un {op : UnaryOp} {r : V → Hp → VK → Prop} {f : GR1} (ho : UnR X (unaryOp op) r) (hs : SimU r f) (ha : DE W0 H0 X a ga) : DE W0 H0 X (.UnaryOp op a pos) (gUn f ga) := by
  refine (pe_un ho ha).to ?_
  rintro σ H Q ⟨δ, W, Qd, at_, h, fin⟩
  exact ⟨δ, W, _, at_, h, fun x W1 v H1 q s o i => hs x W1 H1 Q v Qd o i q (fin.go s)⟩
theorem d_and (ha : DE W0 H0 X a ga) {rest : List Expr} (hb : DE W0 H0 X (.BoolOp .And (b :: rest) pos) gb) : DE W0 H0 X (.BoolOp .And (a :: b :: rest) pos) (gAnd ga gb) := by
  refine (pe_and ha hb).to ?_
  rintro σ H Q ⟨δ, W, Qd, at_, h, fin⟩
  refine ⟨δ, W, _, at_, h, ?_⟩
  rintro x W1 v H1 ⟨c, rfl, q⟩ s o i
  cases i
  refine ⟨c, rfl, ?_⟩
  cases c with
  | true => rw [if_pos rfl] at q ⊢; exact ⟨δ, W1, Qd, at_.go s o, q, fin.go s⟩
  | false => rw [if_neg Bool.false_ne_true] at q ⊢; exact (fin.go s).here o q (.bl false)
theorem d_or (ha : DE W0 H0 X a ga) {rest : List Expr} (hb : DE W0 H0 X (.BoolOp .Or (b :: rest) pos) gb) : DE W0 H0 X (.BoolOp .Or (a :: b :: rest) pos) (gOr ga gb) := by
  refine (pe_or ha hb).to ?_
  rintro σ H Q ⟨δ, W, Qd, at_, h, fin⟩
  refine ⟨δ, W, _, at_, h, ?_⟩
  rintro x W1 v H1 ⟨c, rfl, q⟩ s o i
  cases i
  refine ⟨c, rfl, ?_⟩
  cases c with
  | true => rw [if_pos rfl] at q ⊢; exact (fin.go s).here o q (.bl true)
  | false => rw [if_neg Bool.false_ne_true] at q ⊢; exact ⟨δ, W1, Qd, at_.go s o, q, fin.go s⟩
theorem d_one {op} (ha : DE W0 H0 X a ga) : DE W0 H0 X (.BoolOp op [a] pos) ga := pe_one ha
theorem d_not (ha : DE W0 H0 X a ga) : DE W0 H0 X (.UnaryOp .Not a pos) (gNot ga) := by
  refine (pe_not ha).to ?_
  rintro σ H Q ⟨δ, W, Qd, at_, h, fin⟩
  refine ⟨δ, W, _, at_, h, ?_⟩
  rintro x W1 v H1 ⟨c, rfl, q⟩ s o i
  cases i
  exact ⟨c, rfl, (fin.go s).here o q (.bl _)⟩
theorem d_test (ha : DE W0 H0 X a ga) (he : ∀ whole : Sem Value, isTrue a X.env whole = (do let v ← whole; standAt a.pos; holding [v] (truthy v)) := by intro _; rfl) : DTs W0 H0 X a (gB ga) := by
  refine (pt_val ha he).to ?_
  rintro σ H Q ⟨δ, W, Qd, at_, h, fin⟩
  refine ⟨δ, W, _, at_, h, ?_⟩
  rintro x W1 v H1 ⟨c, rfl, q⟩ s o i
  cases i
  exact ⟨c, rfl, (fin.go s).here o q⟩
theorem sim_chain {r r' : R2} {f f' : GR2} (hs : SimR r f) (hs' : SimR r' f') : ∀ σ H Q, lift W0 H0 (gChain f f' ga gb gc) σ H Q → tChain r r' (lift W0 H0 ga) (lift W0 H0 gb) (lift W0 H0 gc) σ H Q := by
  rintro σ H Q ⟨δ, W, Qd, at_, h, fin⟩
  refine seq2 at_ h fun x y v u W2 H2 s o i1 i2 q => hs x y W2 H2 _ v u _ o i1 i2 q fun z W3 z' H3 q3 s3 o3 i3 => ?_
  obtain ⟨k, rfl, q4⟩ := q3
  cases i3
  refine ⟨k, rfl, ?_⟩
  cases k with
  | true =>
    rw [if_pos rfl] at q4 ⊢
    exact ⟨δ, W3, _, at_.go (s.trans s3) o3, q4, fun w W4 w' H4 q5 s4 o4 i4 => hs' y w W4 H4 Q u w' Qd o4 ((i2.mono s3).mono s4) i4 q5 (fin.go ((s.trans s3).trans s4))⟩
  | false =>
    rw [if_neg Bool.false_ne_true] at q4 ⊢
    exact fin _ _ _ _ q4 (s.trans s3) o3 (.bl false)
theorem lift_test {H : Hp} {σ : L2.St} {Q : Bool → Hp → Prop} {δ : Dt} {W : Wd} {Qd : Bool → Wd → Prop} (at_ : At W0 H0 δ W σ H) (h : gB ga δ W Qd) (fin : FinT W H Q Qd) : lift W0 H0 ga σ H fun x H' => ∃ k, x = .bl k ∧ Q k H' := by
  refine ⟨δ, W, _, at_, h, ?_⟩
  rintro x W1 v H1 ⟨c, rfl, q⟩ s o i
  cases i
  exact ⟨c, rfl, (fin.go s).here o q⟩
theorem t_cmp {op : CmpOp} {r : R2} {f : GR2} (ho : OpR X (compareOp op) r) (hs : SimR r f) (ha : DE W0 H0 X a ga) (hb : DE W0 H0 X b gb) (hm : behindInMarks op b = false) : DTs W0 H0 X (.Compare a [op] [b] pos) (gB (gOp f ga gb)) := by
  refine (pt_cmpR ho ha hb hm).to ?_
  rintro σ H Q ⟨δ, W, Qd, at_, h, fin⟩
  exact sim_op hs σ H _ (lift_test at_ h fin)
theorem t_chain {op op' : CmpOp} {r r' : R2} {f f' : GR2} (ho : OpR X (compareOp op) r) (hs : SimR r f) (ho' : OpR X (compareOp op') r') (hs' : SimR r' f') (ha : DE W0 H0 X a ga) (hb : DE W0 H0 X b gb) (hc : DE W0 H0 X c gc)
    (hm : lastMarks [op, op'] [b, c] = false := by with_unfolding_all rfl) : DTs W0 H0 X (.Compare a [op, op'] [b, c] pos) (gB (gChain f f' ga gb gc)) := by
  refine (pt_chain ho ho' ha hb hc hm).to ?_
  rintro σ H Q ⟨δ, W, Qd, at_, h, fin⟩
  exact sim_chain hs hs' σ H _ (lift_test at_ h fin)
def gTNot (gt : GT) : GT := fun δ W Q => gt δ W fun c W1 => Q (!c) W1
def gTAnd (gt gu : GT) : GT := fun δ W Q => gt δ W fun c W1 => if c = true then gu δ W1 Q else Q false W1
def gTOr (gt gu : GT) : GT := fun δ W Q => gt δ W fun c W1 => if c = true then Q true W1 else gu δ W1 Q
theorem t_not {gt : GT} (ha : DTs W0 H0 X a gt) : DTs W0 H0 X (.UnaryOp .Not a pos) (gTNot gt) := by
  refine (pt_not ha).to ?_
  rintro σ H Q ⟨δ, W, Qd, at_, h, fin⟩
  exact ⟨δ, W, _, at_, h, fun c W1 H1 q s o => (fin.go s).here o q⟩
/-- a test whatever its whole is -/
def DW (W0 : Wd) (H0 : Hp) (X : Cx) (e : Expr) (g : GT) : Prop := PW X e (liftT W0 H0 g)
theorem t_bool {gt : GT} (h : DW W0 H0 X e gt) : DTs W0 H0 X e gt := PW.pt h
theorem _root_.L2.PW.to {t t' : TT} (h : PW X e t) (k : ∀ σ H Q, t' σ H Q → t σ H Q) : PW X e t' := ⟨fun wh pins s σ H Q I q => h.run wh pins s σ H Q I (k σ H Q q)⟩
theorem w_and1 {gt : GT} (h : DTs W0 H0 X a gt) : DW W0 H0 X (.BoolOp .And [a] pos) gt := pw_and1 h
theorem w_or1 {gt : GT} (h : DTs W0 H0 X a gt) : DW W0 H0 X (.BoolOp .Or [a] pos) gt := pw_or1 h
theorem w_and {gt gu : GT} {rest : List Expr} (h : DTs W0 H0 X a gt) (hb : DW W0 H0 X (.BoolOp .And (b :: rest) pos) gu) : DW W0 H0 X (.BoolOp .And (a :: b :: rest) pos) (gTAnd gt gu) := by
  refine (pw_and h hb).to ?_
  rintro σ H Q ⟨δ, W, Qd, at_, h, fin⟩
  refine ⟨δ, W, _, at_, h, fun c W1 H1 q s o => ?_⟩
  cases c with
  | true => rw [if_pos rfl] at q ⊢; exact ⟨δ, W1, Qd, at_.go s o, q, fin.go s⟩
  | false => rw [if_neg Bool.false_ne_true] at q ⊢; exact (fin.go s).here o q
theorem w_or {gt gu : GT} {rest : List Expr} (h : DTs W0 H0 X a gt) (hb : DW W0 H0 X (.BoolOp .Or (b :: rest) pos) gu) : DW W0 H0 X (.BoolOp .Or (a :: b :: rest) pos) (gTOr gt gu) := by
  refine (pw_or h hb).to ?_
  rintro σ H Q ⟨δ, W, Qd, at_, h, fin⟩
  refine ⟨δ, W, _, at_, h, fun c W1 H1 q s o => ?_⟩
  cases c with
  | true => rw [if_pos rfl] at q ⊢; exact (fin.go s).here o q
  | false => rw [if_neg Bool.false_ne_true] at q ⊢; exact ⟨δ, W1, Qd, at_.go s o, q, fin.go s⟩
theorem d_if {gt : GT} (hc : DTs W0 H0 X c gt) (ha : DE W0 H0 X a ga) (hb : DE W0 H0 X b gb) : DE W0 H0 X (.IfExp c a b pos) (gIf gt ga gb) := by
  refine (pe_ifExp hc ha hb).to ?_
  rintro σ H Q ⟨δ, W, Qd, at_, h, fin⟩
  refine ⟨δ, W, _, at_, h, fun k W1 H1 q s o => ?_⟩
  cases k with
  | true => rw [if_pos rfl] at q ⊢; exact ⟨δ, W1, Qd, at_.go s o, q, fin.go s⟩
  | false => rw [if_neg Bool.false_ne_true] at q ⊢; exact ⟨δ, W1, Qd, at_.go s o, q, fin.go s⟩

theorem d_nil : DA W0 H0 X [] gNil := pa_nil.to fun σ H Q => by
  rintro ⟨δ, W, Qd, at_, q, f⟩
  exact f [] W [] H q (Step.refl W H) at_.own .nil
theorem d_cons (ha : DE W0 H0 X e ga) (hr : DA W0 H0 X es gs) (hs : starEach (e :: es) X.env = (false, eval e X.env) :: starEach es X.env := by rfl) : DA W0 H0 X (e :: es) (gCons ga gs) := by
  refine (pa_cons ha hr hs).to ?_
  rintro σ H Q ⟨δ, W, Qd, at_, h, fin⟩
  exact ⟨δ, W, _, at_, h, fun x W1 v H1 q s o i => ⟨δ, W1, _, at_.go s o, q, fun xs W2 vs H2 q2 s2 o2 i2 => fin _ _ _ _ q2 (s.trans s2) o2 (.cons (i.mono s2) i2)⟩⟩
theorem d_tup {k} (h : DA W0 H0 X es gs) : DE W0 H0 X (.Tuple es k pos) (gTup gs) := by
  refine (pe_tup h).to ?_
  rintro σ H Q ⟨δ, W, Qd, at_, h, fin⟩
  refine ⟨δ, W, _, at_, h, fun xs W1 vs H1 q s o i => ⟨by rw [← i.length]; exact q.1, fun p hp => ?_⟩⟩
  exact fin _ _ _ _ q.2 (s.trans (Step.new hp)) (o.laid hp) (Is.of_upd_tup o hp i)
theorem d_lst (h : DA W0 H0 X es gs) : DE W0 H0 X (.List es pos) (gLst gs) := by
  refine (pe_lst h).to ?_
  rintro σ H Q ⟨δ, W, Qd, at_, h, fin⟩
  refine ⟨δ, W, _, at_, h, fun xs W1 vs H1 q s o i => ⟨by rw [← i.length]; exact q.1, fun p hp => ?_⟩⟩
  exact fin _ _ _ _ q.2 (s.trans (Step.new hp)) (o.laid hp) (Is.of_upd_lst o hp i)
theorem own_new {W : Wd} {H : Hp} (o : Own W H) {p : Addr} (hp : H p = none) {ds : List D} {vs : List V} (l : IsL W H ds vs) : Own (put W p (.lst ds)) (upd H p (.lst vs)) :=
  o.put (.inl hp) ⟨vs, upd_same, l.mono (Step.put (.inl hp))⟩
theorem d_own (h : DA W0 H0 X es gs) : DE W0 H0 X (.List es pos) (gOwn gs) := by
  refine (pe_lst h).to ?_
  rintro σ H Q ⟨δ, W, Qd, at_, h, fin⟩
  refine ⟨δ, W, _, at_, h, fun xs W1 vs H1 q s o i => ⟨by rw [← i.length]; exact q.1, fun p hp => ?_⟩⟩
  exact fin _ _ _ _ (q.2 p (o.new hp)) (s.trans (Step.put (.inl hp))) (own_new o hp i) (.ref p)
end
end DL
end
section
set_option maxRecDepth 100000
set_option maxHeartbeats 2000000
namespace DL
open PySem PySem.Spec PyProof.Rows L2

abbrev GG := D → Dt → Wd → (Dt → Wd → Prop) → Prop
abbrev GGs := List D → Dt → Wd → (Dt → Wd → Prop) → Prop
def FinG (W0 : Wd) (H0 : Hp) (W : Wd) (H : Hp) (Q : L2.St → Hp → Prop) (Qd : Dt → Wd → Prop) : Prop := ∀ δ' W' σ' H', Qd δ' W' → At W0 H0 δ' W' σ' H' → Step W H W' H' → Q σ' H'
/-- a target: what it does with a thing -/
def DG (W0 : Wd) (H0 : Hp) (X : Cx) (tg : Expr) (gg : GG) : Prop := ∃ g, PG X tg g ∧ ∀ d v δ W σ H Q Qd, At W0 H0 δ W σ H → Is W H d v → gg d δ W Qd → FinG W0 H0 W H Q Qd → g v σ H Q
def DGs (W0 : Wd) (H0 : Hp) (X : Cx) (tgs : List Expr) (gg : GGs) : Prop := ∃ g, PGs X tgs g ∧ ∀ ds vs δ W σ H Q Qd, At W0 H0 δ W σ H → IsL W H ds vs → gg ds δ W Qd → FinG W0 H0 W H Q Qd → g vs σ H Q

def hNext : GS := fun G δ W => G.nx δ W
def hSeq (a b : GS) : GS := fun G δ W => a { G with nx := b G } δ W
def hDrop (g : GE) : GS := fun G δ W => g δ W fun _ W1 => G.nx δ W1
def hRet (g : GE) : GS := fun G δ W => g δ W G.rt
def hRetN : GS := fun G _ W => G.rt .non W
def hIf (gt : GT) (a b : GS) : GS := fun G δ W => gt δ W fun c W1 => if c = true then a G δ W1 else b G δ W1
def kName (i : Nat) : GG := fun d δ W Q => Q (δ.set i (some d)) W
def kNil : GGs := fun ds δ W Q => ds = [] ∧ Q δ W
def kCons (g : GG) (u : GGs) : GGs := fun ds δ W Q => ∃ d r, ds = d :: r ∧ g d δ W fun δ1 W1 => u r δ1 W1 Q
def kTup (n : Nat) (u : GGs) : GG := fun d δ W Q => ∃ ds, d = .tup ds ∧ ds.length = n ∧ u ds δ W Q
def hAsg (g : GE) (gg : GG) : GS := fun G δ W => g δ W fun d W1 => gg d δ W1 G.nx
def hPar (i j : Nat) (ga : GA) : GS := fun G δ W => ga δ W fun ds W1 => ∃ x y, ds = [x, y] ∧ G.nx ((δ.set i (some x)).set j (some y)) W1
def hWhile (gt : GT) (gb : GS) : GS := fun G δ W => ∃ I : Nat → Dt → Wd → Prop, (∃ m, I m δ W) ∧ ∀ m δ W, I m δ W →
  gt δ W fun b W1 => if b = true then ∃ N : Dt → Wd → Prop, (∀ δ' W', N δ' W' → ∃ m', m' < m ∧ I m' δ' W') ∧ gb { G with nx := N, ct := N, bk := G.nx } δ W1 else G.nx δ W1
/-- a loop over the things of a list, one behind the other -/
def forGo (gg : GG) (gb : GS) : List D → GS
  | [] => fun G δ W => G.nx δ W
  | x :: r => fun G δ W => gg x δ W fun δ1 W1 => gb { G with nx := forGo gg gb r G, ct := forGo gg gb r G, bk := G.nx } δ1 W1
abbrev GI := Dt → Wd → (List D → Wd → Prop) → Prop
def hFor (gi : GI) (gg : GG) (gb : GS) : GS := fun G δ W => gi δ W fun items W1 => forGo gg gb items G δ W1
/-- the iterator J gives these -/
def ItOk (J : It) (items : List D) (W : Wd) (H : Hp) : Prop := ∀ W' H', Step W H W' H' → Own W' H' → ∀ i, (items.length ≤ i → J.stop i H') ∧
  ∀ d, items[i]? = some d → J.go i H' ∧ ∀ x H2, J.yld i H' x H2 → Step W' H' W' H2 ∧ Own W' H2 ∧ Is W' H2 d x
def liftI (W0 : Wd) (H0 : Hp) (g : GI) : TI := fun σ H R => ∃ δ W Qd, At W0 H0 δ W σ H ∧ g δ W Qd ∧ ∀ items W' J H', Qd items W' → Step W H W' H' → Own W' H' → ItOk J items W' H' → R J H'
def DI (W0 : Wd) (H0 : Hp) (X : Cx) (tg iter : Expr) (g : GI) : Prop := PI X tg iter (liftI W0 H0 g)
theorem _root_.L2.PI.to {X : Cx} {tg iter : Expr} {t t' : TI} (h : PI X tg iter t) (k : ∀ σ H R, t' σ H R → t σ H R) : PI X tg iter t' := ⟨fun pins s σ H R I q => h.run pins s σ H R I (k σ H R q)⟩

section
variable {X : Cx} {W0 : Wd} {H0 : Hp} {e a b c tg iter : Expr} {es : List Expr} {st : Stmt} {sts rest : List Stmt} {g ga gb gc : GE} {gt : GT} {gs : GA} {gi : GI} {h1 h2 hb : GS} {gg : GG} {ggs : GGs} {pos : Pos}
theorem s_nil : DSs W0 H0 X [] hNext := pss_nil.to fun D σ H => by
  rintro ⟨δ, W, G, at_, q, f⟩
  exact f.nx _ _ _ _ q at_ (Step.refl W H)
theorem s_cons (a : DS W0 H0 X st h1) (b : DSs W0 H0 X rest h2) : DSs W0 H0 X (st :: rest) (hSeq h1 h2) := by
  refine (pss_cons a b).to ?_
  rintro D σ H ⟨δ, W, G, at_, q, f⟩
  exact ⟨δ, W, _, at_, q, fun δ1 W1 σ1 H1 q1 a1 s1 => ⟨δ1, W1, G, a1, q1, f.go s1⟩, f.rt, f.bk, f.ct⟩
theorem s_one (a : DS W0 H0 X st h1) : DSs W0 H0 X [st] h1 := pss_one a
theorem s_expr (a : DE W0 H0 X e g) (hs : swapsWith e none pos.line X.env = pure false := by rfl) : DS W0 H0 X (.Expr e pos) (hDrop g) := by
  refine (ps_expr a hs).to ?_
  rintro D σ H ⟨δ, W, G, at_, q, f⟩
  exact ⟨δ, W, _, at_, q, fun d W1 v H1 q1 s o i => f.nx _ _ _ _ q1 (at_.go s o) s⟩
theorem s_ret (a : DE W0 H0 X e g) : DS W0 H0 X (.Return (some e) pos) (hRet g) := by
  refine (ps_ret a).to ?_
  rintro D σ H ⟨δ, W, G, at_, q, f⟩
  exact ⟨δ, W, _, at_, q, fun d W1 v H1 q1 s o i => f.rt _ _ _ _ q1 s o i⟩
theorem s_retN : DS W0 H0 X (.Return none pos) hRetN := ps_retN.to fun D σ H => by
  rintro ⟨δ, W, G, at_, q, f⟩
  exact f.rt _ _ _ _ q (Step.refl W H) at_.own .non
theorem s_pass : DS W0 H0 X (.Pass pos) hNext := ps_pass.to fun D σ H => by
  rintro ⟨δ, W, G, at_, q, f⟩
  exact f.nx _ _ _ _ q at_ (Step.refl W H)
theorem s_if (hc : DTs W0 H0 X c gt) (ha : DSs W0 H0 X sts h1) (hb : DSs W0 H0 X rest h2) : DS W0 H0 X (.If c sts rest pos) (hIf gt h1 h2) := by
  refine (ps_if hc ha hb).to ?_
  rintro D σ H ⟨δ, W, G, at_, q, f⟩
  refine ⟨δ, W, _, at_, q, fun k W1 H1 q1 s o => ?_⟩
  cases k with
  | true => rw [if_pos rfl] at q1 ⊢; exact ⟨δ, W1, G, at_.go s o, q1, f.go s⟩
  | false => rw [if_neg Bool.false_ne_true] at q1 ⊢; exact ⟨δ, W1, G, at_.go s o, q1, f.go s⟩
theorem k_name {i : Nat} {x : Str} (hN : X.N.Nodup) (hi : X.N[i]? = some x) (hx : Loc X.env.scope x) (hf : X.fn x = true ∨ X.env.scope.names.lookup x = some .local := by first | exact .inl rfl | exact .inr rfl | assumption) : DG W0 H0 X (.Name x pos) (kName i) :=
  ⟨_, pg_name hN hi hx hf, fun d v δ W σ H Q Qd at_ i1 q f => f _ _ _ _ q (at_.set _ i1) (Step.refl W H)⟩
theorem k_nil : DGs W0 H0 X [] kNil := ⟨_, pgs_nil, fun ds vs δ W σ H Q Qd at_ i q f => by
  obtain ⟨rfl, q⟩ := q
  cases i
  exact ⟨rfl, f _ _ _ _ q at_ (Step.refl W H)⟩⟩
theorem k_cons (a : DG W0 H0 X e gg) (b : DGs W0 H0 X es ggs) (hs : (assignEach (e :: es) X.env).map (·.2) = assign e X.env :: (assignEach es X.env).map (·.2) := by rfl) : DGs W0 H0 X (e :: es) (kCons gg ggs) := by
  obtain ⟨g1, p1, k1⟩ := a
  obtain ⟨g2, p2, k2⟩ := b
  refine ⟨_, pgs_cons p1 p2 hs, fun ds vs δ W σ H Q Qd at_ i q f => ?_⟩
  obtain ⟨d, r, rfl, q⟩ := q
  cases i with
  | cons i1 i2 => exact ⟨_, _, rfl, k1 d _ δ W σ H _ _ at_ i1 q fun δ1 W1 σ1 H1 q1 a1 s1 => k2 r _ δ1 W1 σ1 H1 Q Qd a1 (i2.mono s1) q1 fun δ2 W2 σ2 H2 q2 a2 s2 => f _ _ _ _ q2 a2 (s1.trans s2)⟩
theorem k_tup {k n : Nat} (hc : X.calm = true) (h : DGs W0 H0 X es ggs) (hn : (assignEach es X.env).length = n := by rfl) (hst : (assignEach es X.env).findIdx? (·.1) = none := by rfl) : DG W0 H0 X (.Tuple es k pos) (kTup n ggs) := by
  obtain ⟨g, p, k⟩ := h
  refine ⟨_, pg_tup hc p hn hst, fun d v δ W σ H Q Qd at_ i q f => ?_⟩
  obtain ⟨ds, rfl, hl, q⟩ := q
  cases i with
  | tup e1 e2 e3 => exact ⟨_, _, rfl, .inl (.inl e1), by rw [← e3.length]; exact hl, k ds _ δ W σ H Q Qd at_ e3 q f⟩
theorem asg_to {t : TE} {te : TG} (he : t = lift W0 H0 g) (hk : ∀ d v δ W σ H Q Qd, At W0 H0 δ W σ H → Is W H d v → gg d δ W Qd → FinG W0 H0 W H Q Qd → te v σ H Q) : ∀ D σ H, liftS W0 H0 (hAsg g gg) D σ H → tAsg t te D σ H := by
  subst he
  rintro D σ H ⟨δ, W, G, at_, q, f⟩
  exact ⟨δ, W, _, at_, q, fun d W1 v H1 q1 s o i => hk d v δ W1 σ H1 _ _ (at_.go s o) i q1 fun δ2 W2 σ2 H2 q2 a2 s2 => f.nx _ _ _ _ q2 a2 (s.trans s2)⟩
/-- a name -/
theorem s_set {i : Nat} {x : Str} {pos' : Pos} (hN : X.N.Nodup) (hi : X.N[i]? = some x) (hx : Loc X.env.scope x) (he : DE W0 H0 X e g) (hs : swapsWith e (some (.Name x pos')) pos.line X.env = pure false := by rfl) (hf : X.fn x = true ∨ X.env.scope.names.lookup x = some .local := by first | exact .inl rfl | exact .inr rfl | assumption) :
    DS W0 H0 X (.Assign [.Name x pos'] e pos) (hAsg g (kName i)) :=
  (ps_set hN hi hx he hs hf).to (asg_to rfl fun d v δ W σ H Q Qd at_ i1 q f => f _ _ _ _ q (at_.set _ i1) (Step.refl W H))
/-- another target -/
theorem s_asg (he : DE W0 H0 X e g) (hg : DG W0 H0 X tg gg) (hs : swapsWithSole [tg] e pos.line X.env = pure false := by rfl) (hw : swappedStores [tg] e X.env = pure none := by rfl)
    (h1 : (assignEach [tg] X.env).map (·.2) = [assign tg X.env] := by rfl) : DS W0 H0 X (.Assign [tg] e pos) (hAsg g gg) := by
  obtain ⟨k, p, hk⟩ := hg
  exact (ps_asg he p hs hw h1).to (asg_to rfl hk)
theorem s_par {i j : Nat} {x y : Str} {px py pt : Pos} {kt k2 pt2} (hc : X.calm = true) (hN : X.N.Nodup) (hi : X.N[i]? = some x) (hj : X.N[j]? = some y) (hij : i ≠ j)
    (hx : X.env.scope.names.lookup x = some .local) (hy : X.env.scope.names.lookup y = some .local) (ha : DA W0 H0 X [a, b] gs)
    (hw : swappedStores [.Tuple [.Name x px, .Name y py] kt pt] (.Tuple [a, b] k2 pt2) X.env = pure (some [x, y]))
    (hs : swapsWithSole [.Tuple [.Name x px, .Name y py] kt pt] (.Tuple [a, b] k2 pt2) pos.line X.env = pure false := by rfl) :
    DS W0 H0 X (.Assign [.Tuple [.Name x px, .Name y py] kt pt] (.Tuple [a, b] k2 pt2) pos) (hPar i j gs) := by
  refine (ps_par hc hN hi hj hij hx hy ha hw hs).to ?_
  rintro D σ H ⟨δ, W, G, at_, q, f⟩
  refine ⟨δ, W, _, at_, q, ?_⟩
  rintro ds W1 vs H1 ⟨x, y, rfl, q1⟩ s o i
  cases i with
  | cons i1 i2 => cases i2 with
    | cons i2 i3 =>
      cases i3
      exact ⟨_, _, rfl, f.nx _ _ _ _ q1 (((at_.go s o).set _ i1).set _ i2) s⟩
theorem s_while (hp : PassesOwn (model X.prog X.w) X.A X.env X.xe) (hc : DTs W0 H0 X c gt) (hb : DSs W0 H0 X sts h1) : DS W0 H0 X (.While c sts [] pos) (hWhile gt h1) := by
  refine (ps_while hp hc hb).to ?_
  rintro D σ H ⟨δ, W, G, at_, ⟨I, ⟨m0, i0⟩, turn⟩, f⟩
  refine ⟨fun m σ' H' => ∃ δ' W', At W0 H0 δ' W' σ' H' ∧ Step W H W' H' ∧ I m δ' W', ⟨m0, δ, W, at_, Step.refl W H, i0⟩, ?_⟩
  rintro m σ1 H1 ⟨δ1, W1, a1, s1, i1⟩
  refine ⟨δ1, W1, _, a1, turn m δ1 W1 i1, fun k W2 H2 q s o => ?_⟩
  cases k with
  | true =>
    rw [if_pos rfl] at q ⊢
    obtain ⟨N, hN, q⟩ := q
    refine ⟨fun σ' H' => ∃ δ' W', At W0 H0 δ' W' σ' H' ∧ Step W H W' H' ∧ N δ' W', ?_, ?_⟩
    · rintro σ' H' ⟨δ', W', a', s', n'⟩
      obtain ⟨m', lt, i'⟩ := hN δ' W' n'
      exact ⟨m', lt, δ', W', a', s', i'⟩
    · have s02 : Step W H W2 H2 := s1.trans s
      exact ⟨δ1, W2, _, a1.go s o, q, fun δ' W' σ' H' n a' s' => ⟨δ', W', a', s02.trans s', n⟩, fun d W' v H' r s' o' i' => f.rt d W' v H' r (s02.trans s') o' i',
        fun δ' W' σ' H' n a' s' => f.nx _ _ _ _ n a' (s02.trans s'), fun δ' W' σ' H' n a' s' => ⟨δ', W', a', s02.trans s', n⟩⟩
  | false =>
    rw [if_neg Bool.false_ne_true] at q ⊢
    exact f.nx _ _ _ _ q (a1.go s o) (s1.trans s)
theorem s_for (hp : PassesOwn (model X.prog X.w) X.A X.env X.xe) (hc : X.calm = true) (hi : DI W0 H0 X tg iter gi) (hg : DG W0 H0 X tg gg) (hb : DSs W0 H0 X sts h1)
    (hs : ∀ x, foldedSetIterable iter X.env x = pure x := by intro _; rfl) : DS W0 H0 X (.For tg iter sts [] pos) (hFor gi gg h1) := by
  obtain ⟨k, p, hk⟩ := hg
  refine (ps_for hp hc hi p hb (hs := hs)).to ?_
  rintro D σ H ⟨δ, W, G, at_, q, f⟩
  refine ⟨δ, W, _, at_, q, fun items W1 J H1 q1 s1 o1 it => ?_⟩
  refine ⟨fun i m σ' H' => m = items.length - i ∧ i ≤ items.length ∧ ∃ δ' W', At W0 H0 δ' W' σ' H' ∧ Step W1 H1 W' H' ∧ forGo gg h1 (items.drop i) G δ' W', ⟨items.length, by simp, Nat.zero_le _, δ, W1, at_.go s1 o1, Step.refl W1 H1, q1⟩, ?_⟩
  rintro i m σ2 H2 ⟨rfl, hle, δ2, W2, a2, s2, q2⟩
  obtain ⟨hstop, hgo⟩ := it W2 H2 s2 a2.own i
  by_cases hi : i < items.length
  · right
    have ed : items[i]? = some items[i] := List.getElem?_eq_getElem hi
    obtain ⟨go, yl⟩ := hgo _ ed
    rw [List.drop_eq_getElem_cons hi] at q2
    refine ⟨go, fun σ' H' => ∃ δ' W', At W0 H0 δ' W' σ' H' ∧ Step W1 H1 W' H' ∧ forGo gg h1 (items.drop (i + 1)) G δ' W', ?_, fun x H3 hy => ?_⟩
    · rintro σ' H' ⟨δ', W', a', s', q'⟩
      exact ⟨items.length - (i + 1), by omega, rfl, by omega, δ', W', a', s', q'⟩
    · obtain ⟨s3, o3, i3⟩ := yl x H3 hy
      refine hk _ x δ2 W2 σ2 H3 _ _ (a2.go s3 o3) i3 q2 fun δ4 W4 σ4 H4 q4 a4 s4 => ?_
      have s14 : Step W1 H1 W4 H4 := (s2.trans s3).trans s4
      exact ⟨δ4, W4, _, a4, q4, fun δ' W' σ' H' n a' s' => ⟨δ', W', a', s14.trans s', n⟩, fun d W' v H' r s' o' i' => f.rt d W' v H' r ((s1.trans s14).trans s') o' i',
        fun δ' W' σ' H' n a' s' => f.nx _ _ _ _ n a' ((s1.trans s14).trans s'), fun δ' W' σ' H' n a' s' => ⟨δ', W', a', s14.trans s', n⟩⟩
  · left
    refine ⟨hstop (by omega), ?_⟩
    rw [List.drop_of_length_le (by omega)] at q2
    exact f.nx _ _ _ _ q2 a2 (s1.trans s2)
end
/-- a list, a tuple: its things -/
def iSeq (g : GE) : GI := fun δ W Q => g δ W fun d W1 => ∃ ds, seqOf W1 d = some ds ∧ (∀ p, d ≠ .ref p) ∧ Q ds W1
/-- an owned list that won't be changed any more -/
def iOwn (g : GE) : GI := fun δ W Q => g δ W fun d W1 => ∃ p ds, d = .ref p ∧ W1 p = some (.lst ds) ∧ Q ds (del W1 p)
def iR1 (g : GA) : GI := fun δ W Q => g δ W fun ds W1 => ∃ j : Int, ds = [.int j] ∧ -(2 ^ 62) ≤ j ∧ j < 2 ^ 62 ∧ Q ((List.range j.toNat).map fun (k : Nat) => D.int (k : Int)) W1
def iR2 (g : GA) : GI := fun δ W Q => g δ W fun ds W1 => ∃ i j : Int, ds = [.int i, .int j] ∧ (-(2 ^ 62) ≤ i ∧ i < 2 ^ 62 ∧ -(2 ^ 62) ≤ j ∧ j < 2 ^ 62) ∧ Q ((List.range (j - i).toNat).map fun (k : Nat) => D.int (i + (k : Int))) W1
theorem itl_ok {K : PySem.W.Frag} {W : Wd} {H : Hp} {a : Addr} {ds : List D} {vs : List V} (h : ∃ o, H a = some o ∧ Nt o ∧ ∀ H', H' a = some o → SqL K H' a vs) (hw : W a = none) (l : IsL W H ds vs) : ItOk (Itl K a) ds W H := by
  intro W' H' s o i
  obtain ⟨ob, h1, hnt, h2⟩ := h
  have sq : SqL K H' a vs := h2 H' (s.ext _ _ h1 hnt hw)
  have l' := l.mono s
  refine ⟨fun hle => ⟨vs, sq, by rw [← l.length]; exact hle⟩, fun d e => ?_⟩
  obtain ⟨v, e1, i1⟩ := l'.get e
  refine ⟨⟨vs, v, sq, e1⟩, ?_⟩
  rintro x H2 ⟨rfl, hx⟩
  have := hx vs sq
  rw [e1] at this
  cases this
  exact ⟨Step.refl _ _, o, i1⟩
theorem itt_ok {K : PySem.W.Frag} {W : Wd} {H : Hp} {a : Addr} {ds : List D} {vs : List V} (h : H a = some (.tup vs)) (hw : W a = none) (l : IsL W H ds vs) : ItOk (Itt K a) ds W H := by
  intro W' H' s o i
  have sq : SqT K H' a vs := .inl (.inl (s.ext _ _ h nt_tup hw))
  have l' := l.mono s
  refine ⟨fun hle => ⟨vs, sq, by rw [← l.length]; exact hle⟩, fun d e => ?_⟩
  obtain ⟨v, e1, i1⟩ := l'.get e
  refine ⟨⟨vs, v, sq, e1⟩, ?_⟩
  rintro x H2 ⟨rfl, hx⟩
  have := hx vs sq
  rw [e1] at this
  cases this
  exact ⟨Step.refl _ _, o, i1⟩
theorem itr_ok {W : Wd} {H : Hp} {lo : Int} {n : Nat} : ItOk (Itr lo n) ((List.range n).map fun (k : Nat) => D.int (lo + (k : Int))) W H := by
  intro W' H' s o i
  refine ⟨fun hle => by rw [List.length_map, List.length_range] at hle; exact hle, fun d e => ?_⟩
  rw [List.getElem?_map] at e
  by_cases hi : i < n
  · rw [List.getElem?_range hi] at e
    cases e
    refine ⟨hi, ?_⟩
    rintro x H2 ⟨rfl, rfl⟩
    exact ⟨Step.refl _ _, o, .int _⟩
  · rw [List.getElem?_eq_none (by simpa using hi)] at e
    cases e
section
variable {X : Cx} {W0 : Wd} {H0 : Hp} {e a b c tg iter : Expr} {es : List Expr} {g : GE} {gs : GA} {pos : Pos}
/-- a list -/
theorem i_list (he : DE W0 H0 X e g) : DI W0 H0 X tg e (fun δ W Q => g δ W fun d W1 => ∃ ds, (d = .lst ds ∨ d = .frz ds) ∧ Q ds W1) := by
  refine (pi_list he).to ?_
  rintro σ H R ⟨δ, W, Qd, at_, q, f⟩
  refine ⟨δ, W, _, at_, q, ?_⟩
  rintro d W1 v H1 ⟨ds, hd, q1⟩ s o i
  rcases hd with rfl | rfl
  · cases i with
    | lst e1 e2 e3 => exact ⟨_, rfl, ⟨_, .inl (.inl e1)⟩, f ds W1 _ H1 q1 s o (itl_ok ⟨_, e1, nt_lst, fun H' e => .inl (.inl e)⟩ e2 e3)⟩
  · cases i with
    | frz e1 e2 e3 =>
      refine ⟨_, rfl, ⟨_, .inl e1⟩, f ds W1 _ H1 q1 s o (itl_ok ?_ e2 e3)⟩
      rcases e1 with e1 | ⟨ob, e1⟩
      · exact ⟨_, e1, nt_lst, fun H' e => .inl (.inl e)⟩
      · exact ⟨_, e1, nt_frz, fun H' e => .inl (.inr ⟨_, e⟩)⟩
def iLst (g : GE) : GI := fun δ W Q => g δ W fun d W1 => ∃ ds, (d = .lst ds ∨ d = .frz ds) ∧ Q ds W1
def iTupG (g : GE) : GI := fun δ W Q => g δ W fun d W1 => ∃ ds, d = .tup ds ∧ Q ds W1
theorem i_lst (he : DE W0 H0 X e g) : DI W0 H0 X tg e (iLst g) := i_list he
theorem i_tup (he : DE W0 H0 X e g) : DI W0 H0 X tg e (iTupG g) := by
  refine (pi_tup he).to ?_
  rintro σ H R ⟨δ, W, Qd, at_, q, f⟩
  refine ⟨δ, W, _, at_, q, ?_⟩
  rintro d W1 v H1 ⟨ds, rfl, q1⟩ s o i
  cases i with
  | tup e1 e2 e3 => exact ⟨_, rfl, ⟨_, .inl (.inl e1)⟩, f ds W1 _ H1 q1 s o (itt_ok e1 e2 e3)⟩
theorem i_own (he : DE W0 H0 X e g) : DI W0 H0 X tg e (iOwn g) := by
  refine (pi_list he).to ?_
  rintro σ H R ⟨δ, W, Qd, at_, q, f⟩
  refine ⟨δ, W, _, at_, q, ?_⟩
  rintro d W1 v H1 ⟨p, ds, rfl, hp, q1⟩ s o i
  cases i
  obtain ⟨vs, e1, e3⟩ := o p _ hp
  exact ⟨_, rfl, ⟨_, .inl (.inl e1)⟩, f ds (del W1 p) _ H1 q1 (s.trans (Step.del p)) (o.del p) (itl_ok ⟨_, e1, nt_lst, fun H' e => .inl (.inl e)⟩ del_same (e3.mono (Step.del p)))⟩
theorem i_r1 {p : Pos} (hg : Gl X "range") (hm : X.mg "range" = none) (ha : DA W0 H0 X [a] gs) (hs : starEach [a] X.env = [(false, eval a X.env)] := by rfl) : DI W0 H0 X tg (.Call (.Name "range" p) [a] [] pos) (iR1 gs) := by
  refine (pi_range1 hg hm ha hs).to ?_
  rintro σ H R ⟨δ, W, Qd, at_, q, f⟩
  refine ⟨δ, W, _, at_, q, ?_⟩
  rintro ds W1 vs H1 ⟨j, rfl, l1, l2, q1⟩ s o i
  cases i with
  | cons i1 i2 =>
    cases i1
    cases i2
    refine ⟨j, rfl, l1, l2, f _ W1 _ H1 q1 s o ?_⟩
    have h := itr_ok (W := W1) (H := H1) (lo := 0) (n := j.toNat)
    simp only [Int.zero_add] at h
    exact h
theorem i_r2 {p : Pos} (hg : Gl X "range") (hm : X.mg "range" = none) (ha : DA W0 H0 X [a, b] gs) (hs : starEach [a, b] X.env = [(false, eval a X.env), (false, eval b X.env)] := by rfl) (hs2 : starEach [b] X.env = [(false, eval b X.env)] := by rfl) :
    DI W0 H0 X tg (.Call (.Name "range" p) [a, b] [] pos) (iR2 gs) := by
  refine (pi_range2 hg hm ha hs hs2).to ?_
  rintro σ H R ⟨δ, W, Qd, at_, q, f⟩
  refine ⟨δ, W, _, at_, q, ?_⟩
  rintro ds W1 vs H1 ⟨x, y, rfl, l1, q1⟩ s o i
  cases i with
  | cons i1 i2 =>
    cases i1
    cases i2 with
    | cons i2 i3 =>
      cases i2
      cases i3
      exact ⟨x, y, rfl, l1, f _ W1 _ H1 q1 s o itr_ok⟩
end
end DL
end
section
set_option maxRecDepth 100000
set_option maxHeartbeats 2000000
namespace DL
open PySem PySem.Spec PyProof.Rows L2

def wipeD (δ : Dt) : List Nat → Dt
  | [] => δ
  | v :: vs => (wipeD δ vs).set v none
theorem wipe_at {σ : L2.St} {i : Nat} : ∀ {vs : List Nat}, i ∈ vs → (wipe σ vs).set i none = wipe σ vs
  | v :: vs, h => by
    show ((wipe σ vs).set v none).set i none = (wipe σ vs).set v none
    by_cases e : v = i
    · subst e; rw [List.set_set]
    · have hm : i ∈ vs := by
        rcases List.mem_cons.mp h with z | z
        · exact absurd z.symm e
        · exact z
      rw [List.set_comm _ _ e, wipe_at hm]
theorem wipe_again {σ : L2.St} {vs : List Nat} : ∀ us : List Nat, (∀ u ∈ us, u ∈ vs) → wipe (wipe σ vs) us = wipe σ vs
  | [], _ => rfl
  | u :: us, h => by
    show (wipe (wipe σ vs) us).set u none = wipe σ vs
    rw [wipe_again us fun x hx => h x (List.mem_cons_of_mem _ hx), wipe_at (h u List.mem_cons_self)]
theorem wipe_set {σ : L2.St} {i : Nat} {x : Option V} : ∀ {vs : List Nat}, i ∈ vs → wipe (σ.set i x) vs = wipe σ vs
  | v :: vs, h => by
    show (wipe (σ.set i x) vs).set v none = (wipe σ vs).set v none
    by_cases hm : i ∈ vs
    · rw [wipe_set hm]
    · have e : i = v := by
        rcases List.mem_cons.mp h with z | z
        · exact z
        · exact absurd z hm
      subst e
      have : ∀ us : List Nat, ¬ i ∈ us → wipe (σ.set i x) us = (wipe σ us).set i x := by
        intro us
        induction us with
        | nil => intro _; rfl
        | cons u us ih =>
          intro hu
          show (wipe (σ.set i x) us).set u none = ((wipe σ us).set u none).set i x
          rw [ih fun z => hu (List.mem_cons_of_mem _ z), List.set_comm _ _ (fun z => hu (by rw [z]; exact List.mem_cons_self))]
      rw [this vs hm, List.set_set]
section
variable {W0 : Wd} {H0 : Hp} {δ : Dt} {W : Wd} {σ : L2.St} {H : Hp}
theorem At.unset (a : At W0 H0 δ W σ H) (i : Nat) : At W0 H0 (δ.set i none) W (σ.set i none) H := by
  refine ⟨a.own, by rw [List.length_set, List.length_set, a.len], fun j x e => ?_, a.st⟩
  by_cases z : i = j
  · subst z
    have hl : i < δ.length := by
      have := (List.getElem?_eq_some_iff.mp e).1
      rwa [List.length_set] at this
    rw [List.getElem?_set_self hl] at e
    cases e
  · rw [List.getElem?_set_ne z] at e ⊢
    exact a.env j x e
theorem At.wipe (a : At W0 H0 δ W σ H) : ∀ vs : List Nat, At W0 H0 (wipeD δ vs) W (L2.wipe σ vs) H
  | [] => a
  | v :: vs => (At.wipe a vs).unset v
end
def lcGo (p : Addr) (gg : GG) (gt : GT) (ge : GE) (δ0 : Dt) : List D → Wd → (Wd → Prop) → Prop
  | [], W, Q => Q W
  | x :: r, W, Q => gg x δ0 W fun δ1 W1 => gt δ1 W1 fun b W2 => if b = true then ge δ1 W2 fun y W3 => ∃ acc, W3 p = some (.lst acc) ∧ acc.length < sizeLine ∧ lcGo p gg gt ge δ0 r (put W3 p (.lst (acc ++ [y]))) Q else lcGo p gg gt ge δ0 r W2 Q
/-- its list, as it is from now on -/
def gLc (gi : GI) (gg : GG) (gt : GT) (ge : GE) (vs : List Nat) : GE := fun δ W Q => gi δ W fun items W1 => ∀ p, W1 p = none → lcGo p gg gt ge (wipeD δ vs) items (put W1 p (.lst [])) fun W2 => ∃ acc, W2 p = some (.lst acc) ∧ Q (.lst acc) (del W2 p)
/-- its list, that will be changed -/
def gLcO (gi : GI) (gg : GG) (gt : GT) (ge : GE) (vs : List Nat) : GE := fun δ W Q => gi δ W fun items W1 => ∀ p, W1 p = none → lcGo p gg gt ge (wipeD δ vs) items (put W1 p (.lst [])) fun W2 => Q (.ref p) W2
def gYes : GT := fun _ W Q => Q true W
def SimG (W0 : Wd) (H0 : Hp) (vs : List Nat) (g : TG) (gg : GG) : Prop := ∀ d v δ W σ H Q Qd, At W0 H0 δ W σ H → Is W H d v → gg d δ W Qd → (∀ δ' W' σ' H', Qd δ' W' → At W0 H0 δ' W' σ' H' → Step W H W' H' → L2.wipe σ' vs = L2.wipe σ vs → Q σ' H') → g v σ H Q
theorem simG_name {W0 : Wd} {H0 : Hp} {vs : List Nat} {i : Nat} (h : i ∈ vs) : SimG W0 H0 vs (gName i) (kName i) := fun d v δ W σ H Q Qd at_ i1 q f => f _ _ _ _ q (at_.set _ i1) (Step.refl W H) (wipe_set h)
theorem simG_pair {W0 : Wd} {H0 : Hp} {K : PySem.W.Frag} {vs : List Nat} {i j : Nat} (hi : i ∈ vs) (hj : j ∈ vs) : SimG W0 H0 vs (L2.gTup K 2 (L2.gCons (gName i) (L2.gCons (gName j) L2.gNil))) (kTup 2 (kCons (kName i) (kCons (kName j) kNil))) := by
  intro d v δ W σ H Q Qd at_ i1 q f
  obtain ⟨ds, rfl, hl, x, r, rfl, y, r2, rfl, rfl, q⟩ := q
  cases i1 with
  | tup e1 e2 e3 =>
    cases e3 with
    | cons f1 f2 => cases f2 with
      | cons f2 f3 =>
        cases f3
        exact ⟨_, _, rfl, .inl (.inl e1), rfl, _, _, rfl, _, _, rfl, rfl, f _ _ _ _ q ((at_.set _ f1).set _ f2) (Step.refl W H) (by rw [wipe_set hj, wipe_set hi])⟩
section
variable {X : Cx} {W0 : Wd} {H0 : Hp} {elt tg iter : Expr} {ifs : List Expr} {scope : Scope} {own : List (Str × Nat)} {pos : Pos} {gi : GI} {g : TG} {gg : GG} {gt : GT} {ge : GE}
theorem t_nil : PTs X [] (liftT W0 H0 gYes) := ⟨fun pins s σ H Q I h => pts_nil.run pins s σ H Q I (by
  obtain ⟨δ, W, Qd, at_, q, f⟩ := h
  exact f.here at_.own q)⟩
theorem t_one {c : Expr} (h : DTs W0 H0 X c gt) : PTs X [c] (liftT W0 H0 gt) := pts_one h
theorem lc_to {keep : Bool} (hk : SimG W0 H0 (own.map (·.2)) g gg) : ∀ σ H Q, lift W0 H0 (if keep = true then gLcO gi gg gt ge (own.map (·.2)) else gLc gi gg gt ge (own.map (·.2))) σ H Q →
    tLc (liftI W0 H0 gi) g (liftT W0 H0 gt) (lift W0 H0 ge) (own.map (·.2)) σ H Q := by
  rintro σ H Q ⟨δ, W, Qd, at_, h, fin⟩
  have h' : gi δ W fun items W1 => ∀ p, W1 p = none → lcGo p gg gt ge (wipeD δ (own.map (·.2))) items (put W1 p (.lst [])) fun W2 => if keep = true then Qd (.ref p) W2 else ∃ acc, W2 p = some (.lst acc) ∧ Qd (.lst acc) (del W2 p) := by
    cases keep with
    | true => exact h
    | false => exact h
  clear h
  refine ⟨δ, W, _, at_, h', fun items W1 J H1 q1 s1 o1 it D hD => ?_⟩
  have nD : W1 D = none := o1.new hD
  have sD : Step W1 H1 (put W1 D (.lst [])) (upd H1 D (.lst [])) := Step.put (.inl hD)
  refine ⟨fun i m H' => m = items.length - i ∧ i ≤ items.length ∧ ∃ W', Own W' H' ∧ Step W1 H1 W' H' ∧ lcGo D gg gt ge (wipeD δ (own.map (·.2))) (items.drop i) W' (fun W2 => if keep = true then Qd (.ref D) W2 else ∃ acc, W2 D = some (.lst acc) ∧ Qd (.lst acc) (del W2 D)),
    ⟨items.length, by simp, Nat.zero_le _, _, own_new o1 hD .nil, sD, q1 D nD⟩, ?_⟩
  rintro i m H2 ⟨rfl, hle, W2, o2, s2, q2⟩
  obtain ⟨hstop, hgo⟩ := it W2 H2 s2 o2 i
  by_cases hi : i < items.length
  · right
    obtain ⟨go, yl⟩ := hgo _ (List.getElem?_eq_getElem hi)
    rw [List.drop_eq_getElem_cons hi] at q2
    refine ⟨go, fun H' => ∃ W', Own W' H' ∧ Step W1 H1 W' H' ∧ lcGo D gg gt ge (wipeD δ (own.map (·.2))) (items.drop (i + 1)) W' (fun W2 => if keep = true then Qd (.ref D) W2 else ∃ acc, W2 D = some (.lst acc) ∧ Qd (.lst acc) (del W2 D)), ?_, fun x H3 hy => ?_⟩
    · rintro H' ⟨W', o', s', q'⟩
      exact ⟨items.length - (i + 1), by omega, rfl, by omega, W', o', s', q'⟩
    · obtain ⟨s3, o3, i3⟩ := yl x H3 hy
      have a3 : At W0 H0 (wipeD δ (own.map (·.2))) W2 (L2.wipe σ (own.map (·.2))) H3 := (at_.go (s1.trans (s2.trans s3)) o3).wipe _
      refine hk _ x _ W2 _ H3 _ _ a3 i3 q2 fun δ4 W4 σ4 H4 q4 a4 s4 w4 => ⟨by rw [w4, wipe_again _ fun _ h => h], ?_⟩
      refine ⟨δ4, W4, _, a4, q4, fun b W5 H5 q5 s5 o5 => ?_⟩
      have s15 : Step W1 H1 W5 H5 := ((s2.trans s3).trans s4).trans s5
      cases b with
      | true =>
        rw [if_pos rfl] at q5
        refine iteT ?_
        refine ⟨δ4, W5, _, a4.go s5 o5, q5, ?_⟩
        rintro d W6 v H6 ⟨acc, ea, hl, q6⟩ s6 o6 i6
        obtain ⟨vs, e1, e2⟩ := o6 D _ ea
        have h6 : H6 D = none ∨ W6 D ≠ none := .inr (by rw [ea]; simp)
        refine ⟨vs, e1, by rw [← e2.length]; exact hl, put W6 D (.lst (acc ++ [d])), o6.put h6 ⟨vs ++ [v], upd_same, (e2.append (.cons i6 .nil)).mono (Step.put h6)⟩, (s15.trans s6).trans (Step.put h6), q6⟩
      | false =>
        rw [if_neg Bool.false_ne_true] at q5
        exact iteF ⟨W5, o5, s15, q5⟩
  · left
    refine ⟨hstop (by omega), ?_⟩
    rw [List.drop_of_length_le (by omega)] at q2
    have q2' : if keep = true then Qd (.ref D) W2 else ∃ acc, W2 D = some (.lst acc) ∧ Qd (.lst acc) (del W2 D) := q2
    cases keep with
    | true =>
      rw [if_pos rfl] at q2'
      exact fin _ _ _ _ q2' (s1.trans s2) o2 (.ref D)
    | false =>
      rw [if_neg Bool.false_ne_true] at q2'
      obtain ⟨acc, ea, q3⟩ := q2'
      obtain ⟨vs, e1, e2⟩ := o2 D _ ea
      exact fin _ _ _ _ q3 ((s1.trans s2).trans (Step.del D)) (o2.del D) (.lst e1 del_same (e2.mono (Step.del D)))
theorem d_lc (hc : X.calm = true) (hN : X.N.Nodup) (hi : DI W0 H0 X tg iter gi) (ok : BlkOk X.N X.env.scope scope own) (hk : SimG W0 H0 (own.map (·.2)) g gg)
    (hg : ∀ (s : Shared) (H : Hp) (C : Addr) (cl : List (Str × Addr)) (fp : List Addr), PG (X.blk s H scope (compEnvC scope cl C X.env) fp) tg g) (ht : ∀ (s : Shared) (H : Hp) (C : Addr) (cl : List (Str × Addr)) (fp : List Addr), PTs (X.blk s H scope (compEnvC scope cl C X.env) fp) ifs (liftT W0 H0 gt))
    (he : ∀ (s : Shared) (H : Hp) (C : Addr) (cl : List (Str × Addr)) (fp : List Addr), DE W0 H0 (X.blk s H scope (compEnvC scope cl C X.env) fp) elt ge) (hs : ∀ x, foldedSetIterable iter X.env x = pure x := by intro _; rfl) :
    DE W0 H0 X (.ListComp elt [⟨tg, iter, ifs, 0⟩] scope pos) (gLc gi gg gt ge (own.map (·.2))) := (pe_lc hc hN hi ok hg ht he hs).to (lc_to (keep := false) hk)
theorem d_lcO (hc : X.calm = true) (hN : X.N.Nodup) (hi : DI W0 H0 X tg iter gi) (ok : BlkOk X.N X.env.scope scope own) (hk : SimG W0 H0 (own.map (·.2)) g gg)
    (hg : ∀ (s : Shared) (H : Hp) (C : Addr) (cl : List (Str × Addr)) (fp : List Addr), PG (X.blk s H scope (compEnvC scope cl C X.env) fp) tg g) (ht : ∀ (s : Shared) (H : Hp) (C : Addr) (cl : List (Str × Addr)) (fp : List Addr), PTs (X.blk s H scope (compEnvC scope cl C X.env) fp) ifs (liftT W0 H0 gt))
    (he : ∀ (s : Shared) (H : Hp) (C : Addr) (cl : List (Str × Addr)) (fp : List Addr), DE W0 H0 (X.blk s H scope (compEnvC scope cl C X.env) fp) elt ge) (hs : ∀ x, foldedSetIterable iter X.env x = pure x := by intro _; rfl) :
    DE W0 H0 X (.ListComp elt [⟨tg, iter, ifs, 0⟩] scope pos) (gLcO gi gg gt ge (own.map (·.2))) := (pe_lc hc hN hi ok hg ht he hs).to (lc_to (keep := true) hk)
theorem s_setLc {i : Nat} {y : Str} {py spos : Pos} (hc : X.calm = true) (hN : X.N.Nodup) (hy : X.N[i]? = some y) (hyl : X.env.scope.names.lookup y = some .local)
    (hsw : swapsWith (.ListComp elt [⟨tg, iter, ifs, 0⟩] scope pos) (some (.Name y py)) spos.line X.env = pure true) (hi : DI W0 H0 X tg iter gi) (ok : BlkOk X.N X.env.scope scope own) (hk : SimG W0 H0 (own.map (·.2)) g gg)
    (hg : ∀ (s : Shared) (H : Hp) (C : Addr) (cl : List (Str × Addr)) (fp : List Addr), PG (X.blk s H scope (compEnvC scope cl C X.env) fp) tg g) (ht : ∀ (s : Shared) (H : Hp) (C : Addr) (cl : List (Str × Addr)) (fp : List Addr), PTs (X.blk s H scope (compEnvC scope cl C X.env) fp) ifs (liftT W0 H0 gt))
    (he : ∀ (s : Shared) (H : Hp) (C : Addr) (cl : List (Str × Addr)) (fp : List Addr), DE W0 H0 (X.blk s H scope (compEnvC scope cl C X.env) fp) elt ge) (hs : ∀ x, foldedSetIterable iter X.env x = pure x := by intro _; rfl) :
    DS W0 H0 X (.Assign [.Name y py] (.ListComp elt [⟨tg, iter, ifs, 0⟩] scope pos) spos) (hAsg (gLc gi gg gt ge (own.map (·.2))) (kName i)) := by
  refine (ps_setLc hc hN hy hyl hsw hi ok hg ht he hs).to ?_
  rintro D σ H ⟨δ, W, G, at_, q, f⟩
  refine lc_to (keep := false) hk σ H _ ⟨δ, W, _, at_, q, fun d W1 v H1 q1 s o i => ?_⟩
  exact f.nx _ _ _ _ q1 ((at_.go s o).set _ i) s
end

/-- what is wanted of an error: its class, its value, the owned objects -/
abbrev XD := Addr → Option D → Wd → Prop
abbrev DSp := List D → Wd → (D → Wd → Prop) → XD → Prop
structure FinX (W : Wd) (H : Hp) (E : XK) (Ed : XD) : Prop where
  plain : ∀ C W' H', Ed C none W' → Step W H W' H' → Own W' H' → E (.ref C) none H'
  value : ∀ C x W' H' a v, Ed C (some x) W' → Step W H W' H' → Own W' H' → H' a = some (.xd [("place", v)]) → W' a = none → Is W' H' x v → E (.ref C) (some a) H'
abbrev XD0 : XD := fun _ _ _ => False
theorem FinX.no {W : Wd} {H : Hp} {E : XK} : FinX W H E XD0 := ⟨fun _ _ _ h => h.elim, fun _ _ _ _ _ _ h => h.elim⟩
theorem FinX.go {W W1 : Wd} {H H1 : Hp} {E : XK} {Ed : XD} (f : FinX W H E Ed) (s : Step W H W1 H1) : FinX W1 H1 E Ed :=
  ⟨fun C W' H' q t o => f.plain C W' H' q (s.trans t) o, fun C x W' H' a v q t o e w i => f.value C x W' H' a v q (s.trans t) o e w i⟩
def liftSp (sp : DSp) : Sp := fun vs H Q E => ∃ ds W Qd Ed, IsL W H ds vs ∧ Own W H ∧ sp ds W Qd Ed ∧ Fin W H Q Qd ∧ FinX W H E Ed
def gCall (sp : DSp) (Ed : XD) (ga : GA) : GE := fun δ W Q => ga δ W fun ds W1 => sp ds W1 Q Ed
def gMeth (C : Addr) (m : Str) (sp : DSp) (Ed : XD) (ga : GE) (gs : GA) : GE := fun δ W Q => ga δ W fun x W1 => ∃ a fs, x = .ref a ∧ W1 a = some (.ins C fs) ∧ fs.lookup m = none ∧ gs δ W1 fun ds W2 => sp (x :: ds) W2 Q Ed
def gMake (C : Addr) (sp : DSp) (Ed : XD) (ga : GA) : GE := fun δ W Q => ga δ W fun ds W1 => ∀ x, W1 x = none → sp (.ref x :: ds) (put W1 x (.ins C [])) (fun d W2 => d = .non ∧ Q (.ref x) W2) Ed
theorem lookup_is {W : Wd} {H : Hp} {f : Str} : ∀ {fs : List (Str × D)} {vs : List (Str × V)}, FsIs W H fs vs → (fs.lookup f = none → vs.lookup f = none) ∧ ∀ d, fs.lookup f = some d → ∃ v, vs.lookup f = some v ∧ Is W H d v
  | _, _, .nil => ⟨fun _ => rfl, fun _ e => by cases e⟩
  | (a, d) :: _, (b, v) :: _, .cons h t => by
    obtain ⟨e, i⟩ := h
    simp only at e i
    subst e
    obtain ⟨t1, t2⟩ := lookup_is (f := f) t
    rw [List.lookup_cons, List.lookup_cons]
    split
    · exact ⟨fun e => (nomatch e), fun x e => by cases e; exact ⟨v, rfl, i⟩⟩
    · exact ⟨t1, t2⟩
section
variable {X : Cx} {W0 : Wd} {H0 : Hp} {CX : CXT} {k : Nat} {f C : Addr} {fd : FuncData} {ps : List Str} {sp : DSp} {E : XK} {Ed : XD} {x m : Str} {p pos apos : Pos} {e o : Expr} {es : List Expr} {ga : GE} {gs : GA}
theorem call_to (hE : FinX W0 H0 E Ed) : ∀ σ H Q, lift W0 H0 (gCall sp Ed gs) σ H Q → tCall (liftSp sp) [] E (liftA W0 H0 gs) σ H Q := by
  rintro σ H Q ⟨δ, W, Qd, at_, h, fin⟩
  refine ⟨δ, W, _, at_, h, fun ds W1 vs H1 q s o i => ?_⟩
  show liftSp sp (vs ++ []) H1 Q E
  rw [List.append_nil]
  exact ⟨ds, W1, Qd, Ed, i, o, q, fin.go s, hE.go (at_.st.trans s)⟩
theorem d_call (F : FnOk X.prog X.w X.K X.mg X.base CX k f fd ps (liftSp sp)) (hr : Room k X.A) (hg : Gl X x) (hm : X.mg x = some (.ref f)) (hk : PySem.W.keepIn X.K (.ref f) = true) (hb : Binds X.K fd ps []) (hx : Passes CX X E) (hE : FinX W0 H0 E Ed)
    (ha : DA W0 H0 X (e :: es) gs) (hdb : (x == ("__debug__" : Str)) = false := by decide) (he : starEach (e :: es) X.env = (false, eval e X.env) :: starEach es X.env := by rfl) (hpl : (backTo pos (starEach es X.env)).any (·.1) = false := by rfl) :
    DE W0 H0 X (.Call (.Name x p) (e :: es) [] pos) (gCall sp Ed gs) := (pe_call F hr hg hm hk hb .nil hx ha hdb he hpl).to (call_to hE)
theorem meth_to (hE : FinX W0 H0 E Ed) : ∀ σ H Q, lift W0 H0 (gMeth C m sp Ed ga gs) σ H Q → tMeth C m (liftSp sp) [] E (lift W0 H0 ga) (liftA W0 H0 gs) σ H Q := by
  rintro σ H Q ⟨δ, W, Qd, at_, h, fin⟩
  refine ⟨δ, W, _, at_, h, ?_⟩
  rintro x W1 v H1 ⟨a, fs, rfl, ea, hl, q⟩ s o i
  cases i
  obtain ⟨dx, vs, e1, e2⟩ := o a _ ea
  refine ⟨a, dx, vs, rfl, e1, (lookup_is e2).1 hl, δ, W1, _, at_.go s o, q, fun ds W2 us H2 q2 s2 o2 i2 => ?_⟩
  show liftSp sp (.ref a :: (us ++ [])) H2 Q E
  rw [List.append_nil]
  exact ⟨_, W2, Qd, Ed, .cons (.ref a) i2, o2, q2, fin.go (s.trans s2), hE.go ((at_.st.trans s).trans s2)⟩
theorem d_meth {pl : Sem Bool} (he : DE W0 H0 X o ga) (c : Cls X.K C) (hm : Meth X.K C m f) (F : FnOk X.prog X.w X.K X.mg X.base CX k f fd ps (liftSp sp)) (hr : Room k X.A) (hb : Binds X.K fd ps []) (hx : Passes CX X E) (hE : FinX W0 H0 E Ed) (ha : DA W0 H0 X (e :: es) gs)
    (hst : starEach (e :: es) X.env = (false, eval e X.env) :: starEach es X.env := by rfl) (hpl : (backTo pos (starEach es X.env)).any (·.1) = false := by rfl)
    (ht : eval (.Call (.Attribute o m apos) (e :: es) [] pos) X.env = (do
      let ov ← eval o X.env
      standAt apos.atName
      let (f, first) ← holding [ov] (getMethod ov m pl)
      callWith pos f first (backTo pos (starEach (e :: es) X.env)) (backToKw pos (keywordEach [] X.env))) := by rfl) :
    DE W0 H0 X (.Call (.Attribute o m apos) (e :: es) [] pos) (gMeth C m sp Ed ga gs) := (pe_meth he c hm F hr hb .nil hx ha hst hpl ht).to (meth_to hE)
theorem d_meth0 {pl : Sem Bool} (he : DE W0 H0 X o ga) (c : Cls X.K C) (hm : Meth X.K C m f) (F : FnOk X.prog X.w X.K X.mg X.base CX k f fd ps (liftSp sp)) (hr : Room k X.A) (hb : Binds X.K fd ps []) (hx : Passes CX X E) (hE : FinX W0 H0 E Ed)
    (ht : eval (.Call (.Attribute o m apos) [] [] pos) X.env = (do
      let ov ← eval o X.env
      standAt apos.atName
      let (f, first) ← holding [ov] (getMethod ov m pl)
      callWith pos f first (backTo pos (starEach [] X.env)) (backToKw pos (keywordEach [] X.env))) := by rfl) :
    DE W0 H0 X (.Call (.Attribute o m apos) [] [] pos) (gMeth C m sp Ed ga gNil) := (pe_meth0 he c hm F hr hb .nil hx ht).to fun σ H Q h => by
  have h2 := meth_to hE σ H Q h
  obtain ⟨δ, W, Qd, at_, q, fin⟩ := h2
  refine ⟨δ, W, Qd, at_, q, fun d W' v H' q' s o i => ?_⟩
  obtain ⟨a, dx, fs, e1, e2, e3, q3⟩ := fin d W' v H' q' s o i
  obtain ⟨δ2, W2, Qd2, at2, q4, fin2⟩ := q3
  exact ⟨a, dx, fs, e1, e2, e3, fin2 [] W2 [] H' q4 (Step.refl _ _) at2.own .nil⟩
theorem make_to (hE : FinX W0 H0 E Ed) : ∀ σ H Q, lift W0 H0 (gMake C sp Ed gs) σ H Q → tMake C (liftSp sp) [] E (liftA W0 H0 gs) σ H Q := by
  rintro σ H Q ⟨δ, W, Qd, at_, h, fin⟩
  refine ⟨δ, W, _, at_, h, fun ds W1 vs H1 q s o i => ?_⟩
  intro x dx nx nd ne
  rw [List.append_nil]
  have nW : W1 x = none := o.new nx
  have s1 : Step W1 H1 W1 (upd H1 dx (.own x)) := Step.new nd
  have o1 : Own W1 (upd H1 dx (.own x)) := o.laid nd
  have nx1 : (upd H1 dx (.own x)) x = none := by rw [upd_ne ne.symm]; exact nx
  have s2 : Step W1 (upd H1 dx (.own x)) (put W1 x (.ins C [])) (upd (upd H1 dx (.own x)) x (.ins C dx [])) := Step.put (.inl nx1)
  have o2 : Own (put W1 x (.ins C [])) (upd (upd H1 dx (.own x)) x (.ins C dx [])) := o1.put (.inl nx1) ⟨dx, [], upd_same, .nil⟩
  have s02 := s1.trans s2
  refine ⟨_, _, _, Ed, .cons (.ref x) (i.mono s02), o2, q x nW, ?_, hE.go ((at_.st.trans s).trans s02)⟩
  rintro d W' v H' ⟨rfl, q'⟩ s' o' i'
  cases i'
  exact ⟨rfl, fin _ _ _ _ q' ((s.trans s02).trans s') o' (.ref x)⟩
theorem d_make (M : Mk X.K C f) (F : FnOk X.prog X.w X.K X.mg X.base CX k f fd ps (liftSp sp)) (hr : Room (k + 1) X.A) (hg : Gl X x) (hm : X.mg x = some (.ref C)) (hb : Binds X.K fd ps []) (hx : Passes CX X E) (hE : FinX W0 H0 E Ed)
    (ha : DA W0 H0 X (e :: es) gs) (hdb : (x == ("__debug__" : Str)) = false := by decide) (he : starEach (e :: es) X.env = (false, eval e X.env) :: starEach es X.env := by rfl) (hpl : (backTo pos (starEach es X.env)).any (·.1) = false := by rfl) :
    DE W0 H0 X (.Call (.Name x p) (e :: es) [] pos) (gMake C sp Ed gs) := (pe_make M F hr hg hm hb .nil hx ha hdb he hpl).to (make_to hE)
end

def putG (f : Str) (v : D) : List (Str × D) → List (Str × D)
  | [] => [(f, v)]
  | (g, u) :: r => if g = f then (g, v) :: r else (g, u) :: putG f v r
theorem putG_is {W : Wd} {H : Hp} {f : Str} {d : D} {v : V} (i : Is W H d v) : ∀ {fs : List (Str × D)} {vs : List (Str × V)}, FsIs W H fs vs → FsIs W H (putG f d fs) (putF f v vs)
  | _, _, .nil => .cons ⟨rfl, i⟩ .nil
  | (a, x) :: _, (b, y) :: _, .cons h t => by
    obtain ⟨e, j⟩ := h
    simp only at e j
    subst e
    unfold putG putF
    split
    · exact .cons ⟨rfl, i⟩ t
    · exact .cons ⟨rfl, j⟩ (putG_is i t)
theorem FsIs.length {κ : Type} {W : Wd} {H : Hp} {fs : List (κ × D)} {vs : List (κ × V)} (h : FsIs W H fs vs) : fs.length = vs.length := Paired.length h
def gFld (C : Addr) (f : Str) (ga : GE) : GE := fun δ W Q => ga δ W fun x W1 => ∃ a fs d, x = .ref a ∧ W1 a = some (.ins C fs) ∧ fs.lookup f = some d ∧ Q d W1
def hFld (C : Addr) (f : Str) (ga gv : GE) : GS := fun G δ W => gv δ W fun y W1 => ga δ W1 fun x W2 => ∃ a fs, x = .ref a ∧ W2 a = some (.ins C fs) ∧ fs.length < 1000 ∧ G.nx δ (put W2 a (.ins C (putG f y fs)))
section
variable {X : Cx} {W0 : Wd} {H0 : Hp} {C : Addr} {f : Str} {o e value : Expr} {pos pos' : Pos} {ga gv : GE}
theorem d_fld (he : DE W0 H0 X e ga) (c : Cls X.K C) (n : NoAttr X.K C f) (hb : attributeBase e f X.env (eval e X.env) = eval e X.env := by rfl) : DE W0 H0 X (.Attribute e f pos) (gFld C f ga) := by
  refine (pe_fld he hb).to ?_
  rintro σ H Q ⟨δ, W, Qd, at_, h, fin⟩
  refine ⟨δ, W, _, at_, h, ?_⟩
  rintro x W1 v H1 ⟨a, fs, d, rfl, ea, hl, q⟩ s ow i
  cases i
  obtain ⟨dx, vs, e1, e2⟩ := ow a _ ea
  obtain ⟨u, h1, h2⟩ := (lookup_is e2).2 d hl
  exact ⟨a, C, dx, vs, u, rfl, e1, c, n, h1, (fin.go s).here ow q h2⟩
theorem s_fld (ha : DE W0 H0 X o ga) (hv : DE W0 H0 X value gv) (c : Cls X.K C) (n : NoAttr X.K C f) (hs : swapsWith value (some (.Attribute o f pos')) pos.line X.env = pure false := by rfl) : DS W0 H0 X (.Assign [.Attribute o f pos'] value pos) (hFld C f ga gv) := by
  refine (ps_fld ha hv hs).to ?_
  rintro D σ H ⟨δ, W, G, at_, q, fin⟩
  refine ⟨δ, W, _, at_, q, fun y W1 u H1 q1 s1 o1 i1 => ⟨δ, W1, _, at_.go s1 o1, q1, ?_⟩⟩
  rintro x W2 v H2 ⟨a, fs, rfl, ea, hl, q2⟩ s2 o2 i2
  cases i2
  obtain ⟨dx, vs, e1, e2⟩ := o2 a _ ea
  have h6 : H2 a = none ∨ W2 a ≠ none := .inr (by rw [ea]; simp)
  have sp : Step W2 H2 (put W2 a (.ins C (putG f y fs))) (upd H2 a (.ins C dx (putF f u vs))) := Step.put h6
  have op : Own (put W2 a (.ins C (putG f y fs))) (upd H2 a (.ins C dx (putF f u vs))) := o2.put h6 ⟨dx, _, upd_same, putG_is ((i1.mono s2).mono sp) (e2.mono sp)⟩
  refine ⟨a, C, dx, vs, rfl, e1, c, n, by rw [← e2.length]; exact hl, ?_⟩
  exact fin.nx _ _ _ _ q2 (at_.go ((s1.trans s2).trans sp) op) ((s1.trans s2).trans sp)
end

/-- what stands there may be told so as well -/
def Conv (d : D) (W : Wd) (d' : D) (W' : Wd) : Prop := ∀ H v, Own W H → Is W H d v → Own W' H ∧ Is W' H d' v ∧ Step W H W' H
theorem Conv.refl (d : D) (W : Wd) : Conv d W d W := fun H v o i => ⟨o, i, Step.refl W H⟩
theorem Conv.trans {d d1 d2 : D} {W W1 W2 : Wd} (a : Conv d W d1 W1) (b : Conv d1 W1 d2 W2) : Conv d W d2 W2 := fun H v o i => by
  obtain ⟨o1, i1, s1⟩ := a H v o i
  obtain ⟨o2, i2, s2⟩ := b H v o1 i1
  exact ⟨o2, i2, s1.trans s2⟩
theorem Conv.drop (d : D) (W : Wd) (p : Addr) : Conv d W d (del W p) := fun H v o i => ⟨o.del p, i.mono (Step.del p), Step.del p⟩
/-- a list of its own is handed out -/
theorem Conv.lst {W : Wd} {p : Addr} {ds : List D} (h : W p = some (.lst ds)) : Conv (.ref p) W (.lst ds) (del W p) := fun H v o i => by
  cases i
  obtain ⟨vs, e1, e2⟩ := o p _ h
  exact ⟨o.del p, .lst e1 del_same (e2.mono (Step.del p)), Step.del p⟩
def ConvL (ds : List D) (W : Wd) (ds' : List D) (W' : Wd) : Prop := ∀ H vs, Own W H → IsL W H ds vs → Own W' H ∧ IsL W' H ds' vs ∧ Step W H W' H
theorem ConvL.refl (ds : List D) (W : Wd) : ConvL ds W ds W := fun H v o i => ⟨o, i, Step.refl W H⟩
theorem ConvL.trans {d d1 d2 : List D} {W W1 W2 : Wd} (a : ConvL d W d1 W1) (b : ConvL d1 W1 d2 W2) : ConvL d W d2 W2 := fun H v o i => by
  obtain ⟨o1, i1, s1⟩ := a H v o i
  obtain ⟨o2, i2, s2⟩ := b H v o1 i1
  exact ⟨o2, i2, s1.trans s2⟩
theorem ConvL.head {W W' : Wd} {d d' : D} (ds : List D) (h : Conv d W d' W') : ConvL (d :: ds) W (d' :: ds) W' := fun H v o i => by
  cases i with
  | cons i1 i2 =>
    obtain ⟨o1, j1, s1⟩ := h H _ o i1
    exact ⟨o1, .cons j1 (i2.mono s1), s1⟩
theorem ConvL.tail {W W' : Wd} {ds ds' : List D} (d : D) (h : ConvL ds W ds' W') : ConvL (d :: ds) W (d :: ds') W' := fun H v o i => by
  cases i with
  | cons i1 i2 =>
    obtain ⟨o1, j1, s1⟩ := h H _ o i2
    exact ⟨o1, .cons (i1.mono s1) j1, s1⟩
/-- .. within a tuple -/
theorem Conv.tup {W W' : Wd} {ds ds' : List D} (h : ConvL ds W ds' W') : Conv (.tup ds) W (.tup ds') W' := fun H v o i => by
  cases i with
  | tup e1 e2 e3 =>
    obtain ⟨o1, j1, s1⟩ := h H _ o e3
    exact ⟨o1, .tup e1 (s1.dom _ _ e1 nt_tup e2) j1, s1⟩
def done (Q : D → Wd → Prop) : D → Wd → Prop := fun d W => ∃ d' W', Conv d W d' W' ∧ Q d' W'
theorem done.here {Q : D → Wd → Prop} {d : D} {W : Wd} (h : Q d W) : done Q d W := ⟨d, W, Conv.refl d W, h⟩
def dstart (N : List Str) (ds : List D) : Dt := ds.map some ++ List.replicate (N.length - ds.length) none
theorem start_at {N : List Str} {W : Wd} {H : Hp} {ds : List D} {vs : List V} (o : Own W H) (i : IsL W H ds vs) : At W H (dstart N ds) W (L2.start N vs) H := by
  refine ⟨o, ?_, fun j d e => ?_, Step.refl W H⟩
  · unfold dstart L2.start
    rw [List.length_append, List.length_append, List.length_map, List.length_map, List.length_replicate, List.length_replicate, i.length]
  · unfold dstart at e
    unfold L2.start
    by_cases hj : j < ds.length
    · rw [List.getElem?_append_left (by rw [List.length_map]; exact hj), List.getElem?_map] at e
      rw [List.getElem?_append_left (by rw [List.length_map, ← i.length]; exact hj), List.getElem?_map]
      cases e2 : ds[j]? with
      | none => rw [e2] at e; cases e
      | some x =>
        rw [e2] at e
        cases e
        obtain ⟨v, e3, i3⟩ := i.get e2
        exact ⟨v, by rw [e3]; rfl, i3⟩
    · rw [List.getElem?_append_right (by rw [List.length_map]; omega)] at e
      have h := List.getElem?_eq_some_iff.mp e
      obtain ⟨h1, h2⟩ := h
      rw [List.getElem_replicate] at h2
      cases h2
section
variable {P : Program} {w : World} {K : PySem.W.Frag} {mg : Str → Option Value} {base : Heap}
theorem fin_done {W0 : Wd} {H : Hp} {Q : VK} {E : XK} {Qd : D → Wd → Prop} (fin : Fin W0 H Q Qd) : FinS W0 H W0 H { nx := fun _ H' => Q .non H', rt := Q } { nx := fun _ W => done Qd .non W, rt := done Qd } where
  nx := fun δ W' σ H' q a s => by
    obtain ⟨d', W2, c, q⟩ := q
    obtain ⟨o2, i2, s2⟩ := c H' .non a.own .non
    exact fin d' W2 .non H' q (s.trans s2) o2 i2
  rt := fun d W' v H' q s o i => by
    obtain ⟨d', W2, c, q⟩ := q
    obtain ⟨o2, i2, s2⟩ := c H' v o i
    exact fin d' W2 v H' q (s.trans s2) o2 i2
  bk := fun _ _ _ _ h => h.elim
  ct := fun _ _ _ _ h => h.elim
/-- a def that raises nothing -/
theorem _root_.L2.Fun.dok {x qual : Str} {st : Stmt} {f : Addr} {fd : FuncData} {N ps : List Str} {k : Nat} {sp : DSp} (F : Fun K x qual st f fd) (S : FnScope N ps (defScope st)) (len : ∀ ds W Qd Ed, sp ds W Qd Ed → ds.length = ps.length)
    (hbody : ∀ (cdv : Value) (A : Around) (outer : List Env) (s : Shared) (H : Hp) (E : XK) (W0 : Wd) (ds : List D) (Qd : D → Wd → Prop) (Ed : XD), Room k (A.deeper (envOfC qual (defScope st) s.heap.objs.size f cdv)) → sp ds W0 Qd Ed →
      ∃ g, DSs W0 H (cxOf CX0 P w K mg base N qual (defScope st) f cdv A outer s H E).nox (defBody st) g ∧ g { nx := fun _ W => done Qd .non W, rt := done Qd } (dstart N ds) W0) : FnOk P w K mg base CX0 (k + 1) f fd ps (liftSp sp) := by
  refine F.ok S (fun vs H Q E h => ?_) (fun cdv A outer s H vs Q E hr h => ?_)
  · obtain ⟨ds, W, Qd, Ed, i, _, q, _⟩ := h
    rw [← i.length]
    exact len _ _ _ _ q
  · obtain ⟨ds, W, Qd, Ed, i, o, q, fin, fx⟩ := h
    obtain ⟨g, hg, r⟩ := hbody cdv A outer s H E W ds Qd Ed hr q
    exact ⟨_, hg, _, W, _, start_at o i, r, fin_done (E := E) fin⟩
/-- a def that may raise -/
theorem _root_.L2.Fun.dokX {x qual : Str} {st : Stmt} {f : Addr} {fd : FuncData} {N ps : List Str} {k : Nat} {sp : DSp} (F : Fun K x qual st f fd) (S : FnScope N ps (defScope st)) (len : ∀ ds W Qd Ed, sp ds W Qd Ed → ds.length = ps.length)
    (hbody : ∀ (cdv : Value) (A : Around) (outer : List Env) (s : Shared) (H : Hp) (E : XK) (W0 : Wd) (ds : List D) (Qd : D → Wd → Prop) (Ed : XD), Room k (A.deeper (envOfC qual (defScope st) s.heap.objs.size f cdv)) → FinX W0 H E Ed → sp ds W0 Qd Ed →
      ∃ g, DSs W0 H (cxOf (L2.CX P w) P w K mg base N qual (defScope st) f cdv A outer s H E) (defBody st) g ∧ g { nx := fun _ W => done Qd .non W, rt := done Qd } (dstart N ds) W0) : FnOk P w K mg base (L2.CX P w) (k + 1) f fd ps (liftSp sp) := by
  refine F.okX S (fun vs H Q E h => ?_) (fun cdv A outer s H vs Q E hr h => ?_)
  · obtain ⟨ds, W, Qd, Ed, i, _, q, _⟩ := h
    rw [← i.length]
    exact len _ _ _ _ q
  · obtain ⟨ds, W, Qd, Ed, i, o, q, fin, fx⟩ := h
    obtain ⟨g, hg, r⟩ := hbody cdv A outer s H E W ds Qd Ed hr fx q
    exact ⟨_, hg, _, W, _, start_at o i, r, fin_done (E := E) fin⟩
/-- raise C('..') -/
def hRaise (C : Addr) (Ed : XD) : GS := fun _ _ W => Ed C none W
theorem s_raise {X : Cx} {W0 : Wd} {H0 : Hp} {E : XK} {Ed : XD} {C : Addr} {e : Expr} {pos : Pos} (hc : X.calm = true) (tk : Takes X (fun cls d _ H => E cls d H)) (he : PMk X e (fun _ H Q => Q (.ref C) none H)) (hE : FinX W0 H0 E Ed) : DS W0 H0 X (.Raise (some e) none pos) (hRaise C Ed) := by
  refine (ps_raise hc tk he).to ?_
  rintro D σ H ⟨δ, W, G, at_, q, f⟩
  exact hE.plain _ _ _ q at_.st at_.own
end
end DL
end
section
set_option maxRecDepth 100000
set_option maxHeartbeats 2000000
namespace DL
open PySem PySem.Spec PyProof.Rows L2

def fI (C : Int → Int → Prop) (g : Int → Int → D) : GR2 := fun x y W Q => ∃ i j, x = .int i ∧ y = .int j ∧ C i j ∧ Q (g i j) W
def fI0 (g : Int → Int → D) : GR2 := fun x y W Q => ∃ i j, x = .int i ∧ y = .int j ∧ Q (g i j) W
def fU (g : Int → D) : GR1 := fun x W Q => ∃ i, x = .int i ∧ Q (g i) W
theorem sim_I0 {g : Int → Int → V} {g' : Int → Int → D} (h : ∀ W H i j, Is W H (g' i j) (g i j)) : SimR (rI0 g) (fI0 g') := by
  rintro x y W H Q v u Qd o i1 i2 ⟨i, j, rfl, rfl, q⟩ fin
  cases i1
  cases i2
  exact ⟨i, j, rfl, rfl, fin.here o q (h W H i j)⟩
theorem sim_I {C : Int → Int → Prop} {g : Int → Int → V} {g' : Int → Int → D} (h : ∀ W H i j, Is W H (g' i j) (g i j)) : SimR (rI C g) (fI C g') := by
  rintro x y W H Q v u Qd o i1 i2 ⟨i, j, rfl, rfl, c, q⟩ fin
  cases i1
  cases i2
  exact ⟨i, j, rfl, rfl, c, fin.here o q (h W H i j)⟩
theorem sim_U {g : Int → V} {g' : Int → D} (h : ∀ W H i, Is W H (g' i) (g i)) : SimU (rU g) (fU g') := by
  rintro x W H Q v Qd o i1 ⟨i, rfl, q⟩ fin
  cases i1
  exact ⟨i, rfl, fin.here o q (h W H i)⟩
abbrev fAdd : GR2 := fI0 fun i j => .int (i + j)
abbrev fSub : GR2 := fI0 fun i j => .int (i - j)
abbrev fMul : GR2 := fI CMulW fun i j => .int (i * j)
abbrev fMod : GR2 := fI (fun _ j => 0 < j) fun i j => .int (i % j)
abbrev fDiv : GR2 := fI CDivW fun i j => .int (i / j)
abbrev fPow : GR2 := fI CPow fun i j => .int (i ^ j.toNat)
abbrev fLt : GR2 := fI0 fun i j => .bl (decide (i < j))
abbrev fLe : GR2 := fI0 fun i j => .bl (decide (i ≤ j))
abbrev fGt : GR2 := fI0 fun i j => .bl (decide (j < i))
abbrev fGe : GR2 := fI0 fun i j => .bl (decide (j ≤ i))
abbrev fNeg : GR1 := fU fun i => .int (-i)
theorem s_add : SimR (rI0 fun i j => .int (i + j)) fAdd := sim_I0 fun _ _ _ _ => .int _
theorem s_sub : SimR (rI0 fun i j => .int (i - j)) fSub := sim_I0 fun _ _ _ _ => .int _
theorem s_mul : SimR (rI CMulW fun i j => .int (i * j)) fMul := sim_I fun _ _ _ _ => .int _
theorem s_mod : SimR (rI (fun _ j => 0 < j) fun i j => .int (i % j)) fMod := sim_I fun _ _ _ _ => .int _
theorem s_div : SimR (rI CDivW fun i j => .int (i / j)) fDiv := sim_I fun _ _ _ _ => .int _
theorem s_pow : SimR (rI CPow fun i j => .int (i ^ j.toNat)) fPow := sim_I fun _ _ _ _ => .int _
theorem s_lt : SimR (rI0 fun i j => .bl (decide (i < j))) fLt := sim_I0 fun _ _ _ _ => .bl _
theorem s_le : SimR (rI0 fun i j => .bl (decide (i ≤ j))) fLe := sim_I0 fun _ _ _ _ => .bl _
theorem s_gt : SimR (rI0 fun i j => .bl (decide (j < i))) fGt := sim_I0 fun _ _ _ _ => .bl _
theorem s_ge : SimR (rI0 fun i j => .bl (decide (j ≤ i))) fGe := sim_I0 fun _ _ _ _ => .bl _
theorem s_neg : SimU (rU fun i => .int (-i)) fNeg := sim_U fun _ _ _ => .int _
def fCatS : GR2 := fun x y W Q => ∃ i j, x = .str i ∧ y = .str j ∧ i.length + j.length ≤ sizeLine ∧ Q (.str (i ++ j)) W
theorem s_catS : SimR (fun x y H Q => ∃ i j, x = .str i ∧ y = .str j ∧ i.length + j.length ≤ sizeLine ∧ Q (.str (i ++ j)) H) fCatS := by
  rintro x y W H Q v u Qd o i1 i2 ⟨i, j, rfl, rfl, c, q⟩ fin
  cases i1
  cases i2
  exact ⟨i, j, rfl, rfl, c, fin.here o q (.str _)⟩
def fCatL : GR2 := fun x y W Q => ∃ a b, listOf W x = some a ∧ listOf W y = some b ∧ a.length + b.length ≤ sizeLine ∧ Q (.lst (a ++ b)) W
def fCatO : GR2 := fun x y W Q => ∃ a b, listOf W x = some a ∧ listOf W y = some b ∧ a.length + b.length ≤ sizeLine ∧ ∀ p, W p = none → Q (.ref p) (put W p (.lst (a ++ b)))
theorem s_catL : SimR rCat fCatL := by
  rintro x y W H Q v u Qd o i1 i2 ⟨a, b, ha, hb, c, q⟩ fin
  obtain ⟨l, vs, rfl, h1, h2⟩ := listOf_at o i1 ha
  obtain ⟨m, us, rfl, h3, h4⟩ := listOf_at o i2 hb
  refine ⟨l, m, vs, us, rfl, rfl, h1, h3, by rw [← h2.length, ← h4.length]; exact c, fun p hp => ?_⟩
  exact fin _ _ _ _ q (Step.new hp) (o.laid hp) (Is.of_upd_lst o hp (h2.append h4))
theorem s_catO : SimR rCat fCatO := by
  rintro x y W H Q v u Qd o i1 i2 ⟨a, b, ha, hb, c, q⟩ fin
  obtain ⟨l, vs, rfl, h1, h2⟩ := listOf_at o i1 ha
  obtain ⟨m, us, rfl, h3, h4⟩ := listOf_at o i2 hb
  refine ⟨l, m, vs, us, rfl, rfl, h1, h3, by rw [← h2.length, ← h4.length]; exact c, fun p hp => ?_⟩
  exact fin _ _ _ _ (q p (o.new hp)) (Step.put (.inl hp)) (own_new o hp (h2.append h4)) (.ref p)
def fCatT : GR2 := fun x y W Q => ∃ a b, x = .tup a ∧ y = .tup b ∧ a.length + b.length ≤ sizeLine ∧ Q (.tup (a ++ b)) W
theorem s_catT {K : PySem.W.Frag} : SimR (rCatA K) fCatT := by
  rintro x y W H Q v u Qd o i1 i2 ⟨a, b, rfl, rfl, c, q⟩ fin
  cases i1 with
  | @tup l vs _ h1 w1 h2 =>
    cases i2 with
    | @tup m us _ h3 w3 h4 =>
      refine ⟨l, m, vs, us, rfl, rfl, .inl (.inl h1), .inl (.inl h3), by rw [← h2.length, ← h4.length]; exact c, fun e => ?_, fun _ e => ?_, fun _ _ p hp => ?_⟩
      · have e0 : a = [] := List.eq_nil_of_length_eq_zero (by rw [h2.length, e]; rfl)
        subst e0
        exact fin.here o q (.tup h3 w3 h4)
      · have e0 : b = [] := List.eq_nil_of_length_eq_zero (by rw [h4.length, e]; rfl)
        subst e0
        rw [List.append_nil] at q
        exact fin.here o q (.tup h1 w1 h2)
      · exact fin _ _ _ _ q (Step.new hp) (o.laid hp) (Is.of_upd_tup o hp (h2.append h4))
def fRepL : GR2 := fun x y W Q => ∃ a k, listOf W x = some a ∧ y = .int k ∧ -(2 ^ 63) ≤ k ∧ k < 2 ^ 63 ∧ a.length * k.toNat ≤ sizeLine ∧ Q (.lst (List.replicate k.toNat a).flatten) W
def fRepO : GR2 := fun x y W Q => ∃ a k, listOf W x = some a ∧ y = .int k ∧ -(2 ^ 63) ≤ k ∧ k < 2 ^ 63 ∧ a.length * k.toNat ≤ sizeLine ∧ ∀ p, W p = none → Q (.ref p) (put W p (.lst (List.replicate k.toNat a).flatten))
theorem s_repL : SimR rRep fRepL := by
  rintro x y W H Q v u Qd o i1 i2 ⟨a, k, ha, rfl, c1, c2, c3, q⟩ fin
  obtain ⟨l, vs, rfl, h1, h2⟩ := listOf_at o i1 ha
  cases i2
  refine ⟨l, k, vs, rfl, rfl, h1, c1, c2, by rw [← h2.length]; exact c3, fun p hp => ?_⟩
  exact fin _ _ _ _ q (Step.new hp) (o.laid hp) (Is.of_upd_lst o hp (h2.rep _))
theorem s_repO : SimR rRep fRepO := by
  rintro x y W H Q v u Qd o i1 i2 ⟨a, k, ha, rfl, c1, c2, c3, q⟩ fin
  obtain ⟨l, vs, rfl, h1, h2⟩ := listOf_at o i1 ha
  cases i2
  refine ⟨l, k, vs, rfl, rfl, h1, c1, c2, by rw [← h2.length]; exact c3, fun p hp => ?_⟩
  exact fin _ _ _ _ (q p (o.new hp)) (Step.put (.inl hp)) (own_new o hp (h2.rep _)) (.ref p)
theorem atI_is {W : Wd} {H : Hp} {ds : List D} {vs : List V} {i : Int} {d : D} (l : IsL W H ds vs) (h : atI ds i = some d) : ∃ v, atI vs i = some v ∧ Is W H d v := by
  unfold atI at h ⊢
  rw [← l.length]
  cases e : ixN ds.length i with
  | none => rw [e] at h; cases h
  | some j =>
    rw [e] at h
    exact l.get h
def fIdx : GR2 := fun x y W Q => ∃ ds i d, seqOf W x = some ds ∧ y = .int i ∧ atI ds i = some d ∧ Q d W
def fIdxS : GR2 := fun x y W Q => ∃ z i c, x = .str z ∧ y = .int i ∧ z.length ≤ sizeLine ∧ atI z.cps.toList i = some c ∧ Q (.str ⟨#[c]⟩) W
theorem s_idx {K : PySem.W.Frag} : SimR (rIx K) fIdx := by
  rintro x y W H Q v u Qd o i1 i2 ⟨ds, i, d, hs, rfl, h, q⟩ fin
  obtain ⟨a, vs, rfl, h1, h2⟩ := seqOf_at (K := K) o i1 hs
  cases i2
  obtain ⟨z, h3, h4⟩ := atI_is h2 h
  rcases h1 with h1 | h1
  · exact .inl ⟨a, vs, i, z, rfl, rfl, h1, h3, fin.here o q h4⟩
  · exact .inr (.inl ⟨a, vs, i, z, rfl, rfl, h1, h3, fin.here o q h4⟩)
theorem s_idxS {K : PySem.W.Frag} : SimR (rIx K) fIdxS := by
  rintro x y W H Q v u Qd o i1 i2 ⟨z, i, c, rfl, rfl, hz, h, q⟩ fin
  cases i1
  cases i2
  exact .inr (.inr ⟨z, i, c, rfl, rfl, hz, h, fin.here o q (.str _)⟩)
section
variable {X : Cx} {W0 : Wd} {H0 : Hp} {e a b c : Expr} {es : List Expr} {t : TE} {g ga gb gc : GE} {gs : GA} {pos p2 : Pos}
theorem d_ix {f : GR2} (hs : SimR (rIx X.K) f) (ha : DE W0 H0 X a ga) (hb : DE W0 H0 X b gb) (hp : PlainIx b) : DE W0 H0 X (.Subscript a b pos) (gOp f ga gb) := (pe_ix ix_seq ha hb hp).to (sim_op hs)
abbrev GO := Dt → Wd → (Option Int → Wd → Prop) → Prop
def liftO (W0 : Wd) (H0 : Hp) (g : GO) : TO := fun σ H Q => ∃ δ W Qd, At W0 H0 δ W σ H ∧ g δ W Qd ∧ ∀ o W' H', Qd o W' → Step W H W' H' → Own W' H' → Q o H'
def gNone : GO := fun _ W Q => Q none W
def gPart (g : GE) : GO := fun δ W Q => g δ W fun x W1 => ∃ i, x = .int i ∧ Q (some i) W1
def DO (W0 : Wd) (H0 : Hp) (X : Cx) (e : Option Expr) (g : GO) : Prop := PO X e (liftO W0 H0 g)
theorem o_none : DO W0 H0 X none gNone := ⟨fun pins s σ H Q I h => po_none.run pins s σ H Q I (by
  obtain ⟨δ, W, Qd, at_, q, f⟩ := h
  exact f _ _ _ q (Step.refl W H) at_.own)⟩
theorem o_some (h : DE W0 H0 X e g) : DO W0 H0 X (some e) (gPart g) := ⟨fun pins s σ H Q I hw => (po_some h).run pins s σ H Q I (by
  obtain ⟨δ, W, Qd, at_, q, f⟩ := hw
  refine ⟨δ, W, _, at_, q, ?_⟩
  rintro x W1 v H1 ⟨i, rfl, q1⟩ s o i1
  cases i1
  exact ⟨i, rfl, f _ _ _ q1 s o⟩)⟩
def cutG {α : Type} (xs : List α) (lo hi : Option Int) : List α := (xs.drop (HT.sIx xs.length 0 lo)).take (HT.sIx xs.length xs.length hi - HT.sIx xs.length 0 lo)
theorem cut_is {W : Wd} {H : Hp} {ds : List D} {vs : List V} (l : IsL W H ds vs) (lo hi : Option Int) : IsL W H (cutG ds lo hi) (cutV vs lo hi) := by
  unfold cutG cutV
  rw [← l.length]
  exact (l.drop _).take _
def fSl (r : D → Option Int → Option Int → Wd → (D → Wd → Prop) → Prop) (ge : GE) (gl gh : GO) : GE := fun δ W Q => ge δ W fun x W1 => gl δ W1 fun l W2 => gh δ W2 fun h W3 => r x l h W3 Q
def SimSl (r : V → Option Int → Option Int → Hp → VK → Prop) (f : D → Option Int → Option Int → Wd → (D → Wd → Prop) → Prop) : Prop := ∀ x l h W H Q v Qd, Own W H → Is W H x v → f x l h W Qd → Fin W H Q Qd → r v l h H Q
theorem d_slice {lo hi : Option Expr} {gl gh : GO} {r : V → Option Int → Option Int → Hp → VK → Prop} {f : D → Option Int → Option Int → Wd → (D → Wd → Prop) → Prop} (hr : SlR X r) (hs : SimSl r f) (he : DE W0 H0 X e ga) (hl : DO W0 H0 X lo gl) (hh : DO W0 H0 X hi gh) :
    DE W0 H0 X (.Subscript e (.Slice lo hi none p2) pos) (fSl f ga gl gh) := by
  refine (pe_slice hr he hl hh).to ?_
  rintro σ H Q ⟨δ, W, Qd, at_, h, fin⟩
  refine ⟨δ, W, _, at_, h, fun x W1 v H1 q1 s1 o1 i1 => ⟨δ, W1, _, at_.go s1 o1, q1, fun l W2 H2 q2 s2 o2 => ⟨δ, W2, _, (at_.go s1 o1).go s2 o2, q2, fun h W3 H3 q3 s3 o3 => ?_⟩⟩⟩
  exact hs x l h W3 H3 Q v Qd o3 (i1.mono (s2.trans s3)) q3 (fin.go ((s1.trans s2).trans s3))
def rSlLst : D → Option Int → Option Int → Wd → (D → Wd → Prop) → Prop := fun x lo hi W Q => ∃ ds, listOf W x = some ds ∧ Q (.lst (cutG ds lo hi)) W
def rSlTup : D → Option Int → Option Int → Wd → (D → Wd → Prop) → Prop := fun x lo hi W Q => ∃ ds, x = .tup ds ∧ Q (.tup (cutG ds lo hi)) W
def rSlStr : D → Option Int → Option Int → Wd → (D → Wd → Prop) → Prop := fun x lo hi W Q => ∃ z, x = .str z ∧ z.length ≤ sizeLine ∧ Q (.str (cutS z lo hi)) W
theorem sl_L {K : PySem.W.Frag} : SimSl (rSlL K) rSlLst := by
  rintro x l h W H Q v Qd o i1 ⟨ds, hs, q⟩ fin
  obtain ⟨a, vs, rfl, h1, h2⟩ := listOf_at o i1 hs
  exact ⟨a, vs, rfl, .inl (.inl h1), fun p hp => fin _ _ _ _ q (Step.new hp) (o.laid hp) (Is.of_upd_lst o hp (cut_is h2 _ _))⟩
theorem sl_T {K : PySem.W.Frag} : SimSl (rSlA K) rSlTup := by
  rintro x l h W H Q v Qd o i1 ⟨ds, rfl, q⟩ fin
  cases i1 with
  | @tup a vs _ h1 w1 h2 =>
    refine ⟨a, vs, rfl, .inl (.inl h1), fun e => ?_, fun _ p hp => fin _ _ _ _ q (Step.new hp) (o.laid hp) (Is.of_upd_tup o hp (cut_is h2 _ _))⟩
    have e2 : cutG ds l h = ds := by
      unfold cutG
      rw [h2.length, e.1, e.2, List.drop_zero, Nat.sub_zero, ← h2.length, List.take_length]
    rw [e2] at q
    exact fin.here o q (.tup h1 w1 h2)
theorem sl_S : SimSl rSlS rSlStr := by
  rintro x l h W H Q v Qd o i1 ⟨z, rfl, hz, q⟩ fin
  cases i1
  exact ⟨z, rfl, hz, fin.here o q (.str _)⟩
theorem d_callB {id : String} {x : Str} {r : List V → Hp → VK → Prop} {f : GRN} (hc : CallR X (.builtin id) r) (hs : SimN r f) (hg : Gl X x) (hm : X.mg x = none) (hv : bootBuiltins x = some (.builtin id)) (ha : DA W0 H0 X (e :: es) gs) (hn : x ≠ "__name__" := by decide) (hdb : (x == ("__debug__" : Str)) = false := by decide)
    (he : starEach (e :: es) X.env = (false, eval e X.env) :: starEach es X.env := by rfl) (hpl : (backTo pos (starEach es X.env)).any (·.1) = false := by rfl) : DE W0 H0 X (.Call (.Name x p2) (e :: es) [] pos) (gN f gs) := by
  refine (pe_callB hc hg hm hv ha hn hdb he hpl).to ?_
  rintro σ H Q ⟨δ, W, Qd, at_, h, fin⟩
  exact ⟨δ, W, _, at_, h, fun xs W1 vs H1 q s o i => hs xs W1 H1 Q vs Qd o i q (fin.go s)⟩
theorem d_callTy {T : String} {x : Str} {r : List V → Hp → VK → Prop} {f : GRN} (hc : CallR X (.type T) r) (hs : SimN r f) (hg : Gl X x) (hm : X.mg x = none) (hv : bootBuiltins x = some (.type T)) (ha : DA W0 H0 X (e :: es) gs) (hn : x ≠ "__name__" := by decide) (hdb : (x == ("__debug__" : Str)) = false := by decide)
    (he : starEach (e :: es) X.env = (false, eval e X.env) :: starEach es X.env := by rfl) (hpl : (backTo pos (starEach es X.env)).any (·.1) = false := by rfl) : DE W0 H0 X (.Call (.Name x p2) (e :: es) [] pos) (gN f gs) := by
  refine (pe_callTy hc hg hm hv ha hn hdb he hpl).to ?_
  rintro σ H Q ⟨δ, W, Qd, at_, h, fin⟩
  exact ⟨δ, W, _, at_, h, fun xs W1 vs H1 q s o i => hs xs W1 H1 Q vs Qd o i q (fin.go s)⟩
end
theorem isL1 {W : Wd} {H : Hp} {x : D} {vs : List V} (h : IsL W H [x] vs) : ∃ v, vs = [v] ∧ Is W H x v := by
  cases h with
  | cons a b => cases b; exact ⟨_, rfl, a⟩
theorem isL2 {W : Wd} {H : Hp} {x y : D} {vs : List V} (h : IsL W H [x, y] vs) : ∃ v u, vs = [v, u] ∧ Is W H x v ∧ Is W H y u := by
  cases h with
  | cons a b => obtain ⟨u, rfl, c⟩ := isL1 b; exact ⟨_, _, rfl, a, c⟩
def fLen : GRN := fun xs W Q => ∃ x ds, xs = [x] ∧ seqOf W x = some ds ∧ Q (.int (ds.length : Int)) W
def fLenS : GRN := fun xs W Q => ∃ z : Str, xs = [.str z] ∧ z.length ≤ sizeLine ∧ Q (.int (z.length : Int)) W
theorem s_len {K : PySem.W.Frag} : SimN (fun xs H Q => ∃ p ys, xs = [.ref p] ∧ (SqL K H p ys ∨ SqT K H p ys) ∧ Q (.int ys.length) H) fLen := by
  rintro xs W H Q vs Qd o i ⟨x, ds, rfl, hs, q⟩ fin
  obtain ⟨v, rfl, i1⟩ := isL1 i
  obtain ⟨a, us, rfl, h1, h2⟩ := seqOf_at (K := K) o i1 hs
  exact ⟨a, us, rfl, h1, by rw [← h2.length]; exact fin.here o q (.int _)⟩
theorem s_lenS : SimN (fun xs H Q => ∃ z, xs = [.str z] ∧ z.length ≤ sizeLine ∧ Q (.int z.length) H) fLenS := by
  rintro xs W H Q vs Qd o i ⟨z, rfl, hz, q⟩ fin
  obtain ⟨v, rfl, i1⟩ := isL1 i
  cases i1
  exact ⟨z, rfl, hz, fin.here o q (.int _)⟩
def fList : GRN := fun xs W Q => ∃ x ds, xs = [x] ∧ seqOf W x = some ds ∧ Q (.lst ds) W
def fListO : GRN := fun xs W Q => ∃ x ds, xs = [x] ∧ seqOf W x = some ds ∧ ∀ p, W p = none → Q (.ref p) (put W p (.lst ds))
theorem s_list {K : PySem.W.Frag} : SimN (fun xs H Q => ∃ p ys, xs = [.ref p] ∧ (SqL K H p ys ∨ SqT K H p ys) ∧ ∀ l, H l = none → Q (.ref l) (upd H l (.lst ys))) fList := by
  rintro xs W H Q vs Qd o i ⟨x, ds, rfl, hs, q⟩ fin
  obtain ⟨v, rfl, i1⟩ := isL1 i
  obtain ⟨a, us, rfl, h1, h2⟩ := seqOf_at (K := K) o i1 hs
  exact ⟨a, us, rfl, h1, fun p hp => fin _ _ _ _ q (Step.new hp) (o.laid hp) (Is.of_upd_lst o hp h2)⟩
theorem s_listO {K : PySem.W.Frag} : SimN (fun xs H Q => ∃ p ys, xs = [.ref p] ∧ (SqL K H p ys ∨ SqT K H p ys) ∧ ∀ l, H l = none → Q (.ref l) (upd H l (.lst ys))) fListO := by
  rintro xs W H Q vs Qd o i ⟨x, ds, rfl, hs, q⟩ fin
  obtain ⟨v, rfl, i1⟩ := isL1 i
  obtain ⟨a, us, rfl, h1, h2⟩ := seqOf_at (K := K) o i1 hs
  exact ⟨a, us, rfl, h1, fun p hp => fin _ _ _ _ (q p (o.new hp)) (Step.put (.inl hp)) (own_new o hp h2) (.ref p)⟩
def fTuple : GRN := fun xs W Q => ∃ x ds, xs = [x] ∧ listOf W x = some ds ∧ Q (.tup ds) W
theorem s_tuple {K : PySem.W.Frag} : SimN (fun xs H Q => ∃ p ys, xs = [.ref p] ∧ ((SqL K H p ys ∧ ∀ l, H l = none → Q (.ref l) (upd H l (.tup ys))) ∨ (SqT K H p ys ∧ Q (.ref p) H))) fTuple := by
  rintro xs W H Q vs Qd o i ⟨x, ds, rfl, hs, q⟩ fin
  obtain ⟨v, rfl, i1⟩ := isL1 i
  obtain ⟨a, us, rfl, h1, h2⟩ := listOf_at o i1 hs
  exact ⟨a, us, rfl, .inl ⟨.inl (.inl h1), fun p hp => fin _ _ _ _ q (Step.new hp) (o.laid hp) (Is.of_upd_tup o hp h2)⟩⟩
def fIntB : GRN := fun xs W Q => ∃ b, xs = [.bl b] ∧ Q (.int (if b then 1 else 0)) W
theorem s_intB : SimN (fun xs H Q => (∃ i, xs = [.int i] ∧ Q (.int i) H) ∨ ∃ k, xs = [.bl k] ∧ Q (.int (if k then 1 else 0)) H) fIntB := by
  rintro xs W H Q vs Qd o i ⟨b, rfl, q⟩ fin
  obtain ⟨v, rfl, i1⟩ := isL1 i
  cases i1
  exact .inr ⟨b, rfl, fin.here o q (.int _)⟩
def fStr : GRN := fun xs W Q => ∃ i : Int, xs = [.int i] ∧ i.natAbs.log2 < 1920 ∧ Q (.str (toString i)) W
theorem s_str : SimN (fun xs H Q => ∃ i : Int, xs = [.int i] ∧ i.natAbs.log2 < 1920 ∧ Q (.str (toString i)) H) fStr := by
  rintro xs W H Q vs Qd o i ⟨j, rfl, hj, q⟩ fin
  obtain ⟨v, rfl, i1⟩ := isL1 i
  cases i1
  exact ⟨j, rfl, hj, fin.here o q (.str _)⟩
def fMin2 : GRN := fun xs W Q => ∃ i j : Int, xs = [.int i, .int j] ∧ Q (.int (if j < i then j else i)) W
theorem s_min2 : SimN (fun xs H Q => ∃ i j : Int, xs = [.int i, .int j] ∧ Q (.int (if j < i then j else i)) H) fMin2 := by
  rintro xs W H Q vs Qd o i ⟨a, b, rfl, q⟩ fin
  obtain ⟨v, u, rfl, i1, i2⟩ := isL2 i
  cases i1
  cases i2
  exact ⟨a, b, rfl, fin.here o q (.int _)⟩
theorem ints_of {W : Wd} {H : Hp} : ∀ {ns : List Int} {vs : List V}, IsL W H (ns.map D.int) vs → vs = ns.map V.int
  | [], _, h => by cases h; rfl
  | n :: r, _, h => by
    cases h with
    | cons a b => cases a; rw [ints_of b]; rfl
def fSum : GRN := fun xs W Q => ∃ (x : D) (ns : List Int), xs = [x] ∧ listOf W x = some (ns.map D.int) ∧ Q (.int ns.sum) W
theorem s_sum {K : PySem.W.Frag} : SimN (rSum K) fSum := by
  rintro xs W H Q vs Qd o i ⟨x, ns, rfl, hs, q⟩ fin
  obtain ⟨v, rfl, i1⟩ := isL1 i
  obtain ⟨a, us, rfl, h1, h2⟩ := listOf_at o i1 hs
  rw [ints_of h2] at h1
  exact ⟨a, ns, rfl, .inl (.inl h1), fin.here o q (.int _)⟩
def fMax : GRN := fun xs W Q => ∃ (x : D) (ns : List Int), xs = [x] ∧ listOf W x = some (ns.map D.int) ∧ 0 < ns.length ∧ ∀ m, m ∈ ns → (∀ y, y ∈ ns → y ≤ m) → Q (.int m) W
theorem s_max {K : PySem.W.Frag} : SimN (rMax K) fMax := by
  rintro xs W H Q vs Qd o i ⟨x, ns, rfl, hs, hl, q⟩ fin
  obtain ⟨v, rfl, i1⟩ := isL1 i
  obtain ⟨a, us, rfl, h1, h2⟩ := listOf_at o i1 hs
  rw [ints_of h2] at h1
  exact ⟨a, ns, rfl, .inl (.inl h1), hl, fun m hm hle => fin.here o (q m hm hle) (.int _)⟩
def kindOf (W : Wd) : D → Option String
  | .non => some "NoneType" | .bl _ => some "bool" | .int _ => some "int" | .str _ => some "str"
  | .tup _ => some "tuple" | .lst _ => some "list" | .frz _ => some "list"
  | .ref p => match W p with | some (.lst _) => some "list" | _ => none
  | .ty _ => none
theorem kind_at {K : PySem.W.Frag} {W : Wd} {H : Hp} {d : D} {v : V} {k : String} (o : Own W H) (i : Is W H d v) (h : kindOf W d = some k) : TyX K H v (.type k) := by
  cases i with
  | non => cases h; exact .base .non
  | bl b => cases h; exact .base (.bl b)
  | int b => cases h; exact .base (.int b)
  | str b => cases h; exact .base (.str b)
  | ty n => cases h
  | tup h1 _ _ => cases h; exact .base (.tup h1)
  | lst h1 _ _ => cases h; exact .base (.lst h1)
  | frz h1 _ _ =>
    cases h
    rcases h1 with h1 | ⟨ob, h1⟩
    · exact .base (.lst h1)
    · exact .base (.frz h1)
  | ref a =>
    have h : (match W a with | some (.lst _) => some "list" | _ => none) = some k := h
    split at h
    · rename_i e
      cases h
      obtain ⟨vs, h1, _⟩ := o _ _ e
      exact .base (.lst h1)
    · cases h
def isT (k n : String) : Bool := (kitB k n).getD false
def fIsi : GRN := fun xs W Q => ∃ x n k b, xs = [x, .ty n] ∧ kindOf W x = some k ∧ kitB k n = some b ∧ Q (.bl b) W
theorem s_isi {K : PySem.W.Frag} : SimN (rIsi K) fIsi := by
  rintro xs W H Q vs Qd o i ⟨x, n, k, b, rfl, hk, hb, q⟩ fin
  obtain ⟨v, u, rfl, i1, i2⟩ := isL2 i
  cases i2
  exact ⟨v, .ty n, _, _, b, rfl, .ty n, kind_at o i1 hk, kit_ty hb, fin.here o q (.bl _)⟩
/-- of two classes -/
def fIsi2 : GRN := fun xs W Q => ∃ x n m k a b, xs = [x, .tup [.ty n, .ty m]] ∧ kindOf W x = some k ∧ kitB k n = some a ∧ kitB k m = some b ∧ Q (.bl (a || b)) W
theorem s_isi2 {K : PySem.W.Frag} : SimN (rIsiT K) fIsi2 := by
  rintro xs W H Q vs Qd o i ⟨x, n, m, k, a, b, rfl, hk, ha, hb, q⟩ fin
  obtain ⟨v, u, rfl, i1, i2⟩ := isL2 i
  cases i2 with
  | @tup p us _ h1 w1 h2 =>
    obtain ⟨c1, c2, rfl, j1, j2⟩ := isL2 h2
    cases j1
    cases j2
    refine ⟨v, p, _, _, _, a || b, rfl, h1, .cons (.ty n) (.cons (.ty m) .nil), kind_at o i1 hk, ?_, fin.here o q (.bl _)⟩
    refine kitAny_cons (kit_ty ha) (fun e => kitAny_cons (kit_ty hb) (fun e2 => ?_) (fun e2 => ?_)) fun e => by rw [e]; rfl
    · rw [e, e2]; rfl
    · rw [e, e2]; rfl
end DL
end
section
set_option maxRecDepth 100000
set_option maxHeartbeats 2000000
namespace DL
open PySem PySem.Spec PyProof.Rows L2

mutual
def pyOf : D → PyData
  | .non => .none | .bl b => .bool b | .int i => .int i | .str x => .str x | .ty _ => .none | .ref _ => .none
  | .tup ds => .tuple (pyOfL ds)
  | .lst ds => .list (pyOfL ds)
  | .frz ds => .list (pyOfL ds)
def pyOfL : List D → List PyData
  | [] => []
  | d :: r => pyOf d :: pyOfL r
end
mutual
/-- a tree of plain things -/
def clD : D → Bool
  | .non => true | .bl _ => true | .int _ => true | .str _ => true | .ty _ => false | .ref _ => false
  | .tup ds => clL ds
  | .lst ds => clL ds
  | .frz ds => clL ds
def clL : List D → Bool
  | [] => true
  | d :: r => clD d && clL r
end
mutual
theorem dp_of {K : PySem.W.Frag} {W : Wd} {H : Hp} : ∀ {d : D} {v : V}, Is W H d v → clD d = true → Dp K H v (pyOf d)
  | _, _, .non, _ => .non
  | _, _, .bl b, _ => .bl b
  | _, _, .int b, _ => .int b
  | _, _, .str b, _ => .str b
  | _, _, .ty n, h => by simp [clD] at h
  | _, _, .ref n, h => by simp [clD] at h
  | _, _, .tup h _ l, c => .tup (.inl (.inl h)) (dpl_of l (by simpa [clD] using c))
  | _, _, .lst h _ l, c => .lst (.inl (.inl h)) (dpl_of l (by simpa [clD] using c))
  | _, _, .frz h _ l, c => .lst (.inl h) (dpl_of l (by simpa [clD] using c))
theorem dpl_of {K : PySem.W.Frag} {W : Wd} {H : Hp} : ∀ {ds : List D} {vs : List V}, IsL W H ds vs → clL ds = true → DpAll K H vs (pyOfL ds)
  | _, _, .nil, _ => .nil
  | d :: ds, _, .cons h t, c => by
    have c' : clD d = true ∧ clL ds = true := by simpa [clL] using c
    exact .cons (dp_of h c'.1) (dpl_of t c'.2)
end
/-- an owned list as the list that it is now -/
def res (W : Wd) (d : D) : D := match d with
  | .ref p => match W p with
    | some (.lst ds) => .lst ds
    | _ => .ref p
  | d => d
def scalD : D → D → Bool
  | .non, .non => true | .non, .int _ => true | .int _, .non => true | .non, .bl _ => true | .bl _, .non => true | .non, .str _ => true | .str _, .non => true
  | .int _, .int _ => true | .bl _, .bl _ => true | .str _, .str _ => true
  | .int _, .str _ => true | .str _, .int _ => true | .bl _, .str _ => true | .str _, .bl _ => true
  | _, _ => false
def okD (d : D) : Bool := clD d && SeqAt.shaped (pyOf d)
def eqD (x y : D) : Bool := PyData.eqv (pyOf x) (pyOf y)
def okEq (W : Wd) (x y : D) : Prop := scalD x y = true ∨ (okD (res W x) = true ∧ okD (res W y) = true)
theorem is_res {W : Wd} {H : Hp} {d : D} {v : V} (o : Own W H) (i : Is W H d v) : ∃ W', Is W' H (res W d) v := by
  cases i with
  | ref a =>
    cases e : W a with
    | none => exact ⟨W, by unfold res; simp only [e]; exact .ref a⟩
    | some ob =>
      cases ob with
      | lst ds =>
        obtain ⟨vs, h1, h2⟩ := o _ _ e
        exact ⟨del W a, by unfold res; simp only [e]; exact .lst h1 del_same (h2.mono (Step.del a))⟩
      | _ => exact ⟨W, by unfold res; simp only [e]; exact .ref a⟩
  | non => exact ⟨W, .non⟩
  | bl b => exact ⟨W, .bl b⟩
  | int b => exact ⟨W, .int b⟩
  | str b => exact ⟨W, .str b⟩
  | ty b => exact ⟨W, .ty b⟩
  | tup a b c => exact ⟨W, .tup a b c⟩
  | lst a b c => exact ⟨W, .lst a b c⟩
  | frz a b c => exact ⟨W, .frz a b c⟩
theorem dp_res {K : PySem.W.Frag} {W : Wd} {H : Hp} {d : D} {v : V} (o : Own W H) (i : Is W H d v) (c : clD (res W d) = true) : Dp K H v (pyOf (res W d)) := by
  obtain ⟨W', h⟩ := is_res o i
  exact dp_of h c
theorem eq_scal {W : Wd} {H : Hp} {x y : D} {v u : V} (h : scalD x y = true) (i : Is W H x v) (j : Is W H y u) : scal v u = true ∧ decide (v = u) = eqD x y := by
  cases i <;> cases j <;> first
    | (exact absurd h Bool.false_ne_true)
    | (refine ⟨rfl, ?_⟩; simp only [eqD, pyOf, PyData.eqv]; rw [Bool.eq_iff_iff]; simp)
theorem res_scal {W : Wd} {x y : D} (h : scalD x y = true) : res W x = x ∧ res W y = y := by
  cases x <;> cases y <;> first | exact ⟨rfl, rfl⟩ | exact absurd h Bool.false_ne_true
def fEq : GR2 := fun x y W Q => okEq W x y ∧ Q (.bl (eqD (res W x) (res W y))) W
def fNe : GR2 := fun x y W Q => okEq W x y ∧ Q (.bl (!eqD (res W x) (res W y))) W
theorem s_eq {K : PySem.W.Frag} : SimR (fun x y H Q => rEq x y H Q ∨ rEqD K x y H Q) fEq := by
  rintro x y W H Q v u Qd o i j ⟨h, q⟩ fin
  rcases h with h | ⟨h1, h2⟩
  · obtain ⟨e1, e2⟩ := eq_scal h i j
    obtain ⟨r1, r2⟩ := res_scal (W := W) h
    rw [r1, r2] at q
    exact .inl ⟨e1, by rw [e2]; exact fin.here o q (.bl _)⟩
  · unfold okD at h1 h2
    rw [Bool.and_eq_true] at h1 h2
    exact .inr ⟨_, _, dp_res o i h1.1, dp_res o j h2.1, h1.2, h2.2, fin.here o q (.bl _)⟩
theorem s_ne {K : PySem.W.Frag} : SimR (fun x y H Q => rNe x y H Q ∨ rNeD K x y H Q) fNe := by
  rintro x y W H Q v u Qd o i j ⟨h, q⟩ fin
  rcases h with h | ⟨h1, h2⟩
  · obtain ⟨e1, e2⟩ := eq_scal h i j
    obtain ⟨r1, r2⟩ := res_scal (W := W) h
    rw [r1, r2] at q
    exact .inl ⟨e1, by rw [e2]; exact fin.here o q (.bl _)⟩
  · unfold okD at h1 h2
    rw [Bool.and_eq_true] at h1 h2
    exact .inr ⟨_, _, dp_res o i h1.1, dp_res o j h2.1, h1.2, h2.2, fin.here o q (.bl _)⟩
theorem op_eqA {X : Cx} (hu : X.A.units + 64 < cLine) : OpR X (compareOp .Eq) (fun x y H Q => rEq x y H Q ∨ rEqD X.K x y H Q) := op_eq.or (op_eqD hu)
theorem op_neA {X : Cx} (hu : X.A.units + 64 < cLine) : OpR X (compareOp .NotEq) (fun x y H Q => rNe x y H Q ∨ rNeD X.K x y H Q) := op_ne.or (op_neD hu)
theorem eqD_int {i j : Int} : eqD (.int i) (.int j) = (i == j) := by simp [eqD, pyOf, PyData.eqv]
theorem eqD_str {i j : Str} : eqD (.str i) (.str j) = (i == j) := by simp [eqD, pyOf, PyData.eqv]
theorem eqD_bl {i j : Bool} : eqD (.bl i) (.bl j) = (i == j) := by simp [eqD, pyOf, PyData.eqv]
theorem eqD_lst {a b : List D} : eqD (.lst a) (.lst b) = PyData.eqvAll (pyOfL a) (pyOfL b) := by simp [eqD, pyOf, PyData.eqv]
theorem eqD_tup {a b : List D} : eqD (.tup a) (.tup b) = PyData.eqvAll (pyOfL a) (pyOfL b) := by simp [eqD, pyOf, PyData.eqv]
def fIsN : GR2 := fun x y W Q => y = .non ∧ Q (.bl (match x with | .non => true | _ => false)) W
def fNotN : GR2 := fun x y W Q => y = .non ∧ Q (.bl (match x with | .non => false | _ => true)) W
theorem s_isN : SimR (fun x y H Q => y = .non ∧ Q (.bl (decide (x = .non))) H) fIsN := by
  rintro x y W H Q v u Qd o i j ⟨rfl, q⟩ fin
  cases j
  refine ⟨rfl, ?_⟩
  cases i <;> exact fin.here o q (.bl _)
theorem s_notN : SimR (fun x y H Q => y = .non ∧ Q (.bl (!decide (x = .non))) H) fNotN := by
  rintro x y W H Q v u Qd o i j ⟨rfl, q⟩ fin
  cases j
  refine ⟨rfl, ?_⟩
  cases i <;> exact fin.here o q (.bl _)
def flatD : D → Bool
  | .non => true | .bl _ => true | .int _ => true | .str _ => true | _ => false
def eqF : D → D → Bool
  | .non, .non => true
  | .bl a, .bl b => a == b
  | .bl a, .int b => (if a then 1 else 0) == b
  | .int a, .bl b => a == (if b then 1 else 0)
  | .int a, .int b => a == b
  | .str a, .str b => a == b
  | _, _ => false
def inD (x : D) (ds : List D) : Bool := ds.any fun y => eqF y x
def fIn (neg : Bool) : GR2 := fun x y W Q => ∃ ds, seqOf W y = some ds ∧ flatD x = true ∧ ds.all flatD = true ∧ Q (.bl (if neg then !inD x ds else inD x ds)) W
theorem flat_is {W : Wd} {H : Hp} {d : D} {v : V} (i : Is W H d v) (h : flatD d = true) : flatV v = true := by
  cases i <;> first | rfl | cases h
theorem eqF_is {W : Wd} {H : Hp} {x y : D} {v u : V} (i : Is W H x v) (j : Is W H y u) (h1 : flatD x = true) (h2 : flatD y = true) : eqV v u = eqF x y := by
  cases i <;> cases j <;> first | rfl | cases h1 | cases h2
theorem flatL_is {W : Wd} {H : Hp} : ∀ {ds : List D} {vs : List V}, IsL W H ds vs → ds.all flatD = true → vs.all flatV = true
  | _, _, .nil, _ => rfl
  | _, _, .cons h t, c => by
    rw [List.all_cons, Bool.and_eq_true] at c ⊢
    exact ⟨flat_is h c.1, flatL_is t c.2⟩
theorem inD_is {W : Wd} {H : Hp} {x : D} {v : V} (i : Is W H x v) (h1 : flatD x = true) : ∀ {ds : List D} {vs : List V}, IsL W H ds vs → ds.all flatD = true → inV v vs = inD x ds
  | _, _, .nil, _ => rfl
  | _, _, .cons h t, c => by
    rw [List.all_cons, Bool.and_eq_true] at c
    have := inD_is i h1 t c.2
    unfold inV inD at this ⊢
    rw [List.any_cons, List.any_cons, this, eqF_is h i c.1 h1]
theorem s_in {K : PySem.W.Frag} {neg : Bool} : SimR (rIn K neg) (fIn neg) := by
  rintro x y W H Q v u Qd o i j ⟨ds, hs, h1, h2, q⟩ fin
  obtain ⟨a, us, rfl, h3, h4⟩ := seqOf_at (K := K) o j hs
  exact ⟨a, us, rfl, h3, flat_is i h1, flatL_is h4 h2, by rw [inD_is i h1 h4 h2]; exact fin.here o q (.bl _)⟩
def gLM (f : Addr → List D → Wd → (D → Wd → Prop) → Prop) (ga : GE) (gs : GA) : GE := fun δ W Q => ga δ W fun x W1 => ∃ p ds, x = .ref p ∧ W1 p = some (.lst ds) ∧ gs δ W1 fun xs W2 => f p xs W2 Q
def SimM (r : V → List V → Hp → VK → Prop) (f : Addr → List D → Wd → (D → Wd → Prop) → Prop) : Prop := ∀ p xs W H Q vs Qd, Own W H → IsL W H xs vs → f p xs W Qd → Fin W H Q Qd → r (.ref p) vs H Q
def mAppend : Addr → List D → Wd → (D → Wd → Prop) → Prop := fun p xs W Q => ∃ y ds, xs = [y] ∧ W p = some (.lst ds) ∧ ds.length < sizeLine ∧ Q .non (put W p (.lst (ds ++ [y])))
def mExtend : Addr → List D → Wd → (D → Wd → Prop) → Prop := fun p xs W Q => ∃ y ds es, xs = [y] ∧ W p = some (.lst ds) ∧ listOf W y = some es ∧ ds.length + es.length ≤ sizeLine ∧ Q .non (put W p (.lst (ds ++ es)))
def mPop : Addr → List D → Wd → (D → Wd → Prop) → Prop := fun p xs W Q => ∃ y ds, xs = [] ∧ W p = some (.lst ds) ∧ ds[ds.length - 1]? = some y ∧ Q y (put W p (.lst ds.dropLast))
def mClear : Addr → List D → Wd → (D → Wd → Prop) → Prop := fun p xs W Q => ∃ ds, xs = [] ∧ W p = some (.lst ds) ∧ Q .non (put W p (.lst []))
theorem own_lst {W : Wd} {H : Hp} (o : Own W H) {p : Addr} {ds0 ds : List D} {vs : List V} (h : W p = some (.lst ds0)) (l : IsL W H ds vs) : Own (put W p (.lst ds)) (upd H p (.lst vs)) ∧ Step W H (put W p (.lst ds)) (upd H p (.lst vs)) := by
  have h6 : H p = none ∨ W p ≠ none := .inr (by rw [h]; simp)
  exact ⟨o.put h6 ⟨vs, upd_same, l.mono (Step.put h6)⟩, Step.put h6⟩
theorem m_append : SimM rAppend mAppend := by
  rintro p xs W H Q vs Qd o i ⟨y, ds, rfl, h, hl, q⟩ fin
  obtain ⟨v, rfl, i1⟩ := isL1 i
  obtain ⟨us, h1, h2⟩ := o p _ h
  obtain ⟨o2, s2⟩ := own_lst o h (h2.append (.cons i1 .nil))
  exact ⟨p, us, v, rfl, rfl, h1, by rw [← h2.length]; exact hl, fin _ _ _ _ q s2 o2 .non⟩
theorem m_extend : SimM rExtend mExtend := by
  rintro p xs W H Q vs Qd o i ⟨y, ds, es, rfl, h, hs, hl, q⟩ fin
  obtain ⟨v, rfl, i1⟩ := isL1 i
  obtain ⟨us, h1, h2⟩ := o p _ h
  obtain ⟨a, ws, rfl, h3, h4⟩ := listOf_at o i1 hs
  obtain ⟨o2, s2⟩ := own_lst o h (h2.append h4)
  exact ⟨p, a, us, ws, rfl, rfl, h1, h3, by rw [← h2.length, ← h4.length]; exact hl, fin _ _ _ _ q s2 o2 .non⟩
theorem m_pop : SimM rPop mPop := by
  rintro p xs W H Q vs Qd o i ⟨y, ds, rfl, h, hy, q⟩ fin
  cases i
  obtain ⟨us, h1, h2⟩ := o p _ h
  obtain ⟨v, h3, h4⟩ := h2.get hy
  obtain ⟨o2, s2⟩ := own_lst o h h2.dropLast
  exact ⟨p, us, v, rfl, rfl, h1, by rw [← h2.length]; exact h3, fin _ _ _ _ q s2 o2 (h4.mono s2)⟩
theorem m_clear : SimM rClear mClear := by
  rintro p xs W H Q vs Qd o i ⟨ds, rfl, h, q⟩ fin
  cases i
  obtain ⟨us, h1, h2⟩ := o p _ h
  obtain ⟨o2, s2⟩ := own_lst o h (ds := []) .nil
  exact ⟨p, us, rfl, rfl, h1, fin _ _ _ _ q s2 o2 .non⟩
section
variable {X : Cx} {W0 : Wd} {H0 : Hp} {e o i : Expr} {es : List Expr} {ga gi : GE} {gs : GA} {pos apos cpos : Pos} {name : Str} {id : String} {r : V → List V → Hp → VK → Prop} {f : Addr → List D → Wd → (D → Wd → Prop) → Prop}
theorem d_lm (pa : PlainAttrs "list") (slot : Slot "list" name id) (hty : typeOf (.builtin id) = pure (.type "method_descriptor")) (hm : MtR X id r) (hs : SimM r f) (ho : DE W0 H0 X o ga) (ha : DA W0 H0 X (e :: es) gs)
    (hbase : attributeBase o name X.env (eval o X.env) = eval o X.env := by rfl)
    (hfew : ((backTo cpos (starEach (e :: es) X.env)).all (fun x => !x.1) && (backToKw cpos (keywordEach [] X.env)).all (fun x => x.1.isSome)
      && decide ((e :: es).length + ([] : List Keyword).length + (if ([] : List Keyword).isEmpty then 0 else 1) < 30)) = true := by rfl)
    (hline : (apos.endLine == cpos.line) = true := by rfl) (hse : starEach (e :: es) X.env = (false, eval e X.env) :: starEach es X.env := by rfl) (hplain : (backTo cpos (starEach es X.env)).any (·.1) = false := by rfl) :
    DE W0 H0 X (.Call (.Attribute o name apos) (e :: es) [] cpos) (gLM f ga gs) := by
  refine (pe_bm pa slot hty hm ho ha hbase hfew hline hse hplain).to ?_
  rintro σ H Q ⟨δ, W, Qd, at_, h, fin⟩
  refine ⟨δ, W, _, at_, h, ?_⟩
  rintro x W1 v H1 ⟨p, ds, rfl, hp, q⟩ s ow i
  cases i
  obtain ⟨vs, h1, h2⟩ := ow p _ hp
  refine ⟨.inl ⟨rfl, vs, .inl (.inl h1)⟩, δ, W1, _, at_.go s ow, q, fun xs W2 us H2 q2 s2 o2 i2 => ?_⟩
  exact hs p xs W2 H2 Q us Qd o2 i2 q2 (fin.go (s.trans s2))
theorem d_lm0 (pa : PlainAttrs "list") (slot : Slot "list" name id) (hty : typeOf (.builtin id) = pure (.type "method_descriptor")) (hm : MtR X id r) (hs : SimM r f) (ho : DE W0 H0 X o ga)
    (hbase : attributeBase o name X.env (eval o X.env) = eval o X.env := by rfl) (hline : (apos.endLine == cpos.line) = true := by rfl) : DE W0 H0 X (.Call (.Attribute o name apos) [] [] cpos) (gLM f ga gNil) := by
  refine (pe_bm0 pa slot hty hm ho hbase hline).to ?_
  rintro σ H Q ⟨δ, W, Qd, at_, h, fin⟩
  refine ⟨δ, W, _, at_, h, ?_⟩
  rintro x W1 v H1 ⟨p, ds, rfl, hp, q⟩ s ow i
  cases i
  obtain ⟨vs, h1, h2⟩ := ow p _ hp
  exact ⟨.inl ⟨rfl, vs, .inl (.inl h1)⟩, hs p [] W1 H1 Q [] Qd ow .nil q (fin.go s)⟩
/-- o[i] = .. of an owned list -/
def kSub (go gi : GE) : GG := fun d δ W Q => go δ W fun x W1 => gi δ W1 fun y W2 => ∃ p ds k j, x = .ref p ∧ y = .int k ∧ W2 p = some (.lst ds) ∧ ixN ds.length k = some j ∧ Q δ (put W2 p (.lst (ds.set j d)))
theorem k_sub (ho : DE W0 H0 X o ga) (hi : DE W0 H0 X i gi)
    (ha : ∀ v, assign (.Subscript o i pos) X.env v = (do
      let ov ← holding [v] (eval o X.env)
      let iv ← holding [v, ov] (eval i X.env)
      standAt pos
      holding [v, ov, iv] (setItem ov iv v)
      release [v, ov, iv] []) := by intro _; rfl) : DG W0 H0 X (.Subscript o i pos) (kSub ga gi) := by
  refine ⟨_, pg_sub ho hi set_list ha, ?_⟩
  intro d v δ W σ H Q Qd at_ i1 q f
  refine ⟨δ, W, _, at_, q, fun x W1 vx H1 q1 s1 o1 j1 => ⟨δ, W1, _, at_.go s1 o1, q1, ?_⟩⟩
  rintro y W2 vy H2 ⟨p, ds, k, j, rfl, rfl, hp, hj, q2⟩ s2 o2 j2
  cases j1
  cases j2
  obtain ⟨vs, h1, h2⟩ := o2 p _ hp
  have s12 := s1.trans s2
  obtain ⟨o3, s3⟩ := own_lst o2 hp ((h2.set (i1.mono s12)) j)
  exact ⟨p, vs, k, j, rfl, rfl, h1, by rw [← h2.length]; exact hj, f _ _ _ _ q2 (at_.go (s12.trans s3) o3) (s12.trans s3)⟩
end
end DL
end
section
set_option maxRecDepth 100000
set_option maxHeartbeats 2000000
namespace DL
open PySem PySem.Spec PyProof.Rows L2

structure Has (P : Program) (w : World) (K : PySem.W.Frag) (mg : Str → Option Value) (base : Heap) (CX : CXT) (k : Nat) (x : Str) (f : Addr) (ps : List Str) (sp : DSp) : Prop where
  ok : ∃ fd, FnOk P w K mg base CX k f fd ps (liftSp sp) ∧ Binds K fd ps []
  kp : PySem.W.keepIn K (.ref f) = true
  gl : mg x = some (.ref f)
/-- a method -/
structure HasM (P : Program) (w : World) (K : PySem.W.Frag) (mg : Str → Option Value) (base : Heap) (CX : CXT) (k : Nat) (C : Addr) (m : Str) (f : Addr) (ps : List Str) (sp : DSp) : Prop where
  ok : ∃ fd, FnOk P w K mg base CX k f fd ps (liftSp sp) ∧ Binds K fd ps []
  me : Meth K C m f
  cl : Cls K C
/-- a class and its __init__ -/
structure HasC (P : Program) (w : World) (K : PySem.W.Frag) (mg : Str → Option Value) (base : Heap) (CX : CXT) (k : Nat) (x : Str) (C f : Addr) (ps : List Str) (sp : DSp) : Prop where
  ok : ∃ fd, FnOk P w K mg base CX k f fd ps (liftSp sp) ∧ Binds K fd ps []
  mkr : Mk K C f
  gl : mg x = some (.ref C)
section
variable {X : Cx} {W0 : Wd} {H0 : Hp} {k j : Nat} {f C : Addr} {ps : List Str} {sp : DSp} {E : XK} {Ed : XD} {x m : Str} {p pos apos : Pos} {e o : Expr} {es : List Expr} {ga : GE} {gs : GA}
theorem d_callH (h : Has X.prog X.w X.K X.mg X.base CX0 k x f ps sp) (hr : Room k X.A) (hg : Gl X x) (ha : DA W0 H0 X (e :: es) gs) (hdb : (x == ("__debug__" : Str)) = false := by decide) (he : starEach (e :: es) X.env = (false, eval e X.env) :: starEach es X.env := by rfl) (hpl : (backTo pos (starEach es X.env)).any (·.1) = false := by rfl) :
    DE W0 H0 X (.Call (.Name x p) (e :: es) [] pos) (gCall sp XD0 gs) := by
  obtain ⟨fd, F, b⟩ := h.ok
  exact d_call (E := E0) F hr hg h.gl h.kp b pass0 FinX.no ha hdb he hpl
/-- a def that may raise, where it doesn't -/
theorem d_callL (h : Has X.prog X.w X.K X.mg X.base (L2.CX X.prog X.w) k x f ps sp) (hr : Room k X.A) (hg : Gl X x) (ha : DA W0 H0 X (e :: es) gs) (hdb : (x == ("__debug__" : Str)) = false := by decide) (he : starEach (e :: es) X.env = (false, eval e X.env) :: starEach es X.env := by rfl) (hpl : (backTo pos (starEach es X.env)).any (·.1) = false := by rfl) :
    DE W0 H0 X (.Call (.Name x p) (e :: es) [] pos) (gCall sp XD0 gs) := by
  obtain ⟨fd, F, b⟩ := h.ok
  exact d_call (E := E0) F hr hg h.gl h.kp b passL FinX.no ha hdb he hpl
/-- .. where what it raises leaves the body -/
theorem d_callE (h : Has X.prog X.w X.K X.mg X.base (L2.CX X.prog X.w) k x f ps sp) (hr : Room k X.A) (hg : Gl X x) (hE : FinX W0 H0 E Ed) (tk : Takes X (fun cls d _ H => E cls d H)) (ha : DA W0 H0 X (e :: es) gs) (hdb : (x == ("__debug__" : Str)) = false := by decide) (he : starEach (e :: es) X.env = (false, eval e X.env) :: starEach es X.env := by rfl) (hpl : (backTo pos (starEach es X.env)).any (·.1) = false := by rfl) :
    DE W0 H0 X (.Call (.Name x p) (e :: es) [] pos) (gCall sp Ed gs) := by
  obtain ⟨fd, F, b⟩ := h.ok
  exact d_call (E := E) F hr hg h.gl h.kp b (passes_call tk fun _ _ _ _ h => h) hE ha hdb he hpl
theorem d_methH {pl : Sem Bool} (h : HasM X.prog X.w X.K X.mg X.base CX0 k C m f ps sp) (he : DE W0 H0 X o ga) (hr : Room k X.A) (ha : DA W0 H0 X (e :: es) gs)
    (hst : starEach (e :: es) X.env = (false, eval e X.env) :: starEach es X.env := by rfl) (hpl : (backTo pos (starEach es X.env)).any (·.1) = false := by rfl)
    (ht : eval (.Call (.Attribute o m apos) (e :: es) [] pos) X.env = (do
      let ov ← eval o X.env
      standAt apos.atName
      let (f, first) ← holding [ov] (getMethod ov m pl)
      callWith pos f first (backTo pos (starEach (e :: es) X.env)) (backToKw pos (keywordEach [] X.env))) := by rfl) :
    DE W0 H0 X (.Call (.Attribute o m apos) (e :: es) [] pos) (gMeth C m sp XD0 ga gs) := by
  obtain ⟨fd, F, b⟩ := h.ok
  exact d_meth (E := E0) he h.cl h.me F hr b pass0 FinX.no ha hst hpl ht
theorem d_methH0 {pl : Sem Bool} (h : HasM X.prog X.w X.K X.mg X.base CX0 k C m f ps sp) (he : DE W0 H0 X o ga) (hr : Room k X.A)
    (ht : eval (.Call (.Attribute o m apos) [] [] pos) X.env = (do
      let ov ← eval o X.env
      standAt apos.atName
      let (f, first) ← holding [ov] (getMethod ov m pl)
      callWith pos f first (backTo pos (starEach [] X.env)) (backToKw pos (keywordEach [] X.env))) := by rfl) :
    DE W0 H0 X (.Call (.Attribute o m apos) [] [] pos) (gMeth C m sp XD0 ga gNil) := by
  obtain ⟨fd, F, b⟩ := h.ok
  exact d_meth0 (E := E0) he h.cl h.me F hr b pass0 FinX.no ht
theorem d_makeH (h : HasC X.prog X.w X.K X.mg X.base CX0 k x C f ps sp) (hr : Room (k + 1) X.A) (hg : Gl X x) (ha : DA W0 H0 X (e :: es) gs) (hdb : (x == ("__debug__" : Str)) = false := by decide) (he : starEach (e :: es) X.env = (false, eval e X.env) :: starEach es X.env := by rfl) (hpl : (backTo pos (starEach es X.env)).any (·.1) = false := by rfl) :
    DE W0 H0 X (.Call (.Name x p) (e :: es) [] pos) (gMake C sp XD0 gs) := by
  obtain ⟨fd, F, b⟩ := h.ok
  exact d_make (E := E0) h.mkr F hr hg h.gl b pass0 FinX.no ha hdb he hpl
theorem d_makeL (h : HasC X.prog X.w X.K X.mg X.base (L2.CX X.prog X.w) k x C f ps sp) (hr : Room (k + 1) X.A) (hg : Gl X x) (ha : DA W0 H0 X (e :: es) gs) (hdb : (x == ("__debug__" : Str)) = false := by decide) (he : starEach (e :: es) X.env = (false, eval e X.env) :: starEach es X.env := by rfl) (hpl : (backTo pos (starEach es X.env)).any (·.1) = false := by rfl) :
    DE W0 H0 X (.Call (.Name x p) (e :: es) [] pos) (gMake C sp XD0 gs) := by
  obtain ⟨fd, F, b⟩ := h.ok
  exact d_make (E := E0) h.mkr F hr hg h.gl b passL FinX.no ha hdb he hpl
theorem d_makeE (h : HasC X.prog X.w X.K X.mg X.base (L2.CX X.prog X.w) k x C f ps sp) (hr : Room (k + 1) X.A) (hg : Gl X x) (hE : FinX W0 H0 E Ed) (tk : Takes X (fun cls d _ H => E cls d H)) (ha : DA W0 H0 X (e :: es) gs) (hdb : (x == ("__debug__" : Str)) = false := by decide) (he : starEach (e :: es) X.env = (false, eval e X.env) :: starEach es X.env := by rfl) (hpl : (backTo pos (starEach es X.env)).any (·.1) = false := by rfl) :
    DE W0 H0 X (.Call (.Name x p) (e :: es) [] pos) (gMake C sp Ed gs) := by
  obtain ⟨fd, F, b⟩ := h.ok
  exact d_make (E := E) h.mkr F hr hg h.gl b (passes_call tk fun _ _ _ _ h => h) hE ha hdb he hpl
end
theorem Has.mono {P : Program} {w : World} {K : PySem.W.Frag} {mg : Str → Option Value} {base : Heap} {CX : CXT} {k j : Nat} {x : Str} {f : Addr} {ps : List Str} {sp : DSp} (h : Has P w K mg base CX j x f ps sp) (l : j ≤ k) : Has P w K mg base CX k x f ps sp :=
  ⟨let ⟨fd, F, b⟩ := h.ok; ⟨fd, F.mono l, b⟩, h.kp, h.gl⟩
theorem HasM.mono {P : Program} {w : World} {K : PySem.W.Frag} {mg : Str → Option Value} {base : Heap} {CX : CXT} {k j : Nat} {C : Addr} {x : Str} {f : Addr} {ps : List Str} {sp : DSp} (h : HasM P w K mg base CX j C x f ps sp) (l : j ≤ k) : HasM P w K mg base CX k C x f ps sp :=
  ⟨let ⟨fd, F, b⟩ := h.ok; ⟨fd, F.mono l, b⟩, h.me, h.cl⟩
/-- a weaker promise -/
theorem liftSp_imp {sp sp' : DSp} (h : ∀ ds W Q E, sp' ds W Q E → sp ds W Q E) : ∀ vs H Q E, liftSp sp' vs H Q E → liftSp sp vs H Q E := fun vs H Q E ⟨ds, W, Qd, Ed, a, b, c, d, e⟩ => ⟨ds, W, Qd, Ed, a, b, h _ _ _ _ c, d, e⟩
theorem Has.imp {P : Program} {w : World} {K : PySem.W.Frag} {mg : Str → Option Value} {base : Heap} {CX : CXT} {k : Nat} {x : Str} {f : Addr} {ps : List Str} {sp sp' : DSp} (h : Has P w K mg base CX k x f ps sp) (i : ∀ ds W Q E, sp' ds W Q E → sp ds W Q E) : Has P w K mg base CX k x f ps sp' :=
  ⟨let ⟨fd, F, b⟩ := h.ok; ⟨fd, F.imp (liftSp_imp i), b⟩, h.kp, h.gl⟩
theorem HasM.imp {P : Program} {w : World} {K : PySem.W.Frag} {mg : Str → Option Value} {base : Heap} {CX : CXT} {k : Nat} {C : Addr} {x : Str} {f : Addr} {ps : List Str} {sp sp' : DSp} (h : HasM P w K mg base CX k C x f ps sp) (i : ∀ ds W Q E, sp' ds W Q E → sp ds W Q E) : HasM P w K mg base CX k C x f ps sp' :=
  ⟨let ⟨fd, F, b⟩ := h.ok; ⟨fd, F.imp (liftSp_imp i), b⟩, h.me, h.cl⟩
/-- what is never asked -/
theorem FnOk.never {P : Program} {w : World} {K : PySem.W.Frag} {mg : Str → Option Value} {base : Heap} {CX : CXT} {k : Nat} {f : Addr} {fd : FuncData} {ps : List Str} {sp : DSp} (h : ∀ ds W Q E, ¬ sp ds W Q E) : FnOk P w K mg base CX k f fd ps (liftSp sp) :=
  ⟨fun _ _ _ _ ⟨_, _, _, _, _, _, q, _⟩ => (h _ _ _ _ q).elim, fun _ _ _ _ _ _ _ _ _ _ _ _ _ ⟨_, _, _, _, _, _, q, _⟩ => (h _ _ _ _ q).elim⟩
theorem kb_NoneType_int : kitB "NoneType" "int" = some false := by decide +kernel
theorem kb_NoneType_bool : kitB "NoneType" "bool" = some false := by decide +kernel
theorem kb_NoneType_str : kitB "NoneType" "str" = some false := by decide +kernel
theorem kb_NoneType_tuple : kitB "NoneType" "tuple" = some false := by decide +kernel
theorem kb_NoneType_list : kitB "NoneType" "list" = some false := by decide +kernel
theorem kb_bool_int : kitB "bool" "int" = some true := by decide +kernel
theorem kb_bool_bool : kitB "bool" "bool" = some true := by decide +kernel
theorem kb_bool_str : kitB "bool" "str" = some false := by decide +kernel
theorem kb_bool_tuple : kitB "bool" "tuple" = some false := by decide +kernel
theorem kb_bool_list : kitB "bool" "list" = some false := by decide +kernel
theorem kb_int_int : kitB "int" "int" = some true := by decide +kernel
theorem kb_int_bool : kitB "int" "bool" = some false := by decide +kernel
theorem kb_int_str : kitB "int" "str" = some false := by decide +kernel
theorem kb_int_tuple : kitB "int" "tuple" = some false := by decide +kernel
theorem kb_int_list : kitB "int" "list" = some false := by decide +kernel
theorem kb_str_int : kitB "str" "int" = some false := by decide +kernel
theorem kb_str_bool : kitB "str" "bool" = some false := by decide +kernel
theorem kb_str_str : kitB "str" "str" = some true := by decide +kernel
theorem kb_str_tuple : kitB "str" "tuple" = some false := by decide +kernel
theorem kb_str_list : kitB "str" "list" = some false := by decide +kernel
theorem kb_tuple_int : kitB "tuple" "int" = some false := by decide +kernel
theorem kb_tuple_bool : kitB "tuple" "bool" = some false := by decide +kernel
theorem kb_tuple_str : kitB "tuple" "str" = some false := by decide +kernel
theorem kb_tuple_tuple : kitB "tuple" "tuple" = some true := by decide +kernel
theorem kb_tuple_list : kitB "tuple" "list" = some false := by decide +kernel
theorem kb_list_int : kitB "list" "int" = some false := by decide +kernel
theorem kb_list_bool : kitB "list" "bool" = some false := by decide +kernel
theorem kb_list_str : kitB "list" "str" = some false := by decide +kernel
theorem kb_list_tuple : kitB "list" "tuple" = some false := by decide +kernel
theorem kb_list_list : kitB "list" "list" = some true := by decide +kernel
theorem sz_small {n : Nat} (h : n ≤ 1000000) : n ≤ sizeLine := Nat.le_trans h (by decide)
theorem sz_less {n : Nat} (h : n ≤ 1000000) : n < sizeLine := Nat.lt_of_le_of_lt h (by decide)
end DL
end
section
set_option maxRecDepth 100000
set_option maxHeartbeats 2000000
namespace DL
open PySem PySem.Spec PyProof.Rows L2

def tKGet2 (K : PySem.W.Frag) (d : Addr) (td ty tx : TE) : TE := fun σ H Q => td σ H fun x H1 => x = .ref d ∧ ty σ H1 fun y H2 => tx σ H2 fun z H3 => ∃ w r, y = .str w ∧ PySem.W.nsIn K d w = some r ∧ (∀ u0, r = some u0 → ∃ v0, RelV v0 u0 ∧ Q v0 H3) ∧ (r = none → Q z H3)
section
variable {X : Cx} {o e f : Expr} {apos cpos : Pos} {td ty tx : TE} {d : Addr} {es : Array DictEntry} {n : Nat}
theorem pe_kget2 (D : KDict X.K X.w d es n) (ho : PE X o td) (he : PE X e ty) (hf : PE X f tx) (m : M2 X o "get" apos e f cpos) : PE X (.Call (.Attribute o "get" apos) [e, f] [] cpos) (tKGet2 X.K d td ty tx) := by
  refine ⟨fun pins s σ H Q I h => ?_⟩
  refine wpAny_Call_method m.base m.few m.line PySem.F.plainAttrs_dict PySem.F.slot_dict_get PySem.F.type_dict_get (thn (ho.run pins s σ H _ I h) fun u s1 ⟨x, H1, I1, rx, ex, q1⟩ => ?_)
  subst ex
  obtain rfl : u = Value.ref d := rx
  refine ⟨(PySem.W.mapOf_K (prog := X.prog) (w := X.w) I1.kIn D.at_ D.lit).typeIs, fun b q => ?_, ?_⟩
  · cases q
    exact ⟨_, I1.kIn _ _ D.at_, rfl⟩
  rw [m.trees]
  refine Calls.callWith_builtin rfl (Calls.evalArgs_plain (Calls.spliced_cons (thn (he.run pins s1 σ H1 _ I1 q1) fun iv s2 ⟨y, H2, I2, ry, q2⟩ =>
    Calls.spliced_cons (thn (hf.run pins s2 σ H2 _ I2 q2) fun fv s3 ⟨z, H3, I3, rz, w', r, ey, en, q3, q4⟩ => Calls.spliced_nil ?_))))
  subst ey
  obtain ⟨t, rfl⟩ := ry
  have hm := PySem.W.mapOf_K (prog := X.prog) (w := X.w) I3.kIn D.at_ D.lit
  refine call_meetsIn PySem.F.slot_dict_get hm.typeIs PySem.F.entry_dict_get (PySem.F.args_dict_get_3 _ _ _) (meets_dict_get_default (PySem.strKind X.prog X.w) d (PySem.strKind_is X.prog X.w w' t) D.low fv) ⟨_, hm, ?_⟩
  rw [PySem.W.find_K D.at_ en]
  cases r with
  | some u0 =>
    obtain ⟨v0, r0, q0⟩ := q3 u0 rfl
    exact ⟨v0, H3, I3.tok _, r0, q0⟩
  | none => exact ⟨z, H3, I3.tok _, rz, q4 rfl⟩
end
/-- d.get(w, n): ints -/
def gKGetI (K : PySem.W.Frag) (d : Addr) (ge gf : GE) : GE := fun δ W Q => ge δ W fun y W1 => gf δ W1 fun z W2 => ∃ w, y = .str w ∧ ((∃ i t, PySem.W.nsIn K d w = some (some (.int i t)) ∧ Q (.int i) W2) ∨ (PySem.W.nsIn K d w = some none ∧ Q z W2))
section
variable {X : Cx} {W0 : Wd} {H0 : Hp} {o e f : Expr} {apos cpos pos : Pos} {ge gf ga : GE} {d : Addr} {es : Array DictEntry} {n : Nat}
theorem d_kgetI (D : ∃ es n, KDict X.K X.w d es n) (ho : PE X o (tC (.ref d))) (he : DE W0 H0 X e ge) (hf : DE W0 H0 X f gf) (m : M2 X o "get" apos e f cpos) : DE W0 H0 X (.Call (.Attribute o "get" apos) [e, f] [] cpos) (gKGetI X.K d ge gf) := by
  obtain ⟨es, n, D⟩ := D
  refine (pe_kget2 D ho he hf m).to ?_
  rintro σ H Q ⟨δ, W, Qd, at_, h, fin⟩
  refine ⟨rfl, δ, W, _, at_, h, fun y W1 v H1 q1 s1 o1 i1 => ⟨δ, W1, _, at_.go s1 o1, q1, ?_⟩⟩
  rintro z W2 u H2 ⟨w, rfl, q2⟩ s2 o2 i2
  cases i1
  rcases q2 with ⟨i, t, en, q2⟩ | ⟨en, q2⟩
  · refine ⟨w, _, rfl, en, fun u0 e0 => ?_, fun e0 => by cases e0⟩
    cases e0
    exact ⟨.int i, ⟨t, rfl⟩, fin.go (s1.trans s2) |>.here o2 q2 (.int i)⟩
  · exact ⟨w, _, rfl, en, (fun u0 e0 => by cases e0), fun _ => fin.go (s1.trans s2) |>.here o2 q2 i2⟩
/-- a, b = d.get(w, (0, 0)): pairs of ints -/
def hKPair (K : PySem.W.Frag) (d : Addr) (ge : GE) (i j : Nat) : GS := fun G δ W => ge δ W fun y W1 => ∃ w, y = .str w ∧
  ((∃ p x y, PySem.W.nsIn K d w = some (some (.ref p)) ∧ (∀ H, SqT K H p [.int x, .int y]) ∧ G.nx ((δ.set i (some (.int x))).set j (some (.int y))) W1) ∨ (PySem.W.nsIn K d w = some none ∧ G.nx ((δ.set i (some (.int 0))).set j (some (.int 0))) W1))
theorem s_kpair {i j : Nat} {x y : Str} {k : Nat} {px py tpos : Pos} (D : ∃ es n, KDict X.K X.w d es n) (hc : X.calm = true) (hN : X.N.Nodup) (hi : X.N[i]? = some x) (hj : X.N[j]? = some y) (hx : Loc X.env.scope x) (hy : Loc X.env.scope y)
    (ho : PE X o (tC (.ref d))) (he : DE W0 H0 X e ge)
    {te : TE} (hf : PE X f te) (hte : ∀ σ H Q, te σ H Q = (∀ p, H p = none → Q (.ref p) (upd H p (.tup [.int 0, .int 0]))))
    (m : M2 X o "get" apos e f cpos)
    (hfx : X.fn x = true ∨ X.env.scope.names.lookup x = some .local := by first | exact .inl rfl | exact .inr rfl) (hfy : X.fn y = true ∨ X.env.scope.names.lookup y = some .local := by first | exact .inl rfl | exact .inr rfl)
    (hs : swapsWithSole [.Tuple [.Name x px, .Name y py] k tpos] (.Call (.Attribute o "get" apos) [e, f] [] cpos) pos.line X.env = pure false := by rfl) (hw : swappedStores [.Tuple [.Name x px, .Name y py] k tpos] (.Call (.Attribute o "get" apos) [e, f] [] cpos) X.env = pure none := by rfl) :
    DS W0 H0 X (.Assign [.Tuple [.Name x px, .Name y py] k tpos] (.Call (.Attribute o "get" apos) [e, f] [] cpos) pos) (hKPair X.K d ge i j) := by
  obtain ⟨es, n, D⟩ := D
  refine (ps_asg (pe_kget2 D ho he hf m) (pg_tup hc (pgs_cons (pg_name (i := i) hN hi hx hfx) (pgs_cons (pg_name (i := j) hN hj hy hfy) pgs_nil))) hs hw).to ?_
  rintro D σ H ⟨δ, W, G, at_, q, fin⟩
  refine ⟨rfl, δ, W, _, at_, q, ?_⟩
  rintro y W1 v H1 ⟨w, rfl, q1⟩ s1 o1 i1
  cases i1
  rw [hte]
  intro p hp
  have s2 : Step W1 H1 W1 (upd H1 p (.tup [.int 0, .int 0])) := Step.new hp
  have o2 := o1.laid (u := .tup [.int 0, .int 0]) hp
  have a2 := (at_.go s1 o1).go s2 o2
  rcases q1 with ⟨p', x, y, en, sq, q2⟩ | ⟨en, q2⟩
  · refine ⟨w, _, rfl, en, fun u0 e0 => ?_, fun e0 => by cases e0⟩
    cases e0
    exact ⟨.ref p', rfl, p', _, rfl, sq _, rfl, _, _, rfl, _, _, rfl, rfl, fin.nx _ _ _ _ q2 ((a2.set i (.int x)).set j (.int y)) (s1.trans s2)⟩
  · refine ⟨w, _, rfl, en, (fun u0 e0 => by cases e0), fun _ => ?_⟩
    exact ⟨p, _, rfl, .inl (.inl upd_same), rfl, _, _, rfl, _, _, rfl, rfl, fin.nx _ _ _ _ q2 ((a2.set i (.int 0)).set j (.int 0)) (s1.trans s2)⟩
def fInK (K : PySem.W.Frag) (neg : Bool) : GR2 := fun x y W Q => ∃ d w r, x = .str w ∧ y = .ref d ∧ PySem.W.nsIn K d w = some r ∧ Q (.bl (if neg then !r.isSome else r.isSome)) W
def gNotInK (K : PySem.W.Frag) (d : Addr) (ga : GE) : GE := fun δ W Q => ga δ W fun x W1 => ∃ w r, x = .str w ∧ PySem.W.nsIn K d w = some r ∧ Q (.bl (!r.isSome)) W1
theorem d_notInK {a b : Expr} {ga : GE} (D : ∃ es n, KDict X.K X.w d es n) (ha : DE W0 H0 X a ga) (hb : PE X b (tC (.ref d))) (hm : behindInMarks .NotIn b = false) : DE W0 H0 X (.Compare a [.NotIn] [b] pos) (gNotInK X.K d ga) := by
  obtain ⟨es, n, D⟩ := D
  refine (pe_cmpR (op_notIn_kd D) ha hb hm).to ?_
  rintro σ H Q ⟨δ, W, Qd, at_, h, fin⟩
  refine ⟨δ, W, _, at_, h, ?_⟩
  rintro x W1 v H1 ⟨w, r, rfl, en, q⟩ s o i
  cases i
  exact ⟨w, r, rfl, rfl, en, (fin.go s).here o q (.bl _)⟩
end

/-- what stands owned in W stands so in W' -/
def Agree (W W' : Wd) : Prop := ∀ b ob, W b = some ob → W' b = some ob
theorem Agree.put {W : Wd} {p : Addr} {ob : Ob} (h : W p = none) : Agree W (put W p ob) := fun b x e => by
  rw [put_ne (fun z => by rw [z, h] at e; cases e)]
  exact e
theorem lcGo_pure {p j : Nat} {gt : GT} {ge : GE} {δ0 : Dt} {W : Wd} (f : D → Bool) (v : D → D) (hp : W p = none) : ∀ (items : List D) (acc : List D) (Q : Wd → Prop), acc.length + items.length ≤ 1000000 →
    (∀ x ∈ items, ∀ W' (Q' : Bool → Wd → Prop), Agree W W' → Q' (f x) W' → gt (δ0.set j (some x)) W' Q') → (∀ x ∈ items, f x = true → ∀ W' (Q' : D → Wd → Prop), Agree W W' → Q' (v x) W' → ge (δ0.set j (some x)) W' Q') →
    Q (put W p (.lst (acc ++ (items.filter f).map v))) → lcGo p (kName j) gt ge δ0 items (put W p (.lst acc)) Q
  | [], acc, Q, _, _, _, q => by simpa [lcGo] using q
  | x :: r, acc, Q, hl, ht, he, q => by
    rw [List.length_cons] at hl
    have ag : ∀ l, Agree W (put W p (.lst l)) := fun l => Agree.put hp
    refine ht x List.mem_cons_self _ _ (ag _) ?_
    cases hf : f x with
    | true =>
      refine iteT (he x List.mem_cons_self hf _ _ (ag _) ⟨acc, put_same, sz_less (by omega), ?_⟩)
      rw [put_put]
      refine lcGo_pure f v hp r _ Q (by rw [List.length_append, List.length_singleton]; omega) (fun y hy => ht y (List.mem_cons_of_mem _ hy)) (fun y hy => he y (List.mem_cons_of_mem _ hy)) ?_
      rw [List.filter_cons_of_pos hf, List.map_cons] at q
      rw [List.append_assoc]
      exact q
    | false =>
      refine iteF ?_
      refine lcGo_pure f v hp r acc Q (by omega) (fun y hy => ht y (List.mem_cons_of_mem _ hy)) (fun y hy => he y (List.mem_cons_of_mem _ hy)) ?_
      rw [List.filter_cons_of_neg (by rw [hf]; simp)] at q
      exact q
/-- [v for x in .. if f], nothing changed -/
theorem lc_done (f : D → Bool) (v : D → D) {gt : GT} {ge : GE} {j : Nat} {δ0 : Dt} {W : Wd} {items : List D} {F : Addr → Wd → Prop}
    (ht : ∀ x ∈ items, ∀ W' (Q' : Bool → Wd → Prop), Agree W W' → Q' (f x) W' → gt (δ0.set j (some x)) W' Q') (he : ∀ x ∈ items, f x = true → ∀ W' (Q' : D → Wd → Prop), Agree W W' → Q' (v x) W' → ge (δ0.set j (some x)) W' Q') (hl : items.length ≤ 1000000) (q : ∀ p, W p = none → F p (put W p (.lst ((items.filter f).map v)))) :
    ∀ p, W p = none → lcGo p (kName j) gt ge δ0 items (put W p (.lst [])) (F p) := fun p hp =>
  lcGo_pure f v hp items [] _ (by simpa using hl) ht he (by rw [List.nil_append]; exact q p hp)
end DL
end
section
set_option maxRecDepth 100000
set_option maxHeartbeats 2000000
namespace DL
open PySem PySem.Spec PyProof.Rows L2

theorem str_inj {a b : String} : (Str.ofString a = Str.ofString b) = (a = b) := by
  apply propext
  constructor
  · intro h
    rw [Str.ofString_eq_toList, Str.ofString_eq_toList] at h
    injection h with h
    have h2 : (a.toList.map Char.toNat) = b.toList.map Char.toNat := by simpa using h
    have h3 : a.toList = b.toList := by
      revert h2
      generalize a.toList = l
      generalize b.toList = m
      intro h2
      induction l generalizing m with
      | nil => cases m with
        | nil => rfl
        | cons y m => cases h2
      | cons x l ih => cases m with
        | nil => cases h2
        | cons y m =>
          rw [List.map_cons, List.map_cons] at h2
          injection h2 with e1 e2
          have e3 : x = y := Char.ext (UInt32.toNat_inj.mp e1)
          rw [e3, ih m e2]
    exact String.toList_inj.mp h3
  · intro h
    rw [h]
theorem str_beq {a b : String} : (Str.ofString a == Str.ofString b) = decide (a = b) := by
  rw [Bool.eq_iff_iff, beq_iff_eq, str_inj, decide_eq_true_iff]

def Fine (n : Nat) (d : D) : Prop := clD d = true ∧ (pyOf d).canLay0 = true ∧ (pyOf d).depth ≤ n
def FineL (n : Nat) (ds : List D) : Prop := clL ds = true ∧ PyData.canLayAll0 (pyOfL ds) = true ∧ PyData.depthAll (pyOfL ds) ≤ n
theorem fineL_iff {n : Nat} : ∀ {ds : List D}, FineL n ds ↔ ∀ d ∈ ds, Fine n d
  | [] => by simp [FineL, clL, pyOfL, PyData.canLayAll0, PyData.depthAll]
  | d :: r => by
    have ih := fineL_iff (n := n) (ds := r)
    simp only [FineL, Fine, clL, pyOfL, PyData.canLayAll0, PyData.depthAll, Bool.and_eq_true, List.forall_mem_cons, Nat.max_le] at ih ⊢
    rw [← ih]
    constructor
    · rintro ⟨⟨a, b⟩, ⟨c, e⟩, f, g⟩
      exact ⟨⟨a, c, f⟩, b, e, g⟩
    · rintro ⟨⟨a, c, f⟩, b, e, g⟩
      exact ⟨⟨a, b⟩, ⟨c, e⟩, f, g⟩
theorem fine_tup {n : Nat} {ds : List D} : Fine (n + 1) (.tup ds) ↔ ∀ d ∈ ds, Fine n d := by
  rw [← fineL_iff]
  simp only [Fine, FineL, clD, pyOf, PyData.canLay0, PyData.depth, Nat.add_le_add_iff_right]
theorem fine_lst {n : Nat} {ds : List D} : Fine (n + 1) (.lst ds) ↔ ∀ d ∈ ds, Fine n d := by
  rw [← fineL_iff]
  simp only [Fine, FineL, clD, pyOf, PyData.canLay0, PyData.depth, Nat.add_le_add_iff_right]
theorem fine_int {n : Nat} {i : Int} : Fine n (.int i) := ⟨rfl, rfl, Nat.zero_le _⟩
theorem fine_bl {n : Nat} {i : Bool} : Fine n (.bl i) := ⟨rfl, rfl, Nat.zero_le _⟩
theorem fine_non {n : Nat} : Fine n .non := ⟨rfl, rfl, Nat.zero_le _⟩
theorem fine_str {n : Nat} {x : Str} (h : PyData.strOk x = true) : Fine n (.str x) := ⟨rfl, h, Nat.zero_le _⟩
theorem Fine.mono {n m : Nat} {d : D} (h : Fine n d) (l : n ≤ m) : Fine m d := ⟨h.1, h.2.1, Nat.le_trans h.2.2 l⟩
theorem Fine.ok {n : Nat} {d : D} (h : Fine n d) (l : n ≤ 64) : okD d = true := by
  unfold okD SeqAt.shaped
  rw [h.1, h.2.1, decide_eq_true (Nat.le_trans h.2.2 l)]
  rfl
theorem Fine.res {n : Nat} {W : Wd} {d : D} (h : Fine n d) : res W d = d := by
  cases d <;> first | rfl | exact absurd h.1 Bool.false_ne_true
theorem Fine.plain {n : Nat} {d : D} (h : Fine n d) : ∃ k, kindOf (fun _ => none) d = some k ∧ ∀ W, kindOf W d = some k := by
  cases d <;> first | exact ⟨_, rfl, fun _ => rfl⟩ | exact absurd h.1 Bool.false_ne_true
/-- == of plain things -/
theorem fEq_fine {n m : Nat} {x y : D} {W : Wd} {Q : D → Wd → Prop} (hx : Fine n x) (hy : Fine m y) (h1 : n ≤ 64) (h2 : m ≤ 64) (q : Q (.bl (eqD x y)) W) : fEq x y W Q := by
  refine ⟨.inr ?_, ?_⟩
  · rw [hx.res, hy.res]
    exact ⟨hx.ok h1, hy.ok h2⟩
  · rw [hx.res, hy.res]
    exact q
theorem fNe_fine {n m : Nat} {x y : D} {W : Wd} {Q : D → Wd → Prop} (hx : Fine n x) (hy : Fine m y) (h1 : n ≤ 64) (h2 : m ≤ 64) (q : Q (.bl (!eqD x y)) W) : fNe x y W Q := by
  refine ⟨.inr ?_, ?_⟩
  · rw [hx.res, hy.res]
    exact ⟨hx.ok h1, hy.ok h2⟩
  · rw [hx.res, hy.res]
    exact q
theorem fEq_int {i j : Int} {W : Wd} {Q : D → Wd → Prop} : fEq (.int i) (.int j) W Q = Q (.bl (i == j)) W := by
  simp [fEq, okEq, scalD, res, eqD_int]
theorem fEq_str {i j : Str} {W : Wd} {Q : D → Wd → Prop} : fEq (.str i) (.str j) W Q = Q (.bl (i == j)) W := by
  simp [fEq, okEq, scalD, res, eqD_str]
theorem fNe_int {i j : Int} {W : Wd} {Q : D → Wd → Prop} : fNe (.int i) (.int j) W Q = Q (.bl (!(i == j))) W := by
  simp [fNe, okEq, scalD, res, eqD_int]
theorem fNe_str {i j : Str} {W : Wd} {Q : D → Wd → Prop} : fNe (.str i) (.str j) W Q = Q (.bl (!(i == j))) W := by
  simp [fNe, okEq, scalD, res, eqD_str]
theorem fEq_bl {i j : Bool} {W : Wd} {Q : D → Wd → Prop} : fEq (.bl i) (.bl j) W Q = Q (.bl (i == j)) W := by
  simp [fEq, okEq, scalD, res, eqD_bl]
theorem fNe_bl {i j : Bool} {W : Wd} {Q : D → Wd → Prop} : fNe (.bl i) (.bl j) W Q = Q (.bl (!(i == j))) W := by
  simp [fNe, okEq, scalD, res, eqD_bl]
/-- a list against the empty one -/
theorem eqvAll_nil {l : List D} : PyData.eqvAll (pyOfL l) [] = l.isEmpty := by
  cases l with
  | nil => rfl
  | cons a r => simp [pyOfL, PyData.eqvAll]
theorem eqD_nil {l : List D} : eqD (.lst l) (.lst []) = l.isEmpty := by rw [eqD_lst]; exact eqvAll_nil
theorem eqD_str_not {d : D} {n : Nat} {x : Str} (h : Fine n d) (hn : ∀ y, d ≠ .str y) : eqD d (.str x) = false := by
  cases d <;> first | (simp [eqD, pyOf, PyData.eqv]; done) | exact absurd rfl (hn _)
theorem kindOf_non {W : Wd} : kindOf W .non = some "NoneType" := rfl
theorem kindOf_bl {W : Wd} {b : Bool} : kindOf W (.bl b) = some "bool" := rfl
theorem kindOf_int {W : Wd} {b : Int} : kindOf W (.int b) = some "int" := rfl
theorem kindOf_str {W : Wd} {b : Str} : kindOf W (.str b) = some "str" := rfl
theorem kindOf_tup {W : Wd} {b : List D} : kindOf W (.tup b) = some "tuple" := rfl
theorem kindOf_lst {W : Wd} {b : List D} : kindOf W (.lst b) = some "list" := rfl
theorem kindOf_frz {W : Wd} {b : List D} : kindOf W (.frz b) = some "list" := rfl
theorem kindOf_ref {W : Wd} {p : Addr} {ds : List D} (h : W p = some (.lst ds)) : kindOf W (.ref p) = some "list" := by simp [kindOf, h]
theorem seqOf_lst {W : Wd} {b : List D} : seqOf W (.lst b) = some b := rfl
theorem seqOf_tup {W : Wd} {b : List D} : seqOf W (.tup b) = some b := rfl
theorem seqOf_frz {W : Wd} {b : List D} : seqOf W (.frz b) = some b := rfl
theorem seqOf_ref {W : Wd} {p : Addr} {ds : List D} (h : W p = some (.lst ds)) : seqOf W (.ref p) = some ds := by simp [seqOf, h]
theorem seqOf_put {W : Wd} {p : Addr} {ds : List D} : seqOf (put W p (.lst ds)) (.ref p) = some ds := seqOf_ref put_same
theorem listOf_lst {W : Wd} {b : List D} : listOf W (.lst b) = some b := rfl
theorem listOf_ref {W : Wd} {p : Addr} {ds : List D} (h : W p = some (.lst ds)) : listOf W (.ref p) = some ds := by simp [listOf, h]
theorem listOf_put {W : Wd} {p : Addr} {ds : List D} : listOf (put W p (.lst ds)) (.ref p) = some ds := listOf_ref put_same
theorem res_put {W : Wd} {p : Addr} {ds : List D} : res (put W p (.lst ds)) (.ref p) = .lst ds := by simp [res, put_same]
theorem len_0 {n : Nat} : (((n + 1 : Nat) : Int) == 0) = false := by rw [beq_eq_false_iff_ne]; omega
theorem atI_0 {α : Type} {a : α} {r : List α} : atI (a :: r) 0 = some a := atI_nat (j := 0) rfl
theorem atI_1 {α : Type} {a b : α} {r : List α} : atI (a :: b :: r) 1 = some b := atI_nat (j := 1) rfl
theorem atI_2 {α : Type} {a b c : α} {r : List α} : atI (a :: b :: c :: r) 2 = some c := atI_nat (j := 2) rfl
theorem atI_3 {α : Type} {a b c d : α} {r : List α} : atI (a :: b :: c :: d :: r) 3 = some d := atI_nat (j := 3) rfl
theorem ixN_1_0 : ixN 1 0 = some 0 := rfl
theorem ixN_2_0 : ixN 2 0 = some 0 := rfl
theorem ixN_2_1 : ixN 2 1 = some 1 := rfl
theorem ixN_3_0 : ixN 3 0 = some 0 := rfl
theorem ixN_3_1 : ixN 3 1 = some 1 := rfl
theorem ixN_3_2 : ixN 3 2 = some 2 := rfl
theorem ixN_4_0 : ixN 4 0 = some 0 := rfl
theorem ixN_4_1 : ixN 4 1 = some 1 := rfl
theorem ixN_4_2 : ixN 4 2 = some 2 := rfl
theorem ixN_4_3 : ixN 4 3 = some 3 := rfl
theorem fIdx_at {ds : List D} {i : Int} {x d : D} {W : Wd} {Q : D → Wd → Prop} (hs : seqOf W x = some ds) (h : atI ds i = some d) (q : Q d W) : fIdx x (.int i) W Q := ⟨ds, i, d, hs, rfl, h, q⟩
theorem cut_from {α : Type} {xs : List α} {k : Nat} : cutG xs (some (k : Int)) none = xs.drop k := by
  unfold cutG
  rw [HT.sIx_nat, HT.sIx_none, List.take_of_length_le]
  · by_cases h : k ≤ xs.length
    · rw [Nat.min_eq_left h]
    · rw [Nat.min_eq_right (by omega), List.drop_of_length_le (Nat.le_refl _), List.drop_of_length_le (by omega)]
  · rw [List.length_drop]
    omega
theorem cut_to {α : Type} {xs : List α} {k : Nat} : cutG xs none (some (k : Int)) = xs.take k := by
  unfold cutG
  rw [HT.sIx_nat, HT.sIx_none, List.drop_zero, Nat.sub_zero]
  by_cases h : k ≤ xs.length
  · rw [Nat.min_eq_left h]
  · rw [Nat.min_eq_right (by omega), List.take_of_length_le (Nat.le_refl _), List.take_of_length_le (by omega)]
theorem cut_1 {α : Type} {xs : List α} : cutG xs (some 1) none = xs.drop 1 := cut_from (k := 1)
theorem sizeLine_le {n : Nat} (h : n ≤ 16777216) : n ≤ sizeLine := h
end DL
end
section
set_option maxRecDepth 100000
set_option maxHeartbeats 2000000
namespace DL
open PySem PySem.Spec PyProof.Rows L2

inductive Maker where
  | count (b s : Int)
  | row (ns : List Int)
inductive Op where
  | add (n : Int) | times (n : Int) | keep (r w : Int) | drop (k : Int) | take (k : Int) | each (k : Int) | til (n : Int) | unlike
inductive Ch where
  | src (m : Maker)
  | op (c : Ch) (o : Op)
  | both (c i : Ch)
  | thn (c i : Ch)
inductive Stg where
  | op (o : Op)
  | both (i : Ch)
  | thn (i : Ch)
def mkD : Maker → D
  | .count b s => .tup [.str (Str.ofString "count"), .int b, .int s]
  | .row ns => .tup [.str (Str.ofString "row"), .tup (ns.map D.int)]
def opD : Op → D
  | .add n => .tup [.str (Str.ofString "add"), .int n]
  | .times n => .tup [.str (Str.ofString "times"), .int n]
  | .keep r w => .tup [.str (Str.ofString "keep"), .int r, .int w]
  | .drop k => .tup [.str (Str.ofString "drop"), .int k]
  | .take k => .tup [.str (Str.ofString "take"), .int k]
  | .each k => .tup [.str (Str.ofString "each"), .int k]
  | .til k => .tup [.str (Str.ofString "until"), .int k]
  | .unlike => .tup [.str (Str.ofString "unlike")]
theorem mkD_count {b s : Int} : mkD (.count b s) = .tup [.str (Str.ofString "count"), .int b, .int s] := rfl
theorem mkD_row {ns : List Int} : mkD (.row ns) = .tup [.str (Str.ofString "row"), .tup (ns.map D.int)] := rfl
theorem opD_add {n : Int} : opD (.add n) = .tup [.str (Str.ofString "add"), .int n] := rfl
theorem opD_times {n : Int} : opD (.times n) = .tup [.str (Str.ofString "times"), .int n] := rfl
theorem opD_keep {r w : Int} : opD (.keep r w) = .tup [.str (Str.ofString "keep"), .int r, .int w] := rfl
theorem opD_drop {k : Int} : opD (.drop k) = .tup [.str (Str.ofString "drop"), .int k] := rfl
theorem opD_take {k : Int} : opD (.take k) = .tup [.str (Str.ofString "take"), .int k] := rfl
theorem opD_each {k : Int} : opD (.each k) = .tup [.str (Str.ofString "each"), .int k] := rfl
theorem opD_til {k : Int} : opD (.til k) = .tup [.str (Str.ofString "until"), .int k] := rfl
theorem opD_unlike : opD .unlike = .tup [.str (Str.ofString "unlike")] := rfl
namespace Ch
def mk : Ch → Maker
  | .src m => m
  | .op c _ => c.mk
  | .both c _ => c.mk
  | .thn c _ => c.mk
/-- the stages, as they stand -/
def sts : Ch → List D
  | .src _ => []
  | .op c o => c.sts ++ [opD o]
  | .both c i => c.sts ++ [.tup [.str (Str.ofString "both"), .tup [mkD i.mk, .tup i.sts]]]
  | .thn c i => c.sts ++ [.tup [.str (Str.ofString "then"), .tup [mkD i.mk, .tup i.sts]]]
def stl : Ch → List Stg
  | .src _ => []
  | .op c o => c.stl ++ [.op o]
  | .both c i => c.stl ++ [.both i]
  | .thn c i => c.stl ++ [.thn i]
/-- all makers, by their numbers -/
def mks : Ch → List Maker
  | .src m => [m]
  | .op c _ => c.mks
  | .both c i => c.mks ++ i.mks
  | .thn c i => c.mks ++ i.mks
def nst : Ch → Nat
  | .src _ => 0
  | .op c _ => c.nst + 1
  | .both c i => c.nst + i.nst + 1
  | .thn c i => c.nst + i.nst + 1
def depth : Ch → Nat
  | .src _ => 0
  | .op c _ => c.depth
  | .both c i => max c.depth (i.depth + 1)
  | .thn c i => max c.depth (i.depth + 1)
def size : Ch → Nat
  | .src _ => 1
  | .op c _ => c.size + 1
  | .both c i => c.size + i.size + 1
  | .thn c i => c.size + i.size + 1
end Ch
def chD (c : Ch) : D := .tup [mkD c.mk, .tup c.sts]
def stgD : Stg → D
  | .op o => opD o
  | .both i => .tup [.str (Str.ofString "both"), chD i]
  | .thn i => .tup [.str (Str.ofString "then"), chD i]
theorem stgD_op {o : Op} : stgD (.op o) = opD o := rfl
theorem stgD_both {i : Ch} : stgD (.both i) = .tup [.str (Str.ofString "both"), chD i] := rfl
theorem stgD_thn {i : Ch} : stgD (.thn i) = .tup [.str (Str.ofString "then"), chD i] := rfl
theorem sts_eq : ∀ c : Ch, c.sts = c.stl.map stgD
  | .src _ => rfl
  | .op c o => by simp only [Ch.sts, Ch.stl, List.map_append, sts_eq c, List.map_cons, List.map_nil, stgD]
  | .both c i => by simp only [Ch.sts, Ch.stl, List.map_append, sts_eq c, List.map_cons, List.map_nil, stgD, chD]
  | .thn c i => by simp only [Ch.sts, Ch.stl, List.map_append, sts_eq c, List.map_cons, List.map_nil, stgD, chD]
theorem chD_eq (c : Ch) : chD c = .tup [mkD c.mk, .tup (c.stl.map stgD)] := by unfold chD; rw [sts_eq]
def okMk : Maker → Prop
  | .count _ _ => True
  | .row ns => ns.length ≤ 100
def okOp : Op → Prop
  | .keep r w => 2 ≤ w ∧ w ≤ 1000 ∧ 0 ≤ r ∧ r < w
  | .drop k => 0 ≤ k ∧ k ≤ 100
  | .take k => 0 ≤ k ∧ k ≤ 100
  | .each k => 1 ≤ k ∧ k ≤ 10
  | _ => True
/-- every part keeps to its bounds -/
def okCh : Ch → Prop
  | .src m => okMk m
  | .op c o => okCh c ∧ okOp o
  | .both c i => okCh c ∧ okCh i
  | .thn c i => okCh c ∧ okCh i
def okStg : Stg → Prop
  | .op o => okOp o
  | .both i => okCh i
  | .thn i => okCh i
/-- a chain as the program takes it -/
structure Good (c : Ch) : Prop where
  ok : okCh c
  nm : c.mks.length ≤ 4
  st : c.nst ≤ 12
theorem okCh_iff : ∀ {c : Ch}, okCh c ↔ okMk c.mk ∧ ∀ s ∈ c.stl, okStg s
  | .src m => by simp [okCh, Ch.mk, Ch.stl]
  | .op c o => by simp only [okCh, Ch.mk, Ch.stl, okCh_iff (c := c), List.mem_append, List.mem_singleton, or_imp, forall_and, forall_eq, okStg, and_assoc]
  | .both c i => by simp only [okCh, Ch.mk, Ch.stl, okCh_iff (c := c), List.mem_append, List.mem_singleton, or_imp, forall_and, forall_eq, okStg, and_assoc]
  | .thn c i => by simp only [okCh, Ch.mk, Ch.stl, okCh_iff (c := c), List.mem_append, List.mem_singleton, or_imp, forall_and, forall_eq, okStg, and_assoc]
/-- the chains within -/
def innOf : List Stg → List Ch
  | [] => []
  | .op _ :: r => innOf r
  | .both i :: r => i :: innOf r
  | .thn i :: r => i :: innOf r
def mksL (l : List Ch) : Nat := (l.map fun c => c.mks.length).sum
def nstL (l : List Ch) : Nat := (l.map Ch.nst).sum
theorem innOf_app : ∀ a b : List Stg, innOf (a ++ b) = innOf a ++ innOf b
  | [], b => rfl
  | .op _ :: r, b => innOf_app r b
  | .both i :: r, b => by show i :: innOf (r ++ b) = _; rw [innOf_app r b]; rfl
  | .thn i :: r, b => by show i :: innOf (r ++ b) = _; rw [innOf_app r b]; rfl
theorem mks_inn : ∀ c : Ch, c.mks = c.mk :: (innOf c.stl).flatMap Ch.mks
  | .src m => rfl
  | .op c o => by simp only [Ch.mks, Ch.mk, Ch.stl, innOf_app, innOf, List.append_nil, mks_inn c]
  | .both c i => by simp only [Ch.mks, Ch.mk, Ch.stl, innOf_app, innOf, mks_inn c, List.flatMap_append, List.flatMap_cons, List.flatMap_nil, List.append_nil, List.cons_append]
  | .thn c i => by simp only [Ch.mks, Ch.mk, Ch.stl, innOf_app, innOf, mks_inn c, List.flatMap_append, List.flatMap_cons, List.flatMap_nil, List.append_nil, List.cons_append]
theorem mksL_inn (c : Ch) : c.mks.length = 1 + mksL (innOf c.stl) := by
  rw [mks_inn c, List.length_cons, List.length_flatMap]
  unfold mksL
  omega
theorem nst_inn : ∀ c : Ch, c.nst = c.stl.length + nstL (innOf c.stl)
  | .src m => rfl
  | .op c o => by
    have := nst_inn c
    simp only [Ch.nst, Ch.stl, innOf_app, innOf, List.append_nil, List.length_append, List.length_singleton]
    omega
  | .both c i => by
    have := nst_inn c
    simp only [Ch.nst, Ch.stl, innOf_app, innOf, List.length_append, List.length_singleton, nstL, List.map_append, List.sum_append, List.map_cons, List.map_nil, List.sum_cons, List.sum_nil] at this ⊢
    omega
  | .thn c i => by
    have := nst_inn c
    simp only [Ch.nst, Ch.stl, innOf_app, innOf, List.length_append, List.length_singleton, nstL, List.map_append, List.sum_append, List.map_cons, List.map_nil, List.sum_cons, List.sum_nil] at this ⊢
    omega
theorem inn_ok {ss : List Stg} (h : ∀ s ∈ ss, okStg s) : ∀ c ∈ innOf ss, okCh c := by
  induction ss with
  | nil => intro c hc; cases hc
  | cons s r ih =>
    have hr := ih fun s hs => h s (List.mem_cons_of_mem _ hs)
    have h0 := h s List.mem_cons_self
    cases s with
    | op o => exact hr
    | both i => intro c hc; rcases List.mem_cons.mp hc with rfl | hc; exact h0; exact hr c hc
    | thn i => intro c hc; rcases List.mem_cons.mp hc with rfl | hc; exact h0; exact hr c hc
theorem inn_depth {c i : Ch} (h : i ∈ innOf c.stl) : i.depth < c.depth := by
  induction c with
  | src m => cases h
  | op c o ih => rw [Ch.stl, innOf_app] at h; exact ih (by simpa [innOf] using h)
  | both c j ih1 ih2 =>
    rw [Ch.stl, innOf_app] at h
    simp only [innOf, List.mem_append, List.mem_singleton] at h
    simp only [Ch.depth]
    rcases h with h | rfl
    · have := ih1 h; omega
    · omega
  | thn c j ih1 ih2 =>
    rw [Ch.stl, innOf_app] at h
    simp only [innOf, List.mem_append, List.mem_singleton] at h
    simp only [Ch.depth]
    rcases h with h | rfl
    · have := ih1 h; omega
    · omega
theorem mks_pos : ∀ c : Ch, 0 < c.mks.length
  | .src _ => Nat.zero_lt_one
  | .op c _ => mks_pos c
  | .both c _ => by have := mks_pos c; simp only [Ch.mks, List.length_append]; omega
  | .thn c _ => by have := mks_pos c; simp only [Ch.mks, List.length_append]; omega
theorem depth_lt : ∀ c : Ch, c.depth < c.mks.length
  | .src _ => Nat.zero_lt_one
  | .op c _ => depth_lt c
  | .both c i => by have := depth_lt c; have := depth_lt i; simp only [Ch.mks, Ch.depth, List.length_append]; omega
  | .thn c i => by have := depth_lt c; have := depth_lt i; simp only [Ch.mks, Ch.depth, List.length_append]; omega
/-- a stage with a chain within -/
def isInn : D → Bool := fun d => match d with | .tup (.str x :: _) => inD (.str x) [.str (Str.ofString "both"), .str (Str.ofString "then")] | _ => false
def innD : D → D := fun d => match d with | .tup (_ :: y :: _) => y | _ => .non
theorem isInn_both (i : Ch) : isInn (stgD (.both i)) = true := by show inD _ _ = true; simp only [inD, eqF, List.any_cons, str_beq]; simp
theorem isInn_thn (i : Ch) : isInn (stgD (.thn i)) = true := by show inD _ _ = true; simp only [inD, eqF, List.any_cons, str_beq]; simp
theorem isInn_op (o : Op) : isInn (stgD (.op o)) = false := by cases o <;> (show inD _ _ = false; simp only [inD, eqF, List.any_cons, List.any_nil, str_beq]; simp)
theorem inn_filter (ss : List Stg) : ((ss.map stgD).filter isInn).map innD = (innOf ss).map chD := by
  induction ss with
  | nil => rfl
  | cons s r ih =>
    rw [List.map_cons]
    cases s with
    | op o => rw [List.filter_cons_of_neg (by rw [isInn_op]; simp)]; exact ih
    | both i => rw [List.filter_cons_of_pos (isInn_both i), List.map_cons, ih]; rfl
    | thn i => rw [List.filter_cons_of_pos (isInn_thn i), List.map_cons, ih]; rfl
theorem fine_mkD (m : Maker) : Fine 2 (mkD m) := by
  cases m with
  | count b s => exact fine_tup.mpr (by simp only [List.forall_mem_cons]; exact ⟨fine_str (by decide +kernel), fine_int, fine_int, fun _ h => by cases h⟩)
  | row ns =>
    refine fine_tup.mpr ?_
    simp only [List.forall_mem_cons]
    refine ⟨fine_str (by decide +kernel), fine_tup.mpr fun d hd => ?_, fun _ h => by cases h⟩
    obtain ⟨n, _, rfl⟩ := List.mem_map.mp hd
    exact fine_int
theorem fine_opD (o : Op) : Fine 1 (opD o) := by
  cases o <;> (refine fine_tup.mpr ?_; simp only [List.forall_mem_cons]; first | exact ⟨fine_str (by decide +kernel), fun _ h => by cases h⟩ | exact ⟨fine_str (by decide +kernel), fine_int, fun _ h => by cases h⟩ | exact ⟨fine_str (by decide +kernel), fine_int, fine_int, fun _ h => by cases h⟩)
theorem fine_ch : ∀ c : Ch, Fine (3 * c.depth + 3) (chD c) ∧ ∀ d ∈ c.sts, Fine (3 * c.depth + 1) d := by
  have up : ∀ c : Ch, (∀ d ∈ c.sts, Fine (3 * c.depth + 1) d) → Fine (3 * c.depth + 3) (chD c) := fun c h => by
    refine fine_tup.mpr ?_
    simp only [List.forall_mem_cons]
    exact ⟨(fine_mkD _).mono (by omega), fine_tup.mpr h, fun _ h => by cases h⟩
  intro c
  induction c with
  | src m => exact ⟨up _ (fun d hd => (by cases hd)), fun d hd => (by cases hd)⟩
  | op c o ih =>
    have h : ∀ d ∈ (Ch.op c o).sts, Fine (3 * (Ch.op c o).depth + 1) d := fun d hd => by
      rcases List.mem_append.mp hd with hd | hd
      · exact ih.2 d hd
      · rw [List.mem_singleton.mp hd]; exact (fine_opD o).mono (by omega)
    exact ⟨up _ h, h⟩
  | both c i ih ih2 =>
    have h : ∀ d ∈ (Ch.both c i).sts, Fine (3 * (Ch.both c i).depth + 1) d := fun d hd => by
      have l1 : c.depth ≤ (Ch.both c i).depth := Nat.le_max_left _ _
      have l2 : i.depth + 1 ≤ (Ch.both c i).depth := Nat.le_max_right _ _
      rcases List.mem_append.mp hd with hd | hd
      · exact (ih.2 d hd).mono (by omega)
      · rw [List.mem_singleton.mp hd]
        refine (fine_tup (n := 3 * i.depth + 3).mpr ?_).mono (by omega)
        simp only [List.forall_mem_cons]
        exact ⟨fine_str (by decide +kernel), ih2.1, fun _ h => by cases h⟩
    exact ⟨up _ h, h⟩
  | thn c i ih ih2 =>
    have h : ∀ d ∈ (Ch.thn c i).sts, Fine (3 * (Ch.thn c i).depth + 1) d := fun d hd => by
      have l1 : c.depth ≤ (Ch.thn c i).depth := Nat.le_max_left _ _
      have l2 : i.depth + 1 ≤ (Ch.thn c i).depth := Nat.le_max_right _ _
      rcases List.mem_append.mp hd with hd | hd
      · exact (ih.2 d hd).mono (by omega)
      · rw [List.mem_singleton.mp hd]
        refine (fine_tup (n := 3 * i.depth + 3).mpr ?_).mono (by omega)
        simp only [List.forall_mem_cons]
        exact ⟨fine_str (by decide +kernel), ih2.1, fun _ h => by cases h⟩
    exact ⟨up _ h, h⟩
theorem ne_owned {W : Wd} {p : Addr} {l : List D} {Q : D → Wd → Prop} (hp : W p = some (.lst l)) (hf : ∀ d ∈ l, Fine 60 d) (q : Q (.bl (!l.isEmpty)) W) : fNe (.ref p) (.lst []) W Q := by
  have e : res W (.ref p) = .lst l := by simp [res, hp]
  have e2 : res W (.lst []) = .lst [] := rfl
  refine ⟨.inr ?_, ?_⟩
  · rw [e, e2]
    exact ⟨(fine_lst.mpr hf).ok (by omega), (fine_lst (n := 1).mpr (by simp)).ok (by omega)⟩
  · rw [e, e2, eqD_nil]
    exact q
theorem mksL_app (a b : List Ch) : mksL (a ++ b) = mksL a + mksL b := by unfold mksL; rw [List.map_append, List.sum_append]
theorem nstL_app (a b : List Ch) : nstL (a ++ b) = nstL a + nstL b := by unfold nstL; rw [List.map_append, List.sum_append]
theorem mksL_one (c : Ch) : mksL [c] = c.mks.length := by simp [mksL]
theorem nstL_one (c : Ch) : nstL [c] = c.nst := by simp [nstL]
theorem len_mksL : ∀ l : List Ch, l.length ≤ mksL l
  | [] => Nat.le_refl _
  | a :: r => by
    have h := len_mksL r
    have := mks_pos a
    rw [show a :: r = [a] ++ r from rfl, mksL_app, mksL_one, List.length_append, List.length_singleton]
    omega
theorem mem_mksL {i : Ch} {l : List Ch} (h : i ∈ l) : i.mks.length ≤ mksL l := by
  obtain ⟨s, t, rfl⟩ := List.append_of_mem h
  rw [mksL_app, show i :: t = [i] ++ t from rfl, mksL_app, mksL_one]
  omega
theorem mem_nstL {i : Ch} {l : List Ch} (h : i ∈ l) : i.nst ≤ nstL l := by
  obtain ⟨s, t, rfl⟩ := List.append_of_mem h
  rw [nstL_app, show i :: t = [i] ++ t from rfl, nstL_app, nstL_one]
  omega
theorem stl_le (c : Ch) : c.stl.length ≤ c.nst := by have := nst_inn c; omega
theorem innOf_le : ∀ ss : List Stg, (innOf ss).length ≤ ss.length
  | [] => Nat.le_refl _
  | .op _ :: r => Nat.le_succ_of_le (innOf_le r)
  | .both _ :: r => Nat.succ_le_succ (innOf_le r)
  | .thn _ :: r => Nat.succ_le_succ (innOf_le r)
end DL
end
section
set_option maxRecDepth 100000
set_option maxHeartbeats 2000000
namespace DL
open PySem PySem.Spec PyProof.Rows L2

inductive W3 where | num | fin | long
  deriving DecidableEq
/-- a link's own: whether it has ended, how many it told, the last, left -/
structure LSt where
  over : Bool
  told : Nat
  last : Option Int
  left : Nat
inductive Sd where
  | src (g : Nat)
  | op (n : Sd) (s : LSt)
  | two (n i : Sd) (s : LSt)
/-- a chain's state, how many may be drawn still, what is undone -/
structure Dr where
  sd : Sd
  b : Nat
  ls : List Int
structure R where
  w : W3
  k : Int
  d : Dr
/-- draws until a good one comes -/
def seek (f : Dr → R) (good : Int → Bool) (μ : Dr → Nat) (d : Dr) : R :=
  if (f d).w = .num ∧ good (f d).k = false ∧ μ (f d).d < μ d then seek f good μ (f d).d else f d
termination_by μ d
decreasing_by rename_i h; exact h.2.2
/-- lets go until so many are let go: the state, how many were let go, and what came instead of a number -/
def letGo (f : Dr → R) (m : Nat) (left : Nat) (d : Dr) : Nat × Option R × Dr :=
  if left < m then (if (f d).w = .num then letGo f m (left + 1) (f d).d else (left, some (f d), (f d).d)) else (left, none, d)
termination_by m - left
def drawSrc (m : Maker) (d : Dr) : R := match d.sd, m with
  | .src g, .row ns => if g = ns.length then ⟨.fin, 0, d⟩ else if d.b = 0 then ⟨.long, 0, d⟩ else ⟨.num, ns.getD g 0, ⟨.src (g + 1), d.b - 1, d.ls⟩⟩
  | .src g, .count s t => if d.b = 0 then ⟨.long, 0, d⟩ else ⟨.num, s + (g : Int) * t, ⟨.src (g + 1), d.b - 1, d.ls⟩⟩
  | _, _ => ⟨.fin, 0, d⟩
/-- how many numbers can come at most -/
def cap : Ch → Sd → Nat → Nat
  | .src _, _, b => b
  | .op c o, .op n s, b => (match o with
    | .each k => s.left + k.toNat * cap c n b
    | _ => cap c n b)
  | .both c _, .two n _ _, b => cap c n b
  | .thn c i, .two n j _, b => cap c n b + cap i j b
  | _, _, _ => 0
def capD (c : Ch) (d : Dr) : Nat := cap c d.sd d.b
/-- by a stage's word: what the link tells; n: what is ahead -/
def byOp (o : Op) (f : Dr → R) (μ : Dr → Nat) (s : LSt) (d : Dr) : R :=
  let re := fun (s : LSt) (r : R) => (⟨r.w, r.k, ⟨.op r.d.sd s, r.d.b, r.d.ls⟩⟩ : R)
  match o with
  | .add n => let r := f d; re s ⟨r.w, r.k + n, r.d⟩
  | .times n => let r := f d; re s ⟨r.w, r.k * n, r.d⟩
  | .keep q w => let r := seek f (fun k => k % w == q) μ d; re (if r.w = .num then { s with last := some r.k } else s) r
  | .unlike => let r := seek f (fun k => s.told == 0 || s.last != some k) μ d; re (if r.w = .num then { s with last := some r.k } else s) r
  | .drop m => (match letGo f m.toNat s.left d with
    | (l, some r, _) => re { s with left := l } r
    | (l, none, d') => re { s with left := l } (f d'))
  | .take m => if (s.told : Int) < m then re s (f d) else re s ⟨.fin, 0, d⟩
  | .each m => if s.left = 0 then (let r := f d; if r.w = .num then re { s with last := some r.k, left := m.toNat - 1 } r else re s r) else re { s with left := s.left - 1 } ⟨.num, s.last.getD 0, d⟩
  | .til m => let r := f d; if r.w = .num ∧ m ≤ r.k then re s ⟨.fin, 0, ⟨r.d.sd, r.d.b, r.d.ls ++ [r.k]⟩⟩ else re s r
def byBoth (f g : Dr → R) (s : LSt) (n i : Sd) (b : Nat) (ls : List Int) : R :=
  let r := f ⟨n, b, ls⟩
  if r.w = .num then (let q := g ⟨i, r.d.b, r.d.ls⟩; ⟨q.w, r.k + q.k, ⟨.two r.d.sd q.d.sd s, q.d.b, if q.w = .fin then q.d.ls ++ [r.k] else q.d.ls⟩⟩) else ⟨r.w, r.k, ⟨.two r.d.sd i s, r.d.b, r.d.ls⟩⟩
def byThen (f g : Dr → R) (s : LSt) (n i : Sd) (b : Nat) (ls : List Int) : R :=
  if s.left = 0 then
    let r := f ⟨n, b, ls⟩
    if r.w = .fin then (let q := g ⟨i, r.d.b, r.d.ls⟩; ⟨q.w, q.k, ⟨.two r.d.sd q.d.sd { s with left := 1 }, q.d.b, q.d.ls⟩⟩) else ⟨r.w, r.k, ⟨.two r.d.sd i s, r.d.b, r.d.ls⟩⟩
  else (let q := g ⟨i, b, ls⟩; ⟨q.w, q.k, ⟨.two n q.d.sd s, q.d.b, q.d.ls⟩⟩)
def stOf : Sd → LSt
  | .op _ s => s
  | .two _ _ s => s
  | .src _ => ⟨false, 0, none, 0⟩
def setSt (s : LSt) : Sd → Sd
  | .op n _ => .op n s
  | .two n i _ => .two n i s
  | .src g => .src g
/-- .. and what it keeps of it -/
def booked (r : R) : R := ⟨r.w, r.k, ⟨setSt { stOf r.d.sd with over := (stOf r.d.sd).over || r.w == .fin, told := (stOf r.d.sd).told + (if r.w = .num then 1 else 0) } r.d.sd, r.d.b, r.d.ls⟩⟩
mutual
def byCh : Ch → Dr → R
  | .src m, d => drawSrc m d
  | .op c o, d => match d.sd with | .op n s => byOp o (draw c) (capD c) s ⟨n, d.b, d.ls⟩ | _ => ⟨.fin, 0, d⟩
  | .both c i, d => match d.sd with | .two n j s => byBoth (draw c) (draw i) s n j d.b d.ls | _ => ⟨.fin, 0, d⟩
  | .thn c i, d => match d.sd with | .two n j s => byThen (draw c) (draw i) s n j d.b d.ls | _ => ⟨.fin, 0, d⟩
def draw : Ch → Dr → R
  | .src m, d => drawSrc m d
  | .op c o, d => if (stOf d.sd).over = true then ⟨.fin, 0, d⟩ else booked (match d.sd with | .op n s => byOp o (draw c) (capD c) s ⟨n, d.b, d.ls⟩ | _ => ⟨.fin, 0, d⟩)
  | .both c i, d => if (stOf d.sd).over = true then ⟨.fin, 0, d⟩ else booked (match d.sd with | .two n j s => byBoth (draw c) (draw i) s n j d.b d.ls | _ => ⟨.fin, 0, d⟩)
  | .thn c i, d => if (stOf d.sd).over = true then ⟨.fin, 0, d⟩ else booked (match d.sd with | .two n j s => byThen (draw c) (draw i) s n j d.b d.ls | _ => ⟨.fin, 0, d⟩)
end
end DL
end
section
set_option maxRecDepth 100000
set_option maxHeartbeats 4000000
namespace DL
open PySem PySem.Spec PyProof.Rows L2

def bits : Ch → Nat
  | .src _ => 200
  | .op c o => (match o with | .add _ => bits c + 1 | .times _ => bits c + 128 | _ => bits c)
  | .both c i => bits c + bits i + 1
  | .thn c i => bits c + bits i
def numOp : Op → Prop
  | .add n => n.natAbs < 2 ^ 128
  | .times n => n.natAbs < 2 ^ 128
  | .each k => 1 ≤ k
  | .keep _ w => 0 < w
  | _ => True
def NumB : Ch → Prop
  | .src (.count b s) => b.natAbs < 2 ^ 128 ∧ s.natAbs < 2 ^ 128
  | .src (.row ns) => ∀ n ∈ ns, n.natAbs < 2 ^ 150
  | .op c o => NumB c ∧ numOp o
  | .both c i => NumB c ∧ NumB i
  | .thn c i => NumB c ∧ NumB i
theorem bits_ge : ∀ c : Ch, 200 ≤ bits c
  | .src _ => Nat.le_refl _
  | .op c o => by have := bits_ge c; cases o <;> simp only [bits] <;> omega
  | .both c i => by have := bits_ge c; simp only [bits]; omega
  | .thn c i => by have := bits_ge c; simp only [bits]; omega
/-- what a link keeps: a number it can tell -/
def LastB (c : Ch) (o : Op) (s : LSt) : Prop := (∀ k, s.last = some k → k.natAbs < 2 ^ bits c) ∧ (match o with
  | .each _ => s.left ≠ 0 → s.last ≠ none
  | _ => True)
/-- its shape, its bounds -/
def Fit (M : Nat) : Ch → Sd → Nat → Prop
  | .src (.row ns), .src g, b => g + b ≤ M ∧ g ≤ ns.length
  | .src (.count _ _), .src g, b => g + b ≤ M
  | .op c o, .op n s, b => Fit M c n b ∧ LastB c o s
  | .both c i, .two n j _, b => Fit M c n b ∧ Fit M i j b
  | .thn c i, .two n j _, b => Fit M c n b ∧ Fit M i j b
  | _, _, _ => False
def opn : Ch → Sd → Nat
  | .op c _, .op n s => opn c n + (if s.over = true then 0 else 1)
  | .both c i, .two n j s => opn c n + opn i j + (if s.over = true then 0 else 1)
  | .thn c i, .two n j s => opn c n + opn i j + (if s.over = true then 0 else 1)
  | _, _ => 0
theorem Fit.le {M : Nat} : ∀ {c : Ch} {n : Sd} {b b' : Nat}, Fit M c n b → b' ≤ b → Fit M c n b'
  | .src (.row _), .src _, _, _, ⟨h, h2⟩, l => ⟨by omega, h2⟩
  | .src (.count _ _), .src _, _, _, h, l => by simp only [Fit] at h ⊢; omega
  | .op c _, .op _ _, _, _, ⟨h, k⟩, l => ⟨Fit.le h l, k⟩
  | .both _ _, .two _ _ _, _, _, ⟨h, k⟩, l => ⟨Fit.le h l, Fit.le k l⟩
  | .thn _ _, .two _ _ _, _, _, ⟨h, k⟩, l => ⟨Fit.le h l, Fit.le k l⟩
theorem Fit.up {M M' : Nat} : ∀ {c : Ch} {n : Sd} {b b' : Nat}, Fit M c n b → b' ≤ b + M' → Fit (M + M') c n b'
  | .src (.row _), .src _, _, _, ⟨h, h2⟩, l => ⟨by omega, h2⟩
  | .src (.count _ _), .src _, _, _, h, l => by simp only [Fit] at h ⊢; omega
  | .op c _, .op _ _, _, _, ⟨h, k⟩, l => ⟨Fit.up h l, k⟩
  | .both _ _, .two _ _ _, _, _, ⟨h, k⟩, l => ⟨Fit.up h l, Fit.up k l⟩
  | .thn _ _, .two _ _ _, _, _, ⟨h, k⟩, l => ⟨Fit.up h l, Fit.up k l⟩
theorem cap_le : ∀ (c : Ch) (n : Sd) {b b' : Nat}, b' ≤ b → cap c n b' ≤ cap c n b
  | .src _, _, _, _, l => l
  | .op c o, .op n s, b, b', l => by
    have h := cap_le c n l
    cases o <;> simp only [cap] <;> first | exact h | exact Nat.add_le_add_left (Nat.mul_le_mul_left _ h) _
  | .both c _, .two n _ _, _, _, l => cap_le c n l
  | .thn c i, .two n j _, _, _, l => Nat.add_le_add (cap_le c n l) (cap_le i j l)
  | .op _ _, .src _, _, _, _ => Nat.le_refl _
  | .op _ _, .two _ _ _, _, _, _ => Nat.le_refl _
  | .both _ _, .src _, _, _, _ => Nat.le_refl _
  | .both _ _, .op _ _, _, _, _ => Nat.le_refl _
  | .thn _ _, .src _, _, _, _ => Nat.le_refl _
  | .thn _ _, .op _ _, _, _, _ => Nat.le_refl _
/-- what a draw of c keeps -/
structure Kept (M : Nat) (c : Ch) (d : Dr) (r : R) : Prop where
  fit : Fit M c r.d.sd r.d.b
  b : r.d.b ≤ d.b
  k : r.k.natAbs < 2 ^ bits c
  cap : capD c r.d ≤ capD c d
  dec : r.w = .num → capD c r.d < capD c d
  ls : r.d.ls.length + opn c r.d.sd ≤ d.ls.length + opn c d.sd
def KeepsF (M : Nat) (c : Ch) (f : Dr → R) : Prop := ∀ d, Fit M c d.sd d.b → Kept M c d (f d)
theorem seek_eq {M : Nat} {c : Ch} {f : Dr → R} (h : KeepsF M c f) {good : Int → Bool} {d : Dr} (hd : Fit M c d.sd d.b) : seek f good (capD c) d = if (f d).w = .num ∧ good (f d).k = false then seek f good (capD c) (f d).d else f d := by
  rw [seek]
  by_cases e : (f d).w = .num ∧ good (f d).k = false
  · rw [if_pos e, if_pos ⟨e.1, e.2, (h d hd).dec e.1⟩]
  · rw [if_neg e, if_neg fun z => e ⟨z.1, z.2.1⟩]
theorem Kept.then {M : Nat} {c : Ch} {d : Dr} {r q : R} (a : Kept M c d r) (b : Kept M c r.d q) : Kept M c d q :=
  ⟨b.fit, Nat.le_trans b.b a.b, b.k, Nat.le_trans b.cap a.cap, fun h => Nat.lt_of_lt_of_le (b.dec h) a.cap, Nat.le_trans b.ls a.ls⟩
theorem seek_ok {M : Nat} {c : Ch} {f : Dr → R} (h : KeepsF M c f) (good : Int → Bool) : ∀ (n : Nat) (d : Dr), capD c d ≤ n → Fit M c d.sd d.b → Kept M c d (seek f good (capD c) d) := by
  intro n
  induction n with
  | zero =>
    intro d hn hd
    rw [seek_eq h hd]
    have k := h d hd
    split
    · rename_i e
      have := k.dec e.1
      omega
    · exact k
  | succ n ih =>
    intro d hn hd
    rw [seek_eq h hd]
    have k := h d hd
    split
    · rename_i e
      have := k.dec e.1
      exact k.then (ih _ (by omega) k.fit)
    · exact k
theorem letGo_ok {M : Nat} {c : Ch} {f : Dr → R} (h : KeepsF M c f) (m : Nat) : ∀ (n left : Nat) (d : Dr), m - left ≤ n → Fit M c d.sd d.b → ∃ l r d', letGo f m left d = (l, r, d') ∧ (∀ q, r = some q → Kept M c d q ∧ q.w ≠ .num ∧ q.d = d') ∧ (r = none → Fit M c d'.sd d'.b ∧ d'.b ≤ d.b ∧ capD c d' ≤ capD c d ∧ d'.ls.length + opn c d'.sd ≤ d.ls.length + opn c d.sd) := by
  intro n
  induction n with
  | zero =>
    intro left d hn hd
    rw [letGo, if_neg (by omega)]
    exact ⟨_, _, _, rfl, (fun q e => by cases e), fun _ => ⟨hd, Nat.le_refl _, Nat.le_refl _, Nat.le_refl _⟩⟩
  | succ n ih =>
    intro left d hn hd
    rw [letGo]
    by_cases hl : left < m
    · rw [if_pos hl]
      have k := h d hd
      by_cases hw : (f d).w = .num
      · rw [if_pos hw]
        obtain ⟨l, r, d', e, h1, h2⟩ := ih (left + 1) (f d).d (by omega) k.fit
        refine ⟨l, r, d', e, fun q eq => ?_, fun er => ?_⟩
        · obtain ⟨a, b, c⟩ := h1 q eq
          exact ⟨k.then a, b, c⟩
        · obtain ⟨a, b, c, d⟩ := h2 er
          exact ⟨a, Nat.le_trans b k.b, Nat.le_trans c k.cap, Nat.le_trans d k.ls⟩
      · rw [if_neg hw]
        refine ⟨_, _, _, rfl, fun q eq => ?_, fun e => by cases e⟩
        cases eq
        exact ⟨k, hw, rfl⟩
    · rw [if_neg hl]
      exact ⟨_, _, _, rfl, (fun q e => by cases e), fun _ => ⟨hd, Nat.le_refl _, Nat.le_refl _, Nat.le_refl _⟩⟩
theorem pow_lt {a b c : Nat} (h : a < 2 ^ b) (l : b ≤ c) : a < 2 ^ c := Nat.lt_of_lt_of_le h (Nat.pow_le_pow_right (by decide) l)
theorem add_lt {x y : Int} {n : Nat} (h1 : x.natAbs < 2 ^ n) (h2 : y.natAbs < 2 ^ n) : (x + y).natAbs < 2 ^ (n + 1) := by
  rw [Nat.pow_succ]
  have := Int.natAbs_add_le x y
  omega
theorem mul_lt {x y : Int} {n m : Nat} (h1 : x.natAbs < 2 ^ n) (h2 : y.natAbs < 2 ^ m) : (x * y).natAbs < 2 ^ (n + m) := by
  rw [Int.natAbs_mul, Nat.pow_add]
  exact Nat.mul_lt_mul_of_lt_of_lt h1 h2
theorem zero_lt_bits (c : Ch) : (0 : Int).natAbs < 2 ^ bits c := Nat.pow_pos (by decide)
theorem src_ok {M : Nat} (hM : M ≤ 2 ^ 64) {m : Maker} (hn : NumB (.src m)) : KeepsF M (.src m) (drawSrc m) := by
  intro d hd
  obtain ⟨sd, b, ls⟩ := d
  cases sd with
  | op n s => cases m <;> exact hd.elim
  | two n i s => cases m <;> exact hd.elim
  | src g =>
    cases m with
    | row ns =>
      obtain ⟨h1, h2⟩ := hd
      simp only at h1 h2
      unfold drawSrc
      simp only
      split
      · exact ⟨⟨h1, h2⟩, Nat.le_refl _, zero_lt_bits _, Nat.le_refl _, (fun h => by cases h), Nat.le_refl _⟩
      · rename_i e
        split
        · exact ⟨⟨h1, h2⟩, Nat.le_refl _, zero_lt_bits _, Nat.le_refl _, (fun h => by cases h), Nat.le_refl _⟩
        · rename_i e2
          have hg : g < ns.length := by omega
          refine ⟨⟨by simp only; omega, by omega⟩, by simp only; omega, ?_, by simp only [capD, cap]; omega, fun _ => by simp only [capD, cap]; omega, Nat.le_refl _⟩
          have : ns.getD g 0 = ns[g] := by rw [List.getD_eq_getElem?_getD, List.getElem?_eq_getElem hg]; rfl
          simp only
          rw [this]
          exact pow_lt (hn _ (List.getElem_mem hg)) (by simp only [bits]; omega)
    | count s t =>
      obtain ⟨n1, n2⟩ := hn
      have h1 : g + b ≤ M := hd
      unfold drawSrc
      simp only
      split
      · exact ⟨h1, Nat.le_refl _, zero_lt_bits _, Nat.le_refl _, (fun h => by cases h), Nat.le_refl _⟩
      · rename_i e2
        refine ⟨by simp only [Fit]; omega, by simp only; omega, ?_, by simp only [capD, cap]; omega, fun _ => by simp only [capD, cap]; omega, Nat.le_refl _⟩
        have hg : ((g : Int)).natAbs < 2 ^ 65 := by
          rw [Int.natAbs_natCast]
          have : (2 : Nat) ^ 64 < 2 ^ 65 := by decide
          omega
        exact pow_lt (add_lt (n := 193) (pow_lt n1 (by decide)) (mul_lt (n := 65) (m := 128) hg n2)) (by simp only [bits]; omega)
/-- .. of a link, before it books whether it has ended -/
structure KeptB (M : Nat) (c : Ch) (d : Dr) (r : R) : Prop where
  fit : Fit M c r.d.sd r.d.b
  b : r.d.b ≤ d.b
  k : r.k.natAbs < 2 ^ bits c
  cap : capD c r.d ≤ capD c d
  dec : r.w = .num → capD c r.d < capD c d
  over : (stOf r.d.sd).over = false
  ls : r.d.ls.length + opn c r.d.sd ≤ d.ls.length + opn c d.sd + (if r.w = .fin then 1 else 0)
theorem cap_set {c : Ch} {s s' : LSt} {n i : Sd} {b : Nat} (h : s'.left = s.left) : (∀ o, cap (.op c o) (.op n s') b = cap (.op c o) (.op n s) b) := by
  intro o
  cases o <;> simp only [cap, h]
theorem byOp_ok {M : Nat} {c : Ch} {o : Op} {f : Dr → R} (hf : KeepsF M c f) (hn : numOp o) {n : Sd} {s : LSt} {b : Nat} {ls : List Int} (hd : Fit M (.op c o) (.op n s) b) (hs : s.over = false) : KeptB M (.op c o) ⟨.op n s, b, ls⟩ (byOp o f (capD c) s ⟨n, b, ls⟩) := by
  obtain ⟨h1, h2⟩ := hd
  have K := hf ⟨n, b, ls⟩ h1
  have dec : ∀ {r : R}, Kept M c ⟨n, b, ls⟩ r → r.w = .num → capD c r.d < cap c n b := fun k h => k.dec h
  have lsx : ∀ {r : R} {s' : LSt}, s'.over = false → Kept M c ⟨n, b, ls⟩ r → r.d.ls.length + opn (.op c o) (.op r.d.sd s') ≤ ls.length + opn (.op c o) (.op n s) := fun {r s'} e k => by
    have := k.ls
    simp only [opn, e, hs] at this ⊢
    omega
  have bc : bits c ≤ bits (.op c o) := by cases o <;> simp only [bits] <;> omega
  cases o with
  | add m =>
    refine ⟨⟨K.fit, h2⟩, K.b, ?_, K.cap, K.dec, hs, Nat.le_trans (lsx hs K) (Nat.le_add_right _ _)⟩
    exact add_lt K.k (pow_lt hn (by have := bits_ge c; omega))
  | times m =>
    refine ⟨⟨K.fit, h2⟩, K.b, ?_, K.cap, K.dec, hs, Nat.le_trans (lsx hs K) (Nat.le_add_right _ _)⟩
    exact mul_lt K.k hn
  | keep q w =>
    have S := seek_ok hf (fun k => k % w == q) _ ⟨n, b, ls⟩ (Nat.le_refl _) h1
    simp only [byOp]
    split
    · exact ⟨⟨S.fit, fun k e => by cases e; exact S.k, trivial⟩, S.b, S.k, S.cap, S.dec, hs, Nat.le_trans (lsx hs S) (Nat.le_add_right _ _)⟩
    · exact ⟨⟨S.fit, h2⟩, S.b, S.k, S.cap, S.dec, hs, Nat.le_trans (lsx hs S) (Nat.le_add_right _ _)⟩
  | unlike =>
    have S := seek_ok hf (fun k => s.told == 0 || s.last != some k) _ ⟨n, b, ls⟩ (Nat.le_refl _) h1
    simp only [byOp]
    split
    · exact ⟨⟨S.fit, fun k e => by cases e; exact S.k, trivial⟩, S.b, S.k, S.cap, S.dec, hs, Nat.le_trans (lsx hs S) (Nat.le_add_right _ _)⟩
    · exact ⟨⟨S.fit, h2⟩, S.b, S.k, S.cap, S.dec, hs, Nat.le_trans (lsx hs S) (Nat.le_add_right _ _)⟩
  | drop m =>
    obtain ⟨l, r, d', e, g1, g2⟩ := letGo_ok hf m.toNat _ s.left ⟨n, b, ls⟩ (Nat.le_refl _) h1
    simp only [byOp, e]
    cases r with
    | some q =>
      obtain ⟨k, hw, _⟩ := g1 q rfl
      exact ⟨⟨k.fit, h2.1, trivial⟩, k.b, k.k, k.cap, k.dec, hs, Nat.le_trans (lsx (s' := { s with left := l }) hs k) (Nat.le_add_right _ _)⟩
    | none =>
      obtain ⟨a1, a2, a3, a4⟩ := g2 rfl
      have k := hf d' a1
      have k2 : Kept M c ⟨n, b, ls⟩ (f d') := ⟨k.fit, Nat.le_trans k.b a2, k.k, Nat.le_trans k.cap a3, fun h => Nat.lt_of_lt_of_le (k.dec h) a3, Nat.le_trans k.ls a4⟩
      exact ⟨⟨k2.fit, h2.1, trivial⟩, k2.b, k2.k, k2.cap, k2.dec, hs, Nat.le_trans (lsx (s' := { s with left := l }) hs k2) (Nat.le_add_right _ _)⟩
  | take m =>
    simp only [byOp]
    split
    · exact ⟨⟨K.fit, h2⟩, K.b, K.k, K.cap, K.dec, hs, Nat.le_trans (lsx hs K) (Nat.le_add_right _ _)⟩
    · exact ⟨⟨h1, h2⟩, Nat.le_refl _, zero_lt_bits _, Nat.le_refl _, (fun h => by cases h), hs, Nat.le_add_right _ _⟩
  | each m =>
    have hm : 1 ≤ m := hn
    simp only [byOp]
    split
    · rename_i e
      have ec : ∀ (s' : LSt) (x : Sd) (y : Nat), cap (.op c (.each m)) (.op x s') y = s'.left + m.toNat * cap c x y := fun _ _ _ => rfl
      split
      · rename_i hw
        have d1 : cap c (f ⟨n, b, ls⟩).d.sd (f ⟨n, b, ls⟩).d.b < cap c n b := K.dec hw
        have d2 : m.toNat * cap c (f ⟨n, b, ls⟩).d.sd (f ⟨n, b, ls⟩).d.b + m.toNat ≤ m.toNat * cap c n b := by
          rw [← Nat.mul_succ]
          exact Nat.mul_le_mul_left _ d1
        refine ⟨⟨K.fit, fun k e => by cases e; exact K.k, fun _ z => by cases z⟩, K.b, K.k, ?_, fun _ => ?_, hs, Nat.le_trans (lsx (s' := { s with last := some (f ⟨n, b, ls⟩).k, left := m.toNat - 1 }) hs K) (Nat.le_add_right _ _)⟩
        · simp only [capD, ec]
          omega
        · simp only [capD, ec]
          omega
      · rename_i hw
        refine ⟨⟨K.fit, h2⟩, K.b, K.k, ?_, fun h => absurd h hw, hs, Nat.le_trans (lsx hs K) (Nat.le_add_right _ _)⟩
        simp only [capD, ec]
        exact Nat.add_le_add_left (Nat.mul_le_mul_left _ K.cap) _
    · rename_i e
      refine ⟨⟨h1, h2.1, fun _ => h2.2 e⟩, Nat.le_refl _, ?_, ?_, fun _ => ?_, hs, Nat.le_add_right _ _⟩
      · cases hl : s.last with
        | none => exact zero_lt_bits _
        | some k => exact h2.1 k hl
      · simp only [capD, cap]; omega
      · simp only [capD, cap]; omega
  | til m =>
    simp only [byOp]
    split
    · rename_i e
      refine ⟨⟨K.fit, h2⟩, K.b, zero_lt_bits _, K.cap, (fun h => by cases h), hs, ?_⟩
      have := lsx (s' := s) hs K
      simp only [List.length_append, List.length_singleton, if_true]
      omega
    · exact ⟨⟨K.fit, h2⟩, K.b, K.k, K.cap, K.dec, hs, Nat.le_trans (lsx hs K) (Nat.le_add_right _ _)⟩
theorem byBoth_ok {M : Nat} {c i : Ch} {f g : Dr → R} (hf : KeepsF M c f) (hg : KeepsF M i g) {n j : Sd} {s : LSt} {b : Nat} {ls : List Int} (hd : Fit M (.both c i) (.two n j s) b) (hs : s.over = false) : KeptB M (.both c i) ⟨.two n j s, b, ls⟩ (byBoth f g s n j b ls) := by
  obtain ⟨h1, h2⟩ := hd
  have K := hf ⟨n, b, ls⟩ h1
  have l := K.ls
  have lb := K.b
  simp only at l lb
  unfold byBoth
  simp only
  split
  · have G := hg ⟨j, (f ⟨n, b, ls⟩).d.b, (f ⟨n, b, ls⟩).d.ls⟩ (h2.le lb)
    have gl := G.ls
    have gb := G.b
    simp only at gl gb
    rename_i e
    refine ⟨⟨K.fit.le gb, G.fit⟩, Nat.le_trans gb lb, ?_, ?_, fun _ => ?_, hs, ?_⟩
    · exact pow_lt (add_lt (n := bits c + bits i) (pow_lt K.k (Nat.le_add_right _ _)) (pow_lt G.k (Nat.le_add_left _ _))) (Nat.le_refl _)
    · exact Nat.le_trans (cap_le c _ gb) K.cap
    · exact Nat.lt_of_le_of_lt (cap_le c _ gb) (K.dec e)
    · simp only [opn, hs]
      split
      · simp only [List.length_append, List.length_singleton]
        omega
      · omega
  · refine ⟨⟨K.fit, h2.le lb⟩, lb, pow_lt K.k (by simp only [bits]; omega), K.cap, (fun h => absurd h (by assumption)), hs, ?_⟩
    simp only [opn, hs]
    omega
theorem byThen_ok {M : Nat} {c i : Ch} {f g : Dr → R} (hf : KeepsF M c f) (hg : KeepsF M i g) {n j : Sd} {s : LSt} {b : Nat} {ls : List Int} (hd : Fit M (.thn c i) (.two n j s) b) (hs : s.over = false) : KeptB M (.thn c i) ⟨.two n j s, b, ls⟩ (byThen f g s n j b ls) := by
  obtain ⟨h1, h2⟩ := hd
  have K := hf ⟨n, b, ls⟩ h1
  have l := K.ls
  have lb := K.b
  have kc : cap c (f ⟨n, b, ls⟩).d.sd (f ⟨n, b, ls⟩).d.b ≤ cap c n b := K.cap
  simp only at l lb
  unfold byThen
  simp only
  split
  · split
    · have G := hg ⟨j, (f ⟨n, b, ls⟩).d.b, (f ⟨n, b, ls⟩).d.ls⟩ (h2.le lb)
      have gl := G.ls
      have gb := G.b
      have gc : cap i (g ⟨j, (f ⟨n, b, ls⟩).d.b, (f ⟨n, b, ls⟩).d.ls⟩).d.sd (g ⟨j, (f ⟨n, b, ls⟩).d.b, (f ⟨n, b, ls⟩).d.ls⟩).d.b ≤ cap i j (f ⟨n, b, ls⟩).d.b := G.cap
      simp only at gl gb
      have c1 := cap_le c (f ⟨n, b, ls⟩).d.sd gb
      have c2 := cap_le i j lb
      refine ⟨⟨K.fit.le gb, G.fit⟩, Nat.le_trans gb lb, pow_lt G.k (by simp only [bits]; omega), ?_, fun h => ?_, hs, ?_⟩
      · simp only [capD, cap]
        omega
      · have gd : cap i (g ⟨j, (f ⟨n, b, ls⟩).d.b, (f ⟨n, b, ls⟩).d.ls⟩).d.sd (g ⟨j, (f ⟨n, b, ls⟩).d.b, (f ⟨n, b, ls⟩).d.ls⟩).d.b < cap i j (f ⟨n, b, ls⟩).d.b := G.dec h
        simp only [capD, cap]
        omega
      · simp only [opn, hs]
        omega
    · have c2 := cap_le i j lb
      refine ⟨⟨K.fit, h2.le lb⟩, lb, pow_lt K.k (by simp only [bits]; omega), ?_, fun h => ?_, hs, ?_⟩
      · simp only [capD, cap]
        omega
      · have kd : cap c (f ⟨n, b, ls⟩).d.sd (f ⟨n, b, ls⟩).d.b < cap c n b := K.dec h
        simp only [capD, cap]
        omega
      · simp only [opn, hs]
        omega
  · have G := hg ⟨j, b, ls⟩ h2
    have gl := G.ls
    have gb := G.b
    have gc : cap i (g ⟨j, b, ls⟩).d.sd (g ⟨j, b, ls⟩).d.b ≤ cap i j b := G.cap
    simp only at gl gb
    have c1 := cap_le c n gb
    refine ⟨⟨h1.le gb, G.fit⟩, gb, pow_lt G.k (by simp only [bits]; omega), ?_, fun h => ?_, hs, ?_⟩
    · simp only [capD, cap]
      omega
    · have gd : cap i (g ⟨j, b, ls⟩).d.sd (g ⟨j, b, ls⟩).d.b < cap i j b := G.dec h
      simp only [capD, cap]
      omega
    · simp only [opn, hs]
      omega
theorem booked_ok {M : Nat} {c : Ch} {d : Dr} {r : R} (h : KeptB M c d r) (hc : ∀ m, c ≠ .src m) : Kept M c d (booked r) := by
  obtain ⟨w, k, sd, b, ls⟩ := r
  obtain ⟨f1, f2, f3, f4, f5, f6, f7⟩ := h
  simp only at f1 f2 f3 f4 f5 f6 f7
  cases c with
  | src m => exact absurd rfl (hc m)
  | op c o =>
    cases sd with
    | op n s =>
      have ho : s.over = false := f6
      refine ⟨f1, f2, f3, ?_, fun h => ?_, ?_⟩
      · simp only [booked, setSt, stOf, capD]
        refine Nat.le_trans (Nat.le_of_eq (cap_set (s := s) (i := n) ?_ o)) f4
        rfl
      · simp only [booked, setSt, stOf, capD]
        refine Nat.lt_of_le_of_lt (Nat.le_of_eq (cap_set (s := s) (i := n) ?_ o)) (f5 h)
        rfl
      · simp only [booked, setSt, stOf, opn, ho, Bool.false_or] at f7 ⊢
        cases w <;> simp at f7 ⊢ <;> omega
    | src _ => exact f1.elim
    | two _ _ _ => exact f1.elim
  | both c i =>
    cases sd with
    | two n j s =>
      have ho : s.over = false := f6
      refine ⟨f1, f2, f3, f4, f5, ?_⟩
      simp only [booked, setSt, stOf, opn, ho, Bool.false_or] at f7 ⊢
      cases w <;> simp at f7 ⊢ <;> omega
    | src _ => exact f1.elim
    | op _ _ => exact f1.elim
  | thn c i =>
    cases sd with
    | two n j s =>
      have ho : s.over = false := f6
      refine ⟨f1, f2, f3, f4, f5, ?_⟩
      simp only [booked, setSt, stOf, opn, ho, Bool.false_or] at f7 ⊢
      cases w <;> simp at f7 ⊢ <;> omega
    | src _ => exact f1.elim
    | op _ _ => exact f1.elim
theorem Kept.fin0 {M : Nat} {c : Ch} {d : Dr} (h : Fit M c d.sd d.b) : Kept M c d ⟨.fin, 0, d⟩ := ⟨h, Nat.le_refl _, zero_lt_bits _, Nat.le_refl _, (fun h => by cases h), Nat.le_refl _⟩
theorem draw_ok {M : Nat} (hM : M ≤ 2 ^ 64) : ∀ {c : Ch}, NumB c → KeepsF M c (draw c)
  | .src m, hn => src_ok hM hn
  | .op c o, ⟨h1, h2⟩ => fun d hd => by
    have ih := draw_ok hM h1
    obtain ⟨sd, b, ls⟩ := d
    cases sd with
    | op n s =>
      rw [draw]
      split
      · exact .fin0 hd
      · rename_i e
        exact booked_ok (byOp_ok ih h2 hd (by simpa [stOf] using e)) (fun m => by simp)
    | src _ => exact hd.elim
    | two _ _ _ => exact hd.elim
  | .both c i, ⟨h1, h2⟩ => fun d hd => by
    obtain ⟨sd, b, ls⟩ := d
    cases sd with
    | two n j s =>
      rw [draw]
      split
      · exact .fin0 hd
      · rename_i e
        exact booked_ok (byBoth_ok (draw_ok hM h1) (draw_ok hM h2) hd (by simpa [stOf] using e)) (fun m => by simp)
    | src _ => exact hd.elim
    | op _ _ => exact hd.elim
  | .thn c i, ⟨h1, h2⟩ => fun d hd => by
    obtain ⟨sd, b, ls⟩ := d
    cases sd with
    | two n j s =>
      rw [draw]
      split
      · exact .fin0 hd
      · rename_i e
        exact booked_ok (byThen_ok (draw_ok hM h1) (draw_ok hM h2) hd (by simpa [stOf] using e)) (fun m => by simp)
    | src _ => exact hd.elim
    | op _ _ => exact hd.elim
end DL
end
section
set_option maxRecDepth 100000
set_option maxHeartbeats 4000000
namespace DL
open PySem PySem.Spec PyProof.Rows L2

def srcF (m : Maker) (book : Addr) (g : Nat) : List (Str × D) := [(Str.ofString "gives", mkD m), (Str.ofString "book", .ref book), (Str.ofString "given", .int (g : Int))]
def lastD : Option Int → D
  | none => .non
  | some k => .int k
def linkF (rule : D) (ahead : Addr) (beside : D) (lost : Addr) (s : LSt) : List (Str × D) := [(Str.ofString "rule", rule), (Str.ofString "ahead", .ref ahead), (Str.ofString "beside", beside), (Str.ofString "lost", .ref lost),
  (Str.ofString "over", .bl s.over), (Str.ofString "told", .int (s.told : Int)), (Str.ofString "last", lastD s.last), (Str.ofString "left", .int (s.left : Int))]
section
variable {m : Maker} {book ahead lost : Addr} {g : Nat} {rule beside v : D} {s : LSt}
theorem sf_gives : (srcF m book g).lookup (Str.ofString "gives") = some (mkD m) := by simp [srcF, List.lookup, str_beq]
theorem sf_book : (srcF m book g).lookup (Str.ofString "book") = some (.ref book) := by simp [srcF, List.lookup, str_beq]
theorem sf_given : (srcF m book g).lookup (Str.ofString "given") = some (.int (g : Int)) := by simp [srcF, List.lookup, str_beq]
theorem sf_draw : (srcF m book g).lookup (Str.ofString "draw") = none := by simp [srcF, List.lookup, str_beq]
theorem sf_put {g' : Nat} : putG (Str.ofString "given") (.int (g' : Int)) (srcF m book g) = srcF m book g' := by simp [srcF, putG, str_inj]
theorem sf_len : (srcF m book g).length < 1000 := by simp [srcF]
theorem lf_rule : (linkF rule ahead beside lost s).lookup (Str.ofString "rule") = some rule := by simp [linkF, List.lookup, str_beq]
theorem lf_ahead : (linkF rule ahead beside lost s).lookup (Str.ofString "ahead") = some (.ref ahead) := by simp [linkF, List.lookup, str_beq]
theorem lf_beside : (linkF rule ahead beside lost s).lookup (Str.ofString "beside") = some beside := by simp [linkF, List.lookup, str_beq]
theorem lf_lost : (linkF rule ahead beside lost s).lookup (Str.ofString "lost") = some (.ref lost) := by simp [linkF, List.lookup, str_beq]
theorem lf_over : (linkF rule ahead beside lost s).lookup (Str.ofString "over") = some (.bl s.over) := by simp [linkF, List.lookup, str_beq]
theorem lf_told : (linkF rule ahead beside lost s).lookup (Str.ofString "told") = some (.int (s.told : Int)) := by simp [linkF, List.lookup, str_beq]
theorem lf_last : (linkF rule ahead beside lost s).lookup (Str.ofString "last") = some (lastD s.last) := by simp [linkF, List.lookup, str_beq]
theorem lf_left : (linkF rule ahead beside lost s).lookup (Str.ofString "left") = some (.int (s.left : Int)) := by simp [linkF, List.lookup, str_beq]
theorem lf_len : (linkF rule ahead beside lost s).length < 1000 := by simp [linkF]
theorem lp_over {b : Bool} : putG (Str.ofString "over") (.bl b) (linkF rule ahead beside lost s) = linkF rule ahead beside lost { s with over := b } := by simp [linkF, putG, str_inj]
theorem lp_told {n : Nat} : putG (Str.ofString "told") (.int (n : Int)) (linkF rule ahead beside lost s) = linkF rule ahead beside lost { s with told := n } := by simp [linkF, putG, str_inj]
theorem lp_last {k : Int} : putG (Str.ofString "last") (.int k) (linkF rule ahead beside lost s) = linkF rule ahead beside lost { s with last := some k } := by simp [linkF, putG, str_inj, lastD]
theorem lp_left {n : Nat} : putG (Str.ofString "left") (.int (n : Int)) (linkF rule ahead beside lost s) = linkF rule ahead beside lost { s with left := n } := by simp [linkF, putG, str_inj]
theorem sf_put1 : putG (Str.ofString "given") (.int ((g : Int) + 1)) (srcF m book g) = srcF m book (g + 1) := sf_put (g' := g + 1)
theorem lp_told1 : putG (Str.ofString "told") (.int ((s.told : Int) + 1)) (linkF rule ahead beside lost s) = linkF rule ahead beside lost { s with told := s.told + 1 } := lp_told (n := s.told + 1)
theorem lp_left1 : putG (Str.ofString "left") (.int ((s.left : Int) + 1)) (linkF rule ahead beside lost s) = linkF rule ahead beside lost { s with left := s.left + 1 } := lp_left (n := s.left + 1)
theorem lf_draw : (linkF rule ahead beside lost s).lookup (Str.ofString "draw") = none := by simp [linkF, List.lookup, str_beq]
theorem lf_drawn_by : (linkF rule ahead beside lost s).lookup (Str.ofString "drawn_by") = none := by simp [linkF, List.lookup, str_beq]
theorem lf_sought : (linkF rule ahead beside lost s).lookup (Str.ofString "sought") = none := by simp [linkF, List.lookup, str_beq]
theorem lf_dropped : (linkF rule ahead beside lost s).lookup (Str.ofString "dropped") = none := by simp [linkF, List.lookup, str_beq]
theorem lf_told_again : (linkF rule ahead beside lost s).lookup (Str.ofString "told_again") = none := by simp [linkF, List.lookup, str_beq]
theorem lf_ended : (linkF rule ahead beside lost s).lookup (Str.ofString "ended") = none := by simp [linkF, List.lookup, str_beq]
theorem lf_paired : (linkF rule ahead beside lost s).lookup (Str.ofString "paired") = none := by simp [linkF, List.lookup, str_beq]
theorem lf_followed : (linkF rule ahead beside lost s).lookup (Str.ofString "followed") = none := by simp [linkF, List.lookup, str_beq]
end
def bothD (i : Ch) : D := .tup [.str (Str.ofString "both"), chD i]
def thenD (i : Ch) : D := .tup [.str (Str.ofString "then"), chD i]
/-- c's objects in the state n: the last one at p, all of them at fp -/
def NdAt (CS CL book lost : Addr) (W : Wd) : Ch → Sd → Addr → List Addr → Prop
  | .src m, .src g, p, fp => fp = [p] ∧ W p = some (.ins CS (srcF m book g))
  | .op c o, .op n s, p, fp => ∃ q fq, fp = p :: fq ∧ W p = some (.ins CL (linkF (opD o) q .non lost s)) ∧ NdAt CS CL book lost W c n q fq
  | .both c i, .two n j s, p, fp => ∃ q fq r fr, fp = p :: (fq ++ fr) ∧ W p = some (.ins CL (linkF (bothD i) q (.ref r) lost s)) ∧ NdAt CS CL book lost W c n q fq ∧ NdAt CS CL book lost W i j r fr
  | .thn c i, .two n j s, p, fp => ∃ q fq r fr, fp = p :: (fq ++ fr) ∧ W p = some (.ins CL (linkF (thenD i) q (.ref r) lost s)) ∧ NdAt CS CL book lost W c n q fq ∧ NdAt CS CL book lost W i j r fr
  | _, _, _, _ => False
section
variable {CS CL book lost : Addr}
theorem NdAt.frame {W W' : Wd} : ∀ {c : Ch} {n : Sd} {p : Addr} {fp : List Addr}, NdAt CS CL book lost W c n p fp → (∀ x ∈ fp, W' x = W x) → NdAt CS CL book lost W' c n p fp
  | .src m, .src g, p, fp, ⟨e, h⟩, k => ⟨e, by rw [k p (by rw [e]; exact List.mem_singleton_self p)]; exact h⟩
  | .op c o, .op n s, p, fp, ⟨q, fq, e, h, h1⟩, k => ⟨q, fq, e, by rw [k p (by rw [e]; exact List.mem_cons_self)]; exact h, h1.frame fun x hx => k x (by rw [e]; exact List.mem_cons_of_mem _ hx)⟩
  | .both c i, .two n j s, p, fp, ⟨q, fq, r, fr, e, h, h1, h2⟩, k => ⟨q, fq, r, fr, e, by rw [k p (by rw [e]; exact List.mem_cons_self)]; exact h, h1.frame fun x hx => k x (by rw [e]; exact List.mem_cons_of_mem _ (List.mem_append_left _ hx)), h2.frame fun x hx => k x (by rw [e]; exact List.mem_cons_of_mem _ (List.mem_append_right _ hx))⟩
  | .thn c i, .two n j s, p, fp, ⟨q, fq, r, fr, e, h, h1, h2⟩, k => ⟨q, fq, r, fr, e, by rw [k p (by rw [e]; exact List.mem_cons_self)]; exact h, h1.frame fun x hx => k x (by rw [e]; exact List.mem_cons_of_mem _ (List.mem_append_left _ hx)), h2.frame fun x hx => k x (by rw [e]; exact List.mem_cons_of_mem _ (List.mem_append_right _ hx))⟩
theorem NdAt.root {W : Wd} : ∀ {c : Ch} {n : Sd} {p : Addr} {fp : List Addr}, NdAt CS CL book lost W c n p fp → p ∈ fp
  | .src m, .src g, p, fp, ⟨e, h⟩ => by rw [e]; exact List.mem_singleton_self p
  | .op c o, .op n s, p, fp, ⟨q, fq, e, _⟩ => by rw [e]; exact List.mem_cons_self
  | .both c i, .two n j s, p, fp, ⟨q, fq, r, fr, e, _⟩ => by rw [e]; exact List.mem_cons_self
  | .thn c i, .two n j s, p, fp, ⟨q, fq, r, fr, e, _⟩ => by rw [e]; exact List.mem_cons_self
/-- ready to be drawn from -/
structure Pre (CS CL : Addr) (W : Wd) (c : Ch) (d : Dr) (p : Addr) (fp : List Addr) (book lost : Addr) : Prop where
  nd : NdAt CS CL book lost W c d.sd p fp
  nod : fp.Nodup
  nb : book ∉ fp
  nl : lost ∉ fp
  ne : book ≠ lost
  bk : W book = some (.lst [.int (d.b : Int)])
  ls : W lost = some (.lst (d.ls.map D.int))
structure After (CS CL : Addr) (W W' : Wd) (c : Ch) (d : Dr) (p : Addr) (fp : List Addr) (book lost : Addr) : Prop where
  pre : Pre CS CL W' c d p fp book lost
  rest : ∀ x, x ∉ fp → x ≠ book → x ≠ lost → W' x = W x
/-- the numbers keep to what the machine holds -/
structure Ok (M : Nat) (c : Ch) (d : Dr) : Prop where
  m : M ≤ 2 ^ 64
  num : NumB c
  bits : bits c ≤ 100000
  fit : Fit M c d.sd d.b
  ls : d.ls.length + opn c d.sd ≤ 1000
theorem Ok.draw {M : Nat} {c : Ch} {d : Dr} (h : Ok M c d) : Kept M c d (draw c d) ∧ Ok M c (DL.draw c d).d := by
  have k := draw_ok h.m h.num d h.fit
  exact ⟨k, h.m, h.num, h.bits, k.fit, Nat.le_trans k.ls h.ls⟩
def wordOf : W3 → Str
  | .num => Str.ofString "number"
  | .fin => Str.ofString "end"
  | .long => Str.ofString "long"
def outD (r : R) : D := .tup [.str (wordOf r.w), .int r.k]
theorem word_num {w : W3} : (wordOf w == Str.ofString "number") = (w == .num) := by cases w <;> simp [wordOf, str_beq]
theorem word_fin {w : W3} : (wordOf w == Str.ofString "end") = (w == .fin) := by cases w <;> simp [wordOf, str_beq]
theorem word_long {w : W3} : (wordOf w == Str.ofString "long") = (w == .long) := by cases w <;> simp [wordOf, str_beq]
theorem Pre.opn {W : Wd} {c : Ch} {o : Op} {d : Dr} {p : Addr} {fp : List Addr} (h : Pre CS CL W (.op c o) d p fp book lost) : ∃ n s q fq, d.sd = .op n s ∧ fp = p :: fq ∧ W p = some (.ins CL (linkF (opD o) q .non lost s)) ∧ p ∉ fq ∧ p ≠ book ∧ p ≠ lost ∧ Pre CS CL W c ⟨n, d.b, d.ls⟩ q fq book lost := by
  obtain ⟨sd, b, ls⟩ := d
  obtain ⟨h1, h2, h3, h4, h5, h6, h7⟩ := h
  cases sd with
  | op n s =>
    obtain ⟨q, fq, rfl, e, h⟩ := h1
    rw [List.nodup_cons] at h2
    simp only [List.mem_cons, not_or] at h3 h4
    exact ⟨n, s, q, fq, rfl, rfl, e, h2.1, Ne.symm h3.1, Ne.symm h4.1, h, h2.2, h3.2, h4.2, h5, h6, h7⟩
  | src _ => exact h1.elim
  | two _ _ _ => exact h1.elim
theorem After.op {W W1 : Wd} {c : Ch} {o : Op} {d1 : Dr} {p q : Addr} {fq : List Addr} {s' : LSt} (h : After CS CL W W1 c d1 q fq book lost) (hp : p ∉ fq) (h1 : p ≠ book) (h2 : p ≠ lost) :
    After CS CL W (put W1 p (.ins CL (linkF (opD o) q .non lost s'))) (.op c o) ⟨.op d1.sd s', d1.b, d1.ls⟩ p (p :: fq) book lost := by
  obtain ⟨⟨a1, a2, a3, a4, a5, a6, a7⟩, r⟩ := h
  refine ⟨⟨⟨q, fq, rfl, put_same, a1.frame fun x hx => put_ne fun z => hp (by rw [← z]; exact hx)⟩, List.nodup_cons.mpr ⟨hp, a2⟩, ?_, ?_, a5, ?_, ?_⟩, fun x x1 x2 x3 => ?_⟩
  · simp only [List.mem_cons, not_or]; exact ⟨Ne.symm h1, a3⟩
  · simp only [List.mem_cons, not_or]; exact ⟨Ne.symm h2, a4⟩
  · rw [put_ne (Ne.symm h1)]; exact a6
  · rw [put_ne (Ne.symm h2)]; exact a7
  · simp only [List.mem_cons, not_or] at x1
    rw [put_ne x1.1]
    exact r x x1.2 x2 x3
theorem After.op_same {W W1 : Wd} {c : Ch} {o : Op} {d1 : Dr} {p q : Addr} {fq : List Addr} {s' : LSt} (h : After CS CL W W1 c d1 q fq book lost) (hp : p ∉ fq) (h1 : p ≠ book) (h2 : p ≠ lost) (e : W p = some (.ins CL (linkF (opD o) q .non lost s'))) :
    After CS CL W W1 (.op c o) ⟨.op d1.sd s', d1.b, d1.ls⟩ p (p :: fq) book lost := by
  have k := h.op (o := o) (s' := s') hp h1 h2
  rw [put_self ((h.rest p hp h1 h2).trans e)] at k
  exact k
theorem After.refl {W : Wd} {c : Ch} {d : Dr} {p : Addr} {fp : List Addr} (h : Pre CS CL W c d p fp book lost) : After CS CL W W c d p fp book lost := ⟨h, fun _ _ _ _ => rfl⟩
theorem After.trans {W W1 W2 : Wd} {c : Ch} {d1 d2 : Dr} {p : Addr} {fp : List Addr} (h : After CS CL W W1 c d1 p fp book lost) (k : After CS CL W1 W2 c d2 p fp book lost) : After CS CL W W2 c d2 p fp book lost :=
  ⟨k.pre, fun x a b c => (k.rest x a b c).trans (h.rest x a b c)⟩
/-- a number is undone -/
theorem After.lose {W W1 : Wd} {c : Ch} {d1 : Dr} {p : Addr} {fp : List Addr} (h : After CS CL W W1 c d1 p fp book lost) (k : Int) : After CS CL W (put W1 lost (.lst (d1.ls.map D.int ++ [.int k]))) c ⟨d1.sd, d1.b, d1.ls ++ [k]⟩ p fp book lost := by
  obtain ⟨⟨a1, a2, a3, a4, a5, a6, a7⟩, r⟩ := h
  refine ⟨⟨a1.frame fun x hx => put_ne fun z => a4 (by rw [← z]; exact hx), a2, a3, a4, a5, by rw [put_ne a5]; exact a6, by rw [put_same, List.map_append]; rfl⟩, fun x x1 x2 x3 => ?_⟩
  rw [put_ne x3]
  exact r x x1 x2 x3
theorem Ok.opn {M : Nat} {c : Ch} {o : Op} {n : Sd} {s : LSt} {b : Nat} {ls : List Int} (h : Ok M (.op c o) ⟨.op n s, b, ls⟩) : Ok M c ⟨n, b, ls⟩ ∧ numOp o := by
  obtain ⟨h1, h2, h3, h4, h5⟩ := h
  refine ⟨⟨h1, h2.1, ?_, h4.1, ?_⟩, h2.2⟩
  · cases o <;> simp only [DL.bits] at h3 <;> omega
  · simp only [DL.opn] at h5 ⊢
    omega
end
end DL
end
section
set_option maxRecDepth 100000
set_option maxHeartbeats 4000000
namespace DL
open PySem PySem.Spec PyProof.Rows L2

structure Two (CS CL : Addr) (W : Wd) (rule : D) (c i : Ch) (n j : Sd) (s : LSt) (b : Nat) (ls : List Int) (p q : Addr) (fq : List Addr) (r : Addr) (fr : List Addr) (book lost : Addr) : Prop where
  at_ : W p = some (.ins CL (linkF rule q (.ref r) lost s))
  h1 : NdAt CS CL book lost W c n q fq
  h2 : NdAt CS CL book lost W i j r fr
  nod : (p :: (fq ++ fr)).Nodup
  nb : book ∉ p :: (fq ++ fr)
  nl : lost ∉ p :: (fq ++ fr)
  ne : book ≠ lost
  bk : W book = some (.lst [.int (b : Int)])
  lsx : W lost = some (.lst (ls.map D.int))
section
variable {CS CL book lost : Addr} {W W1 : Wd} {c i : Ch} {n j : Sd} {s : LSt} {b : Nat} {ls : List Int} {p q r : Addr} {fq fr : List Addr} {rule : D}
theorem Pre.both {d : Dr} {fp : List Addr} (h : Pre CS CL W (.both c i) d p fp book lost) : ∃ n j s q fq r fr, d.sd = .two n j s ∧ fp = p :: (fq ++ fr) ∧ Two CS CL W (bothD i) c i n j s d.b d.ls p q fq r fr book lost := by
  obtain ⟨sd, b, ls⟩ := d
  obtain ⟨h1, h2, h3, h4, h5, h6, h7⟩ := h
  cases sd with
  | two n j s =>
    obtain ⟨q, fq, r, fr, rfl, e, k1, k2⟩ := h1
    exact ⟨n, j, s, q, fq, r, fr, rfl, rfl, e, k1, k2, h2, h3, h4, h5, h6, h7⟩
  | src _ => exact h1.elim
  | op _ _ => exact h1.elim
theorem Pre.thn {d : Dr} {fp : List Addr} (h : Pre CS CL W (.thn c i) d p fp book lost) : ∃ n j s q fq r fr, d.sd = .two n j s ∧ fp = p :: (fq ++ fr) ∧ Two CS CL W (thenD i) c i n j s d.b d.ls p q fq r fr book lost := by
  obtain ⟨sd, b, ls⟩ := d
  obtain ⟨h1, h2, h3, h4, h5, h6, h7⟩ := h
  cases sd with
  | two n j s =>
    obtain ⟨q, fq, r, fr, rfl, e, k1, k2⟩ := h1
    exact ⟨n, j, s, q, fq, r, fr, rfl, rfl, e, k1, k2, h2, h3, h4, h5, h6, h7⟩
  | src _ => exact h1.elim
  | op _ _ => exact h1.elim
theorem Two.toBoth (h : Two CS CL W (bothD i) c i n j s b ls p q fq r fr book lost) : Pre CS CL W (.both c i) ⟨.two n j s, b, ls⟩ p (p :: (fq ++ fr)) book lost :=
  ⟨⟨q, fq, r, fr, rfl, h.at_, h.h1, h.h2⟩, h.nod, h.nb, h.nl, h.ne, h.bk, h.lsx⟩
theorem Two.toThn (h : Two CS CL W (thenD i) c i n j s b ls p q fq r fr book lost) : Pre CS CL W (.thn c i) ⟨.two n j s, b, ls⟩ p (p :: (fq ++ fr)) book lost :=
  ⟨⟨q, fq, r, fr, rfl, h.at_, h.h1, h.h2⟩, h.nod, h.nb, h.nl, h.ne, h.bk, h.lsx⟩
theorem Two.parts (h : Two CS CL W rule c i n j s b ls p q fq r fr book lost) : p ∉ fq ∧ p ∉ fr ∧ fq.Nodup ∧ fr.Nodup ∧ (∀ x ∈ fq, x ∉ fr) ∧ p ≠ book ∧ p ≠ lost ∧ book ∉ fq ∧ book ∉ fr ∧ lost ∉ fq ∧ lost ∉ fr := by
  have h1 := List.nodup_cons.mp h.nod
  have h2 := List.nodup_append.mp h1.2
  have h3 := h.nb
  have h4 := h.nl
  have h5 := h1.1
  simp only [List.mem_cons, List.mem_append, not_or] at h3 h4 h5
  exact ⟨h5.1, h5.2, h2.1, h2.2.1, fun x a b => h2.2.2 x a x b rfl, Ne.symm h3.1, Ne.symm h4.1, h3.2.1, h3.2.2, h4.2.1, h4.2.2⟩
theorem Two.first (h : Two CS CL W rule c i n j s b ls p q fq r fr book lost) : Pre CS CL W c ⟨n, b, ls⟩ q fq book lost := by
  obtain ⟨a1, a2, a3, a4, a5, a6, a7, a8, a9, a10, a11⟩ := h.parts
  exact ⟨h.h1, a3, a8, a10, h.ne, h.bk, h.lsx⟩
theorem Two.second (h : Two CS CL W rule c i n j s b ls p q fq r fr book lost) : Pre CS CL W i ⟨j, b, ls⟩ r fr book lost := by
  obtain ⟨a1, a2, a3, a4, a5, a6, a7, a8, a9, a10, a11⟩ := h.parts
  exact ⟨h.h2, a4, a9, a11, h.ne, h.bk, h.lsx⟩
theorem Two.draw1 {d1 : Dr} (h : Two CS CL W rule c i n j s b ls p q fq r fr book lost) (a : After CS CL W W1 c d1 q fq book lost) : Two CS CL W1 rule c i d1.sd j s d1.b d1.ls p q fq r fr book lost ∧ ∀ x, x ∉ p :: (fq ++ fr) → x ≠ book → x ≠ lost → W1 x = W x := by
  obtain ⟨a1, a2, a3, a4, a5, a6, a7, a8, a9, a10, a11⟩ := h.parts
  refine ⟨⟨by rw [a.rest p a1 a6 a7]; exact h.at_, a.pre.nd, h.h2.frame fun x hx => a.rest x (fun z => a5 x z hx) (fun z => a9 (by rw [← z]; exact hx)) (fun z => a11 (by rw [← z]; exact hx)), h.nod, h.nb, h.nl, h.ne, a.pre.bk, a.pre.ls⟩, fun x x1 x2 x3 => ?_⟩
  simp only [List.mem_cons, List.mem_append, not_or] at x1
  exact a.rest x x1.2.1 x2 x3
theorem Two.draw2 {d1 : Dr} (h : Two CS CL W rule c i n j s b ls p q fq r fr book lost) (a : After CS CL W W1 i d1 r fr book lost) : Two CS CL W1 rule c i n d1.sd s d1.b d1.ls p q fq r fr book lost ∧ ∀ x, x ∉ p :: (fq ++ fr) → x ≠ book → x ≠ lost → W1 x = W x := by
  obtain ⟨a1, a2, a3, a4, a5, a6, a7, a8, a9, a10, a11⟩ := h.parts
  refine ⟨⟨by rw [a.rest p a2 a6 a7]; exact h.at_, h.h1.frame fun x hx => a.rest x (fun z => a5 x hx z) (fun z => a8 (by rw [← z]; exact hx)) (fun z => a10 (by rw [← z]; exact hx)), a.pre.nd, h.nod, h.nb, h.nl, h.ne, a.pre.bk, a.pre.ls⟩, fun x x1 x2 x3 => ?_⟩
  simp only [List.mem_cons, List.mem_append, not_or] at x1
  exact a.rest x x1.2.2 x2 x3
theorem Two.set {s' : LSt} (h : Two CS CL W rule c i n j s b ls p q fq r fr book lost) : Two CS CL (put W p (.ins CL (linkF rule q (.ref r) lost s'))) rule c i n j s' b ls p q fq r fr book lost ∧ ∀ x, x ∉ p :: (fq ++ fr) → x ≠ book → x ≠ lost → put W p (.ins CL (linkF rule q (.ref r) lost s')) x = W x := by
  obtain ⟨a1, a2, a3, a4, a5, a6, a7, a8, a9, a10, a11⟩ := h.parts
  refine ⟨⟨put_same, h.h1.frame fun x hx => put_ne fun z => a1 (by rw [← z]; exact hx), h.h2.frame fun x hx => put_ne fun z => a2 (by rw [← z]; exact hx), h.nod, h.nb, h.nl, h.ne, by rw [put_ne (Ne.symm a6)]; exact h.bk, by rw [put_ne (Ne.symm a7)]; exact h.lsx⟩, fun x x1 x2 x3 => ?_⟩
  simp only [List.mem_cons, List.mem_append, not_or] at x1
  exact put_ne x1.1
theorem Two.lose (h : Two CS CL W rule c i n j s b ls p q fq r fr book lost) (k : Int) : Two CS CL (put W lost (.lst (ls.map D.int ++ [.int k]))) rule c i n j s b (ls ++ [k]) p q fq r fr book lost ∧ ∀ x, x ∉ p :: (fq ++ fr) → x ≠ book → x ≠ lost → put W lost (.lst (ls.map D.int ++ [.int k])) x = W x := by
  obtain ⟨a1, a2, a3, a4, a5, a6, a7, a8, a9, a10, a11⟩ := h.parts
  exact ⟨⟨by rw [put_ne a7]; exact h.at_, h.h1.frame fun x hx => put_ne fun z => a10 (by rw [← z]; exact hx), h.h2.frame fun x hx => put_ne fun z => a11 (by rw [← z]; exact hx), h.nod, h.nb, h.nl, h.ne, by rw [put_ne h.ne]; exact h.bk, by rw [put_same, List.map_append]; rfl⟩, fun x _ _ x3 => put_ne x3⟩
theorem Ok.both {M : Nat} (h : Ok M (.both c i) ⟨.two n j s, b, ls⟩) : Ok M c ⟨n, b, ls⟩ ∧ ∀ {k : R}, Kept M c ⟨n, b, ls⟩ k → Ok M i ⟨j, k.d.b, k.d.ls⟩ := by
  obtain ⟨h1, h2, h3, h4, h5⟩ := h
  simp only [DL.bits] at h3
  simp only [DL.opn] at h5
  refine ⟨⟨h1, h2.1, by omega, h4.1, by simp only; omega⟩, fun {k} kk => ⟨h1, h2.2, by omega, h4.2.le kk.b, ?_⟩⟩
  have := kk.ls
  simp only at this ⊢
  omega
theorem Ok.thn {M : Nat} (h : Ok M (.thn c i) ⟨.two n j s, b, ls⟩) : Ok M c ⟨n, b, ls⟩ ∧ Ok M i ⟨j, b, ls⟩ ∧ ∀ {k : R}, Kept M c ⟨n, b, ls⟩ k → Ok M i ⟨j, k.d.b, k.d.ls⟩ := by
  obtain ⟨h1, h2, h3, h4, h5⟩ := h
  simp only [DL.bits] at h3
  simp only [DL.opn] at h5
  refine ⟨⟨h1, h2.1, by omega, h4.1, by simp only; omega⟩, ⟨h1, h2.2, by omega, h4.2, by simp only; omega⟩, fun {k} kk => ⟨h1, h2.2, by omega, h4.2.le kk.b, ?_⟩⟩
  have := kk.ls
  simp only at this ⊢
  omega
end
/-- a method of a link (or a source): it does F -/
def sp_run (CS CL : Addr) (ok : Ch → Prop) (ex : Ch → List D) (F : Ch → Dr → R) : DSp := fun ds W Q _ => ∃ c d p fp book lost M, ds = .ref p :: ex c ∧ ok c ∧ Pre CS CL W c d p fp book lost ∧ Ok M c d ∧ ∀ W', After CS CL W W' c (F c d).d p fp book lost → Q (outD (F c d)) W'
def isSrc : Ch → Prop
  | .src _ => True
  | _ => False
/-- drawing from a source, from a link of a chain of at most so many parts -/
def sp_src (CS CL : Addr) : DSp := sp_run CS CL isSrc (fun _ => []) draw
def sp_link (CS CL : Addr) (n : Nat) : DSp := sp_run CS CL (fun c => ¬ isSrc c ∧ c.size ≤ n) (fun _ => []) draw
def gAlt (g g' : GE) : GE := fun δ W Q => g δ W Q ∨ g' δ W Q
theorem d_alt {X : Cx} {W0 : Wd} {H0 : Hp} {e : Expr} {g g' : GE} (h : DE W0 H0 X e g) (h' : DE W0 H0 X e g') : DE W0 H0 X e (gAlt g g') := ⟨fun pins s σ H Q I q => by
  obtain ⟨δ, W, Qd, at_, q, f⟩ := q
  rcases q with q | q
  · exact h.run pins s σ H Q I ⟨δ, W, Qd, at_, q, f⟩
  · exact h'.run pins s σ H Q I ⟨δ, W, Qd, at_, q, f⟩⟩
/-- o.draw(), whatever o is of the two -/
theorem alt_draw {CS CL book lost : Addr} {W : Wd} {n : Nat} {c : Ch} {d : Dr} {p : Addr} {fp : List Addr} {M : Nat} {ge : GE} {δ : Dt} {Q : D → Wd → Prop} (he : ∀ K : D → Wd → Prop, K (.ref p) W → ge δ W K) (hc : c.size ≤ n) (h : Pre CS CL W c d p fp book lost) (ok : Ok M c d)
    (k : ∀ W', After CS CL W W' c (draw c d).d p fp book lost → Kept M c d (draw c d) → Ok M c (draw c d).d → Q (outD (draw c d)) W') : gAlt (gMeth CS (Str.ofString "draw") (sp_src CS CL) XD0 ge gNil) (gMeth CL (Str.ofString "draw") (sp_link CS CL n) XD0 ge gNil) δ W Q := by
  have k' : ∀ W', After CS CL W W' c (draw c d).d p fp book lost → Q (outD (draw c d)) W' := fun W' a => k W' a ok.draw.1 ok.draw.2
  cases c with
  | src m =>
    obtain ⟨sd, b, ls⟩ := d
    have h1 := h.nd
    cases sd with
    | src g =>
      obtain ⟨e, e2⟩ := h1
      exact .inl (he _ ⟨p, _, rfl, e2, sf_draw, .src m, _, p, fp, book, lost, M, rfl, trivial, h, ok, k'⟩)
    | op _ _ => exact h1.elim
    | two _ _ _ => exact h1.elim
  | op c o =>
    obtain ⟨n', s, q, fq, e1, e2, e3, _⟩ := h.opn
    exact .inr (he _ ⟨p, _, rfl, e3, lf_draw, .op c o, d, p, fp, book, lost, M, rfl, ⟨fun z => z, hc⟩, h, ok, k'⟩)
  | both c i =>
    obtain ⟨n', j, s, q, fq, r, fr, e1, e2, t⟩ := h.both
    exact .inr (he _ ⟨p, _, rfl, t.at_, lf_draw, .both c i, d, p, fp, book, lost, M, rfl, ⟨fun z => z, hc⟩, h, ok, k'⟩)
  | thn c i =>
    obtain ⟨n', j, s, q, fq, r, fr, e1, e2, t⟩ := h.thn
    exact .inr (he _ ⟨p, _, rfl, t.at_, lf_draw, .thn c i, d, p, fp, book, lost, M, rfl, ⟨fun z => z, hc⟩, h, ok, k'⟩)
end DL
end
section
set_option maxRecDepth 100000
set_option maxHeartbeats 4000000
namespace DL
open PySem PySem.Spec PyProof.Rows L2
def opNm : Op → String
  | .add _ => "add"
  | .times _ => "times"
  | .keep _ _ => "keep"
  | .drop _ => "drop"
  | .take _ => "take"
  | .each _ => "each"
  | .til _ => "until"
  | .unlike => "unlike"
def nmCh : Ch → String
  | .src _ => ""
  | .op _ o => opNm o
  | .both _ _ => "both"
  | .thn _ _ => "then"
section
variable {CS CL book lost : Addr} {W W1 : Wd} {c : Ch} {d : Dr} {p : Addr} {fp : List Addr}
theorem opD_nm (o : Op) : ∃ r, opD o = .tup (.str (Str.ofString (opNm o)) :: r) := by cases o <;> exact ⟨_, rfl⟩
theorem NdAt.link {sd : Sd} (h : NdAt CS CL book lost W c sd p fp) (k : ¬ isSrc c) : ∃ r q be, W p = some (.ins CL (linkF (.tup (.str (Str.ofString (nmCh c)) :: r)) q be lost (stOf sd))) := by
  cases c with
  | src m => exact (k trivial).elim
  | op c o =>
    cases sd with
    | op n s =>
      obtain ⟨q, fq, _, e, _⟩ := h
      obtain ⟨r, er⟩ := opD_nm o
      exact ⟨r, q, _, by rw [e, er]; rfl⟩
    | src _ => exact h.elim
    | two _ _ _ => exact h.elim
  | both c i =>
    cases sd with
    | two n j s =>
      obtain ⟨q, fq, r, fr, _, e, _⟩ := h
      exact ⟨_, q, _, e⟩
    | src _ => exact h.elim
    | op _ _ => exact h.elim
  | thn c i =>
    cases sd with
    | two n j s =>
      obtain ⟨q, fq, r, fr, _, e, _⟩ := h
      exact ⟨_, q, _, e⟩
    | src _ => exact h.elim
    | op _ _ => exact h.elim
theorem Pre.set {rule : D} {q : Addr} {be : D} {s s' : LSt} (h : Pre CS CL W c d p fp book lost) (k : ¬ isSrc c) (e : W p = some (.ins CL (linkF rule q be lost s))) :
    Pre CS CL (put W p (.ins CL (linkF rule q be lost s'))) c ⟨setSt s' d.sd, d.b, d.ls⟩ p fp book lost := by
  obtain ⟨sd, b, ls⟩ := d
  have hp : p ∈ fp := h.nd.root
  obtain ⟨h1, h2, h3, h4, h5, h6, h7⟩ := h
  have pb : p ≠ book := fun z => h3 (by rw [← z]; exact hp)
  have pl : p ≠ lost := fun z => h4 (by rw [← z]; exact hp)
  refine ⟨?_, h2, h3, h4, h5, by rw [put_ne (Ne.symm pb)]; exact h6, by rw [put_ne (Ne.symm pl)]; exact h7⟩
  have inj : ∀ {r1 q1 b1 s1}, W p = some (.ins CL (linkF r1 q1 b1 lost s1)) → rule = r1 ∧ q = q1 ∧ be = b1 := fun e1 => by
    rw [e] at e1
    simp only [Option.some.injEq, Ob.ins.injEq, linkF, List.cons.injEq, Prod.mk.injEq, D.ref.injEq, true_and, and_true] at e1
    exact ⟨e1.1, e1.2.1, e1.2.2.1⟩
  cases c with
  | src m => exact (k trivial).elim
  | op c o =>
    cases sd with
    | op n s0 =>
      obtain ⟨q0, fq, rfl, e0, h⟩ := h1
      obtain ⟨rfl, rfl, rfl⟩ := inj e0
      rw [List.nodup_cons] at h2
      exact ⟨_, _, rfl, put_same, h.frame fun x hx => put_ne fun z => h2.1 (by rw [← z]; exact hx)⟩
    | src _ => exact h1.elim
    | two _ _ _ => exact h1.elim
  | both c i =>
    cases sd with
    | two n j s0 =>
      obtain ⟨q0, fq, r0, fr, rfl, e0, k1, k2⟩ := h1
      obtain ⟨rfl, rfl, rfl⟩ := inj e0
      rw [List.nodup_cons, List.mem_append, not_or] at h2
      exact ⟨_, _, _, _, rfl, put_same, k1.frame fun x hx => put_ne fun z => h2.1.1 (by rw [← z]; exact hx), k2.frame fun x hx => put_ne fun z => h2.1.2 (by rw [← z]; exact hx)⟩
    | src _ => exact h1.elim
    | op _ _ => exact h1.elim
  | thn c i =>
    cases sd with
    | two n j s0 =>
      obtain ⟨q0, fq, r0, fr, rfl, e0, k1, k2⟩ := h1
      obtain ⟨rfl, rfl, rfl⟩ := inj e0
      rw [List.nodup_cons, List.mem_append, not_or] at h2
      exact ⟨_, _, _, _, rfl, put_same, k1.frame fun x hx => put_ne fun z => h2.1.1 (by rw [← z]; exact hx), k2.frame fun x hx => put_ne fun z => h2.1.2 (by rw [← z]; exact hx)⟩
    | src _ => exact h1.elim
    | op _ _ => exact h1.elim
theorem After.set {rule : D} {q : Addr} {be : D} {s s' : LSt} (h : After CS CL W W1 c d p fp book lost) (k : ¬ isSrc c) (e : W1 p = some (.ins CL (linkF rule q be lost s))) :
    After CS CL W (put W1 p (.ins CL (linkF rule q be lost s'))) c ⟨setSt s' d.sd, d.b, d.ls⟩ p fp book lost :=
  ⟨h.pre.set k e, fun x x1 x2 x3 => by rw [put_ne fun z => x1 (by rw [z]; exact h.pre.nd.root)]; exact h.rest x x1 x2 x3⟩
theorem Pre.put_out {x : Addr} {ob : Ob} (h : Pre CS CL W c d p fp book lost) (h1 : x ∉ fp) (h2 : x ≠ book) (h3 : x ≠ lost) : Pre CS CL (put W x ob) c d p fp book lost :=
  ⟨h.nd.frame fun y hy => put_ne fun z => h1 (by rw [← z]; exact hy), h.nod, h.nb, h.nl, h.ne, by rw [put_ne (Ne.symm h2)]; exact h.bk, by rw [put_ne (Ne.symm h3)]; exact h.ls⟩
theorem draw_link (k : ¬ isSrc c) : draw c d = if (stOf d.sd).over = true then ⟨.fin, 0, d⟩ else booked (byCh c d) := by
  cases c with
  | src m => exact (k trivial).elim
  | op _ _ => rw [draw, byCh]
  | both _ _ => rw [draw, byCh]
  | thn _ _ => rw [draw, byCh]
theorem setSt_self (sd : Sd) : setSt (stOf sd) sd = sd := by cases sd <;> rfl
theorem setSt_st (k : ¬ isSrc c) {sd : Sd} {s : LSt} (h : NdAt CS CL book lost W c sd p fp) : stOf (setSt s sd) = s := by
  cases sd with
  | src _ => cases c with
    | src _ => exact (k trivial).elim
    | _ => exact h.elim
  | _ => rfl
end
theorem fNe_non {i : Int} {W : Wd} {Q : D → Wd → Prop} : fNe (.int i) .non W Q = Q (.bl true) W := by
  simp [fNe, okEq, scalD, res, eqD, pyOf, PyData.eqv]
def nmOf (x : String) : List D := [.str (Str.ofString x)]
/-- a loop that seeks: where it stands -/
def SeekI (CS CL : Addr) (W0 : Wd) (c : Ch) (p : Addr) (nm : String) (q : Addr) (fq : List Addr) (book lost : Addr) (M : Nat) (good : Int → Bool) (d0 : Dr) (m : Nat) (δ : Dt) (W : Wd) : Prop :=
  ∃ d x2 x3 x4, δ = [some (.ref p), some (.str (Str.ofString nm)), x2, x3, x4] ∧ capD c d = m ∧ After CS CL W0 W c d q fq book lost ∧ Ok M c d ∧ seek (draw c) good (capD c) d = seek (draw c) good (capD c) d0
def SeekN (CS CL : Addr) (W0 : Wd) (c : Ch) (p : Addr) (nm : String) (q : Addr) (fq : List Addr) (book lost : Addr) (M : Nat) (good : Int → Bool) (d0 : Dr) (m : Nat) (δ : Dt) (W : Wd) : Prop := ∃ m', m' < m ∧ SeekI CS CL W0 c p nm q fq book lost M good d0 m' δ W
def DropI (CS CL : Addr) (W0 : Wd) (c : Ch) (m : Int) (p : Addr) (q : Addr) (fq : List Addr) (book lost : Addr) (M : Nat) (s : LSt) (d0 : Dr) (k : Nat) (δ : Dt) (W : Wd) : Prop :=
  ∃ l d x1 x2, δ = [some (.ref p), x1, x2] ∧ m.toNat - l = k ∧ W p = some (.ins CL (linkF (opD (.drop m)) q .non lost { s with left := l })) ∧ After CS CL W0 W (.op c (.drop m)) ⟨.op d.sd { s with left := l }, d.b, d.ls⟩ p (p :: fq) book lost ∧ Pre CS CL W c d q fq book lost ∧ Ok M c d ∧ letGo (draw c) m.toNat l d = letGo (draw c) m.toNat s.left d0
def DropN (CS CL : Addr) (W0 : Wd) (c : Ch) (m : Int) (p : Addr) (q : Addr) (fq : List Addr) (book lost : Addr) (M : Nat) (s : LSt) (d0 : Dr) (k : Nat) (δ : Dt) (W : Wd) : Prop := ∃ k', k' < k ∧ DropI CS CL W0 c m p q fq book lost M s d0 k' δ W
/-- links of the shape that a method of them is for -/
def isTil (n : Nat) : Ch → Prop
  | .op c (.til _) => c.size ≤ n
  | _ => False
def isSeek (n : Nat) : Ch → Prop
  | .op c (.keep _ _) => c.size ≤ n
  | .op c .unlike => c.size ≤ n
  | _ => False
def isDrop (n : Nat) : Ch → Prop
  | .op c (.drop _) => c.size ≤ n
  | _ => False
def isEach (n : Nat) : Ch → Prop
  | .op c (.each _) => c.size ≤ n
  | _ => False
def isBoth (n : Nat) : Ch → Prop
  | .both c i => c.size ≤ n ∧ i.size ≤ n
  | _ => False
def isThn (n : Nat) : Ch → Prop
  | .thn c i => c.size ≤ n ∧ i.size ≤ n
  | _ => False
end DL
end
section
set_option maxRecDepth 100000
set_option maxHeartbeats 4000000
namespace DL
open PySem PySem.Spec PyProof.Rows L2
def st0 : LSt := ⟨false, 0, none, 0⟩
def start : Ch → Sd
  | .src _ => .src 0
  | .op c _ => .op (start c) st0
  | .both c i => .two (start c) (start i) st0
  | .thn c i => .two (start c) (start i) st0
/-- how many were drawn of each maker -/
def gs : Sd → List Nat
  | .src g => [g]
  | .op n _ => gs n
  | .two n i _ => gs n ++ gs i
/-- its sources among its objects -/
def SrcsIn : Ch → List Addr → List Addr → Prop
  | .src _, fp, sa => sa = fp
  | .op c _, fp, sa => ∃ p fq, fp = p :: fq ∧ SrcsIn c fq sa
  | .both c i, fp, sa => ∃ p fq fr s1 s2, fp = p :: (fq ++ fr) ∧ fq.length = c.size ∧ sa = s1 ++ s2 ∧ SrcsIn c fq s1 ∧ SrcsIn i fr s2
  | .thn c i, fp, sa => ∃ p fq fr s1 s2, fp = p :: (fq ++ fr) ∧ fq.length = c.size ∧ sa = s1 ++ s2 ∧ SrcsIn c fq s1 ∧ SrcsIn i fr s2
section
variable {CS CL book lost : Addr} {W : Wd}
theorem NdAt.len : ∀ {c : Ch} {n : Sd} {p : Addr} {fp : List Addr}, NdAt CS CL book lost W c n p fp → fp.length = c.size
  | .src m, .src g, p, fp, ⟨e, h⟩ => by rw [e]; rfl
  | .op c o, .op n s, p, fp, ⟨q, fq, e, _, h⟩ => by rw [e, List.length_cons, h.len]; rfl
  | .both c i, .two n j s, p, fp, ⟨q, fq, r, fr, e, _, h1, h2⟩ => by rw [e, List.length_cons, List.length_append, h1.len, h2.len]; rfl
  | .thn c i, .two n j s, p, fp, ⟨q, fq, r, fr, e, _, h1, h2⟩ => by rw [e, List.length_cons, List.length_append, h1.len, h2.len]; rfl
theorem SrcsIn.len : ∀ {c : Ch} {fp sa : List Addr}, SrcsIn c fp sa → (∃ x, fp.length = x ∧ x = c.size) → sa.length = c.mks.length
  | .src m, fp, sa, e, ⟨x, h1, h2⟩ => by
    have e : sa = fp := e
    rw [e, h1, h2]; rfl
  | .op c o, fp, sa, ⟨p, fq, e, h⟩, ⟨x, h1, h2⟩ => by
    rw [e, List.length_cons] at h1
    exact h.len ⟨_, rfl, by simp only [Ch.size] at h2; omega⟩
  | .both c i, fp, sa, ⟨p, fq, fr, s1, s2, e, l, e2, k1, k2⟩, ⟨x, h1, h2⟩ => by
    rw [e, List.length_cons, List.length_append] at h1
    simp only [Ch.size] at h2
    rw [e2, List.length_append, k1.len ⟨_, rfl, l⟩, k2.len ⟨_, rfl, by omega⟩, Ch.mks, List.length_append]
  | .thn c i, fp, sa, ⟨p, fq, fr, s1, s2, e, l, e2, k1, k2⟩, ⟨x, h1, h2⟩ => by
    rw [e, List.length_cons, List.length_append] at h1
    simp only [Ch.size] at h2
    rw [e2, List.length_append, k1.len ⟨_, rfl, l⟩, k2.len ⟨_, rfl, by omega⟩, Ch.mks, List.length_append]
/-- sources, as they stand -/
def SrcsAt (CS book : Addr) (W : Wd) : List Addr → List Maker → List Nat → Prop
  | [], [], [] => True
  | x :: sa, m :: ms, g :: gl => W x = some (.ins CS (srcF m book g)) ∧ SrcsAt CS book W sa ms gl
  | _, _, _ => False
theorem SrcsAt.app : ∀ {s1 s2 : List Addr} {m1 m2 : List Maker} {g1 g2 : List Nat}, SrcsAt CS book W s1 m1 g1 → SrcsAt CS book W s2 m2 g2 → SrcsAt CS book W (s1 ++ s2) (m1 ++ m2) (g1 ++ g2)
  | [], _, [], _, [], _, _, k => k
  | x :: sa, _, m :: ms, _, g :: gl, _, ⟨h1, h2⟩, k => ⟨h1, SrcsAt.app h2 k⟩
theorem NdAt.srcs : ∀ {c : Ch} {n : Sd} {p : Addr} {fp sa : List Addr}, NdAt CS CL book lost W c n p fp → SrcsIn c fp sa → SrcsAt CS book W sa c.mks (gs n)
  | .src m, .src g, p, fp, sa, ⟨e, h⟩, k => by
    have k : sa = fp := k
    rw [k, e]; exact ⟨h, trivial⟩
  | .op c o, .op n s, p, fp, sa, ⟨q, fq, e, _, h⟩, ⟨p', fq', e', k⟩ => by
    rw [e] at e'
    cases e'
    exact h.srcs k
  | .both c i, .two n j s, p, fp, sa, ⟨q, fq, r, fr, e, _, h1, h2⟩, ⟨p', fq', fr', s1, s2, e', l, e2, k1, k2⟩ => by
    rw [e] at e'
    have e3 := (List.cons.inj e').2
    obtain ⟨rfl, rfl⟩ := List.append_inj e3 (by rw [h1.len]; exact l.symm)
    rw [e2]
    exact (h1.srcs k1).app (h2.srcs k2)
  | .thn c i, .two n j s, p, fp, sa, ⟨q, fq, r, fr, e, _, h1, h2⟩, ⟨p', fq', fr', s1, s2, e', l, e2, k1, k2⟩ => by
    rw [e] at e'
    have e3 := (List.cons.inj e').2
    obtain ⟨rfl, rfl⟩ := List.append_inj e3 (by rw [h1.len]; exact l.symm)
    rw [e2]
    exact (h1.srcs k1).app (h2.srcs k2)
theorem NdAt.known : ∀ {c : Ch} {n : Sd} {p : Addr} {fp : List Addr}, NdAt CS CL book lost W c n p fp → ∀ x ∈ fp, W x ≠ none
  | .src m, .src g, p, fp, ⟨e, h⟩, x, hx => by
    rw [e, List.mem_singleton] at hx
    rw [hx, h]; simp
  | .op c o, .op n s, p, fp, ⟨q, fq, e, h, h1⟩, x, hx => by
    rw [e, List.mem_cons] at hx
    rcases hx with rfl | hx
    · rw [h]; simp
    · exact h1.known x hx
  | .both c i, .two n j s, p, fp, ⟨q, fq, r, fr, e, h, h1, h2⟩, x, hx => by
    rw [e, List.mem_cons, List.mem_append] at hx
    rcases hx with rfl | hx | hx
    · rw [h]; simp
    · exact h1.known x hx
    · exact h2.known x hx
  | .thn c i, .two n j s, p, fp, ⟨q, fq, r, fr, e, h, h1, h2⟩, x, hx => by
    rw [e, List.mem_cons, List.mem_append] at hx
    rcases hx with rfl | hx | hx
    · rw [h]; simp
    · exact h1.known x hx
    · exact h2.known x hx
theorem SrcsAt.get : ∀ {sa : List Addr} {ms : List Maker} {gl : List Nat}, SrcsAt CS book W sa ms gl → ∀ x ∈ sa, ∃ m g, W x = some (.ins CS (srcF m book g))
  | x :: sa, m :: ms, g :: gl, ⟨h1, h2⟩, y, hy => by
    rcases List.mem_cons.mp hy with rfl | hy
    · exact ⟨_, _, h1⟩
    · exact h2.get y hy
theorem SrcsAt.frame {W' : Wd} (h : ∀ x ob, W x = some ob → W' x = some ob) : ∀ {sa : List Addr} {ms : List Maker} {gl : List Nat}, SrcsAt CS book W sa ms gl → SrcsAt CS book W' sa ms gl
  | [], [], [], _ => trivial
  | x :: sa, m :: ms, g :: gl, ⟨h1, h2⟩ => ⟨h _ _ h1, h2.frame h⟩
end
/-- c with more stages -/
def bld (c : Ch) : List Stg → Ch
  | [] => c
  | .op o :: r => bld (.op c o) r
  | .both i :: r => bld (.both c i) r
  | .thn i :: r => bld (.thn c i) r
theorem bld_app : ∀ (l l' : List Stg) (c : Ch), bld c (l ++ l') = bld (bld c l) l'
  | [], _, _ => rfl
  | .op o :: r, l', c => bld_app r l' _
  | .both o :: r, l', c => bld_app r l' _
  | .thn o :: r, l', c => bld_app r l' _
theorem bld_stl : ∀ c : Ch, bld (.src c.mk) c.stl = c
  | .src m => rfl
  | .op c o => by simp only [Ch.mk, Ch.stl, bld_app, bld_stl c]; rfl
  | .both c i => by simp only [Ch.mk, Ch.stl, bld_app, bld_stl c]; rfl
  | .thn c i => by simp only [Ch.mk, Ch.stl, bld_app, bld_stl c]; rfl
/-- how far the list of sources is taken -/
def isAt (srcs : List Addr) (k : Nat) (sa : List Addr) : Prop := ∃ r, srcs.drop k = sa ++ r
end DL
end
section
set_option maxRecDepth 100000
set_option maxHeartbeats 4000000
namespace DL
open PySem PySem.Spec PyProof.Rows L2
/-- what a drawer's chain is made of -/
structure MadeP (CD CS : Addr) (W : Wd) (p : Addr) (c : Ch) (k : Nat) (lost book : Addr) (srcs : List Addr) : Prop where
  fs : ∃ fs, W p = some (.ins CD fs) ∧ fs.lookup (Str.ofString "sources") = some (.lst (srcs.map D.ref)) ∧ fs.lookup (Str.ofString "lost") = some (.ref lost) ∧ fs.lookup (Str.ofString "made") = none
  nod : srcs.Nodup
  at_ : ∃ sa r gl, srcs.drop k = sa ++ r ∧ SrcsAt CS book W sa c.mks gl ∧ ∀ g ∈ gl, g = 0
structure MadeQ (CS CL : Addr) (W W' : Wd) (c : Ch) (k : Nat) (lost book : Addr) (srcs : List Addr) (q : Addr) (fp : List Addr) : Prop where
  nd : NdAt CS CL book lost W' c (start c) q fp
  nod : fp.Nodup
  src : ∃ sa r, srcs.drop k = sa ++ r ∧ SrcsIn c fp sa ∧ ∀ x ∈ fp, W x = none ∨ x ∈ sa
  rest : ∀ x ob, W x = some ob → W' x = some ob
structure MInv (CS CL book lost : Addr) (W0 W1 : Wd) (sa : List Addr) (c1 : Ch) (q1 : Addr) (fp1 : List Addr) (l : List Stg) : Prop where
  nd : NdAt CS CL book lost W1 c1 (start c1) q1 fp1
  nod : fp1.Nodup
  src : ∃ sa1 r1 gl1, sa = sa1 ++ r1 ∧ SrcsIn c1 fp1 sa1 ∧ (∀ x ∈ fp1, W0 x = none ∨ x ∈ sa1) ∧ SrcsAt CS book W1 r1 ((innOf l).flatMap Ch.mks) gl1 ∧ ∀ g ∈ gl1, g = 0
  rest : ∀ x ob, W0 x = some ob → W1 x = some ob
section
variable {CS CL CD book lost : Addr} {W W0 W1 W2 : Wd} {sa : List Addr} {c1 i : Ch} {q1 qi : Addr} {fp1 fpi : List Addr} {l : List Stg} {o : Op} {y : Addr}
theorem some_of {x : Addr} (h : W x ≠ none) : ∃ ob, W x = some ob := by
  cases e : W x with
  | none => exact (h e).elim
  | some ob => exact ⟨ob, rfl⟩
theorem none_of (rest : ∀ x ob, W0 x = some ob → W1 x = some ob) {x : Addr} (h : W1 x = none) : W0 x = none := by
  cases e : W0 x with
  | none => rfl
  | some ob => rw [rest x ob e] at h; cases h
theorem put_rest {ob' : Ob} (h : W1 y = none) : ∀ x ob, W1 x = some ob → put W1 y ob' x = some ob := fun x ob e => by
  rw [put_ne fun z => by rw [z, h] at e; cases e]; exact e
theorem NdAt.grow {c : Ch} {n : Sd} {p : Addr} {fp : List Addr} (h : NdAt CS CL book lost W c n p fp) (rest : ∀ x ob, W x = some ob → W1 x = some ob) : NdAt CS CL book lost W1 c n p fp :=
  h.frame fun x hx => by
    obtain ⟨ob, e⟩ := some_of (h.known x hx)
    rw [e, rest x ob e]
theorem SrcsAt.split : ∀ {m1 m2 : List Maker} {s : List Addr} {g : List Nat}, SrcsAt CS book W s (m1 ++ m2) g → ∃ s1 s2 g1 g2, s = s1 ++ s2 ∧ g = g1 ++ g2 ∧ s1.length = m1.length ∧ SrcsAt CS book W s1 m1 g1 ∧ SrcsAt CS book W s2 m2 g2
  | [], m2, s, g, h => ⟨[], s, [], g, rfl, rfl, rfl, trivial, h⟩
  | m :: m1, m2, x :: s, g0 :: g, ⟨h1, h2⟩ => by
    obtain ⟨s1, s2, g1, g2, rfl, rfl, l, k1, k2⟩ := SrcsAt.split h2
    exact ⟨x :: s1, s2, g0 :: g1, g2, rfl, rfl, by rw [List.length_cons, List.length_cons, l], ⟨h1, k1⟩, k2⟩
theorem MInv.sa1_len {sa1 : List Addr} (h : NdAt CS CL book lost W c1 (start c1) q1 fp1) (k : SrcsIn c1 fp1 sa1) : sa1.length = c1.mks.length := k.len ⟨_, rfl, h.len⟩
theorem MInv.op (h : MInv CS CL book lost W0 W1 sa c1 q1 fp1 (.op o :: l)) (hy : W1 y = none) : MInv CS CL book lost W0 (put W1 y (.ins CL (linkF (opD o) q1 .non lost st0))) sa (.op c1 o) y (y :: fp1) l := by
  obtain ⟨nd, nod, ⟨sa1, r1, gl1, e, si, fr, sat, g0⟩, rest⟩ := h
  have ny : y ∉ fp1 := fun z => nd.known y z hy
  refine ⟨⟨q1, fp1, rfl, put_same, nd.grow (put_rest hy)⟩, List.nodup_cons.mpr ⟨ny, nod⟩, ⟨sa1, r1, gl1, e, ⟨y, fp1, rfl, si⟩, fun x hx => ?_, sat.frame (put_rest hy), g0⟩, fun x ob e => put_rest hy x ob (rest x ob e)⟩
  rcases List.mem_cons.mp hx with rfl | hx
  · exact .inl (none_of rest hy)
  · exact fr x hx
theorem MInv.pre {p : Addr} {srcs rr : List Addr} {k : Nat} {l' : List Stg} (h : MInv CS CL book lost W0 W1 sa c1 q1 fp1 l') (hl : (innOf l').flatMap Ch.mks = i.mks ++ (innOf l).flatMap Ch.mks) (hsa : srcs.drop k = sa ++ rr)
    (fs : ∃ fs, W1 p = some (.ins CD fs) ∧ fs.lookup (Str.ofString "sources") = some (.lst (srcs.map D.ref)) ∧ fs.lookup (Str.ofString "lost") = some (.ref lost) ∧ fs.lookup (Str.ofString "made") = none) (nod : srcs.Nodup) :
    MadeP CD CS W1 p i (k + c1.mks.length) lost book srcs := by
  obtain ⟨nd, nod1, ⟨sa1, r1, gl1, e, si, fr, sat, g0⟩, rest⟩ := h
  rw [hl] at sat
  obtain ⟨s1, s2, g1, g2, rfl, rfl, l1, k1, k2⟩ := sat.split
  refine ⟨fs, nod, s1, s2 ++ rr, g1, ?_, k1, fun g hg => g0 g (List.mem_append_left _ hg)⟩
  rw [← List.drop_drop, hsa, e, ← MInv.sa1_len nd si, List.append_assoc, List.drop_left, List.append_assoc]
theorem MInv.two {srcs rr : List Addr} {k : Nat} {l' : List Stg} {rule : D} {gl : List Nat} {ms : List Maker} {n2 : Ch} (hn : n2 = .both c1 i ∧ rule = bothD i ∨ n2 = .thn c1 i ∧ rule = thenD i) (h : MInv CS CL book lost W0 W1 sa c1 q1 fp1 l') (hl : (innOf l').flatMap Ch.mks = i.mks ++ (innOf l).flatMap Ch.mks) (hsa : srcs.drop k = sa ++ rr)
    (nod : srcs.Nodup) (s0 : SrcsAt CS book W0 sa ms gl) (mq : MadeQ CS CL W1 W2 i (k + c1.mks.length) lost book srcs qi fpi) (hy : W2 y = none) :
    MInv CS CL book lost W0 (put W2 y (.ins CL (linkF rule q1 (.ref qi) lost st0))) sa n2 y (y :: (fp1 ++ fpi)) l := by
  obtain ⟨nd, nod1, ⟨sa1, r1, gl1, e, si, fr, sat, g0⟩, rest⟩ := h
  obtain ⟨ndi, nodi, ⟨sai, ri, ei, sii, fri⟩, resti⟩ := mq
  rw [hl] at sat
  obtain ⟨s1, s2, g1, g2, rfl, rfl, l1, k1, k2⟩ := sat.split
  have e1 : srcs.drop (k + c1.mks.length) = s1 ++ (s2 ++ rr) := by
    rw [← List.drop_drop, hsa, e, ← MInv.sa1_len nd si, List.append_assoc, List.drop_left, List.append_assoc]
  rw [e1] at ei
  obtain ⟨rfl, _⟩ := List.append_inj ei (by rw [l1]; exact (MInv.sa1_len ndi sii).symm)
  have nd1 := nd.grow resti
  have ny1 : y ∉ fp1 := fun z => nd1.known y z hy
  have nyi : y ∉ fpi := fun z => ndi.known y z hy
  have nsa : sa.Nodup := by
    have := (List.drop_sublist k srcs).nodup nod
    rw [hsa] at this
    exact (List.nodup_append.mp this).1
  have dis : ∀ x ∈ fp1, x ∉ fpi := fun x x1 x2 => by
    rcases fri x x2 with z | z
    · exact nd.known x x1 z
    · have xs : x ∈ sa := by rw [e]; simp [z]
      rcases fr x x1 with z2 | z2
      · obtain ⟨_, _, z3⟩ := s0.get x xs
        rw [z2] at z3
        cases z3
      · rw [e] at nsa
        exact (List.nodup_append.mp nsa).2.2 x z2 x (by simp [z]) rfl
  have res2 : ∀ x ob, W0 x = some ob → W2 x = some ob := fun x ob e => resti x ob (rest x ob e)
  have nodz : (y :: (fp1 ++ fpi)).Nodup := by
    rw [List.nodup_cons, List.mem_append, not_or, List.nodup_append]
    exact ⟨⟨ny1, nyi⟩, nod1, nodi, fun x x1 z z1 => fun e => dis x x1 (by rw [e]; exact z1)⟩
  have frz : ∀ x ∈ y :: (fp1 ++ fpi), W0 x = none ∨ x ∈ sa1 ++ s1 := fun x hx => by
    rw [List.mem_cons, List.mem_append] at hx
    rcases hx with rfl | hx | hx
    · exact .inl (none_of res2 hy)
    · rcases fr x hx with z | z
      · exact .inl z
      · exact .inr (List.mem_append_left _ z)
    · rcases fri x hx with z | z
      · exact .inl (none_of rest z)
      · exact .inr (List.mem_append_right _ z)
  have stz : SrcsAt CS book (put W2 y (.ins CL (linkF rule q1 (.ref qi) lost st0))) s2 ((innOf l).flatMap Ch.mks) g2 := (k2.frame resti).frame (put_rest hy)
  have rz : ∀ x ob, W0 x = some ob → put W2 y (.ins CL (linkF rule q1 (.ref qi) lost st0)) x = some ob := fun x ob e => put_rest hy x ob (res2 x ob e)
  have ez : sa = (sa1 ++ s1) ++ s2 := by rw [e, List.append_assoc]
  rcases hn with ⟨rfl, rfl⟩ | ⟨rfl, rfl⟩
  · exact ⟨⟨q1, fp1, qi, fpi, rfl, put_same, nd1.grow (put_rest hy), ndi.grow (put_rest hy)⟩, nodz, ⟨sa1 ++ s1, s2, g2, ez, ⟨y, fp1, fpi, sa1, s1, rfl, nd.len, rfl, si, sii⟩, frz, stz, fun g hg => g0 g (List.mem_append_right _ hg)⟩, rz⟩
  · exact ⟨⟨q1, fp1, qi, fpi, rfl, put_same, nd1.grow (put_rest hy), ndi.grow (put_rest hy)⟩, nodz, ⟨sa1 ++ s1, s2, g2, ez, ⟨y, fp1, fpi, sa1, s1, rfl, nd.len, rfl, si, sii⟩, frz, stz, fun g hg => g0 g (List.mem_append_right _ hg)⟩, rz⟩
end
end DL
end
section
set_option maxRecDepth 100000
set_option maxHeartbeats 4000000
namespace DL
open PySem PySem.Spec PyProof.Rows L2
theorem forGo_nil {gg : GG} {gb : GS} {G : GEnds} {δ : Dt} {W : Wd} : forGo gg gb [] G δ W = G.nx δ W := rfl
theorem forGo_cons {gg : GG} {gb : GS} {x : D} {r : List D} {G : GEnds} {δ : Dt} {W : Wd} : forGo gg gb (x :: r) G δ W = gg x δ W fun δ1 W1 => gb { G with nx := forGo gg gb r G, ct := forGo gg gb r G, bk := G.nx } δ1 W1 := rfl
def drwF (book lost bk : Addr) (sa : List Addr) (top : Addr) (stuck : Bool) : List (Str × D) := [(Str.ofString "book", .ref book), (Str.ofString "lost", .ref lost), (Str.ofString "back", .ref bk), (Str.ofString "stuck", .bl stuck), (Str.ofString "sources", .lst (sa.map D.ref)), (Str.ofString "top", .ref top)]
section
variable {book lost bk top : Addr} {sa : List Addr} {stuck : Bool}
theorem df_book : (drwF book lost bk sa top stuck).lookup (Str.ofString "book") = some (.ref book) := by simp [drwF, List.lookup, str_beq]
theorem df_lost : (drwF book lost bk sa top stuck).lookup (Str.ofString "lost") = some (.ref lost) := by simp [drwF, List.lookup, str_beq]
theorem df_back : (drwF book lost bk sa top stuck).lookup (Str.ofString "back") = some (.ref bk) := by simp [drwF, List.lookup, str_beq]
theorem df_stuck : (drwF book lost bk sa top stuck).lookup (Str.ofString "stuck") = some (.bl stuck) := by simp [drwF, List.lookup, str_beq]
theorem df_sources : (drwF book lost bk sa top stuck).lookup (Str.ofString "sources") = some (.lst (sa.map D.ref)) := by simp [drwF, List.lookup, str_beq]
theorem df_top : (drwF book lost bk sa top stuck).lookup (Str.ofString "top") = some (.ref top) := by simp [drwF, List.lookup, str_beq]
theorem df_next : (drwF book lost bk sa top stuck).lookup (Str.ofString "next") = none := by simp [drwF, List.lookup, str_beq]
theorem df_drawn : (drwF book lost bk sa top stuck).lookup (Str.ofString "drawn") = none := by simp [drwF, List.lookup, str_beq]
theorem df_undone : (drwF book lost bk sa top stuck).lookup (Str.ofString "undone") = none := by simp [drwF, List.lookup, str_beq]
theorem df_put_back : (drwF book lost bk sa top stuck).lookup (Str.ofString "put_back") = none := by simp [drwF, List.lookup, str_beq]
theorem df_len : (drwF book lost bk sa top stuck).length < 1000 := by simp [drwF]
theorem dp_stuck {b : Bool} : putG (Str.ofString "stuck") (.bl b) (drwF book lost bk sa top stuck) = drwF book lost bk sa top b := by simp [drwF, putG, str_inj]
end
/-- where a drawer's things are -/
structure DA5 where
  (p book lost bk top : Addr)
  (fp sa : List Addr)
def DA5.all (x : DA5) : List Addr := x.p :: x.bk :: x.book :: x.lost :: x.fp
structure DrwAt (CD CS CL : Addr) (W : Wd) (c : Ch) (d : Dr) (back : List Int) (stuck : Bool) (x : DA5) : Prop where
  at_ : W x.p = some (.ins CD (drwF x.book x.lost x.bk x.sa x.top stuck))
  pre : Pre CS CL W c d x.top x.fp x.book x.lost
  bk : W x.bk = some (.lst (back.map D.int))
  si : SrcsIn c x.fp x.sa
  nd : x.all.Nodup
section
variable {CD CS CL p y : Addr} {W W1 : Wd} {ob : Ob} {fs fs' : List (Str × D)} {f : Str}
theorem fresh_fld (hp : W p = some (.ins CD fs)) (hy : W y = none) (hW : put (put W y ob) p (.ins CD (putG f (.ref y) fs)) = W1) : W1 p = some (.ins CD (putG f (.ref y) fs)) ∧ W1 y = some ob ∧ y ≠ p ∧ ∀ z o, z ≠ p → W z = some o → W1 z = some o := by
  subst hW
  have ne : y ≠ p := fun z => by rw [z, hp] at hy; cases hy
  refine ⟨put_same, by rw [put_ne ne, put_same], ne, fun z o z1 z2 => ?_⟩
  rw [put_ne z1, put_ne fun e => by rw [e, hy] at z2; cases z2]
  exact z2
theorem fresh_any {ob1 ob2 : Ob} (hp : W p = some ob1) (hy : W y = none) (hW : put (put W y ob) p ob2 = W1) : W1 p = some ob2 ∧ W1 y = some ob ∧ y ≠ p ∧ ∀ z o, z ≠ p → W z = some o → W1 z = some o := by
  subst hW
  have ne : y ≠ p := fun z => by rw [z, hp] at hy; cases hy
  refine ⟨put_same, by rw [put_ne ne, put_same], ne, fun z o z1 z2 => ?_⟩
  rw [put_ne z1, put_ne fun e => by rw [e, hy] at z2; cases z2]
  exact z2
theorem set_fld (hW : put W p ob = W1) : W1 p = some ob ∧ ∀ z, z ≠ p → W1 z = W z := by
  subst hW
  exact ⟨put_same, fun z h => put_ne h⟩
theorem fresh_at {ob1 : Ob} (hp : W p = some ob1) (hy : W y = none) : put W y ob p = some ob1 := by
  rw [put_ne fun z => by rw [← z, hp] at hy; cases hy]; exact hp
theorem SrcsAt.frameM {book : Addr} {W' : Wd} : ∀ {sa : List Addr} {ms : List Maker} {gl : List Nat}, SrcsAt CS book W sa ms gl → (∀ x ∈ sa, W' x = W x) → SrcsAt CS book W' sa ms gl
  | [], [], [], _, _ => trivial
  | x :: sa, m :: ms, g :: gl, ⟨h1, h2⟩, h => ⟨by rw [h x List.mem_cons_self]; exact h1, h2.frameM fun y hy => h y (List.mem_cons_of_mem _ hy)⟩
theorem lc_srcs {pl book : Addr} {ge : GE} {i : Nat} {δ0 : Dt} (ne : p ≠ pl) (hge : ∀ (m : Maker) (W' : Wd), W' p = some (.ins CD fs) → ∀ Q' : D → Wd → Prop, (∀ x, W' x = none → Q' (.ref x) (put W' x (.ins CS (srcF m book 0)))) → ge (δ0.set i (some (mkD m))) W' Q') :
    ∀ (ms : List Maker) (sa : List Addr) (W : Wd) (Q : Wd → Prop), W p = some (.ins CD fs) → W pl = some (.lst (sa.map D.ref)) → sa.length + ms.length ≤ 1000 →
      (∀ W' sa' gl, W' pl = some (.lst ((sa ++ sa').map D.ref)) → SrcsAt CS book W' sa' ms gl → (∀ g ∈ gl, g = 0) → (∀ y ob, y ≠ pl → W y = some ob → W' y = some ob) → (∀ y ∈ sa', W y = none) → sa'.Nodup → Q W') → lcGo pl (kName i) gYes ge δ0 (ms.map mkD) W Q
  | [], sa, W, Q, hp, hl, l, q => q W [] [] (by rw [List.append_nil]; exact hl) trivial (by simp) (fun _ _ _ h => h) (by simp) List.nodup_nil
  | m :: ms, sa, W, Q, hp, hl, l, q => by
    rw [List.length_cons] at l
    refine iteT (B := lcGo pl (kName i) gYes ge δ0 (ms.map mkD) W Q) (hge m W hp _ fun x hx => ?_)
    have np : p ≠ x := fun z => by rw [← z, hp] at hx; cases hx
    have nl : pl ≠ x := fun z => by rw [← z, hl] at hx; cases hx
    refine ⟨sa.map D.ref, by rw [put_ne nl]; exact hl, sz_less (by rw [List.length_map]; omega), ?_⟩
    refine lc_srcs ne hge ms (sa ++ [x]) _ Q (by rw [put_ne ne, put_ne np]; exact hp) (by rw [put_same, List.map_append]; rfl) (by rw [List.length_append, List.length_singleton]; omega) fun W' sa' gl k1 k2 k3 k4 k5 k6 => ?_
    have xl : x ≠ pl := Ne.symm nl
    have hx' : W' x = some (.ins CS (srcF m book 0)) := k4 x _ xl (by rw [put_ne xl, put_same])
    have kn : ∀ y ∈ sa', y ≠ pl ∧ y ≠ x ∧ W y = none := fun y hy => by
      have h1 := k5 y hy
      have n1 : y ≠ pl := fun z => by rw [z, put_same] at h1; cases h1
      rw [put_ne n1] at h1
      have n2 : y ≠ x := fun z => by rw [z, put_same] at h1; cases h1
      rw [put_ne n2] at h1
      exact ⟨n1, n2, h1⟩
    refine q W' (x :: sa') (0 :: gl) (by rw [k1, List.append_assoc]; rfl) ⟨hx', k2⟩ (fun g hg => ?_) (fun y ob n e => k4 y ob n ?_) (fun y hy => ?_) (List.nodup_cons.mpr ⟨fun z => (kn x z).2.1 rfl, k6⟩)
    · rcases List.mem_cons.mp hg with rfl | hg
      · rfl
      · exact k3 g hg
    · rw [put_ne n, put_ne fun z => by rw [z, hx] at e; cases e]
      exact e
    · rcases List.mem_cons.mp hy with rfl | hy
      · exact hx
      · exact (kn y hy).2.2
end
end DL
end
section
set_option maxRecDepth 100000
set_option maxHeartbeats 4000000
namespace DL
open PySem PySem.Spec PyProof.Rows L2
/-- a drawer: its chain's state, what was put back, whether it is stuck -/
structure Dw where
  d : Dr
  back : List Int
  stuck : Bool
def tellD : W3 → Int → D
  | .num, k => .tup [.str (Str.ofString "number"), .int k]
  | w, _ => .tup [.str (wordOf w)]
/-- the next number of a drawer -/
def next (c : Ch) (x : Dw) : (W3 × Int) × Dw :=
  match x.back.getLast? with
  | some k => ((.num, k), ⟨x.d, x.back.dropLast, x.stuck⟩)
  | none => if x.stuck = true then ((.long, 0), x) else
    let r := draw c ⟨x.d.sd, 200, x.d.ls⟩
    ((r.w, r.k), ⟨r.d, x.back, r.w == .long⟩)
/-- a drawer stands there -/
def DwAt (CD CS CL : Addr) (W : Wd) (c : Ch) (x : Dw) (y : DA5) : Prop := DrwAt CD CS CL W c x.d x.back x.stuck y
/-- its numbers keep to what the machine holds; n: how many times more it may draw -/
structure OkD (n : Nat) (c : Ch) (x : Dw) : Prop where
  ok : ∃ M, M + 200 * n ≤ 2 ^ 64 ∧ Ok M c ⟨x.d.sd, x.d.b, x.d.ls⟩
  b : x.d.b ≤ 200
  back : x.back.length ≤ 1000000
theorem OkD.go {n : Nat} {c : Ch} {x : Dw} (h : OkD (n + 1) c x) : ∃ M, M + 200 * n ≤ 2 ^ 64 ∧ Ok M c ⟨x.d.sd, 200, x.d.ls⟩ := by
  obtain ⟨⟨M, hM, ok⟩, hb, _⟩ := h
  exact ⟨M + 200, by omega, by omega, ok.num, ok.bits, ok.fit.up (Nat.le_add_left _ _), ok.ls⟩
theorem OkD.next {n : Nat} {c : Ch} {x : Dw} (h : OkD (n + 1) c x) : OkD n c (DL.next c x).2 := by
  unfold DL.next
  split
  · obtain ⟨⟨M, hM, ok⟩, hb, hk⟩ := h
    exact ⟨⟨M, by omega, ok⟩, hb, by simp only [List.length_dropLast]; omega⟩
  · split
    · obtain ⟨⟨M, hM, ok⟩, hb, hk⟩ := h
      exact ⟨⟨M, by omega, ok⟩, hb, hk⟩
    · obtain ⟨M, hM, ok⟩ := h.go
      exact ⟨⟨M, hM, ok.draw.2⟩, ok.draw.1.b, h.back⟩
/-- what is not a drawer's stands as it was -/
def Same (W W' : Wd) (l : List Addr) : Prop := ∀ z, z ∉ l → W' z = W z
section
variable {CD CS CL : Addr} {W W1 : Wd} {c : Ch} {d : Dr} {back : List Int} {stuck : Bool} {y : DA5}
structure DA5.Parts (y : DA5) : Prop where
  p : y.p ≠ y.bk ∧ y.p ≠ y.book ∧ y.p ≠ y.lost ∧ y.p ∉ y.fp
  bk : y.bk ≠ y.book ∧ y.bk ≠ y.lost ∧ y.bk ∉ y.fp
  book : y.book ≠ y.lost ∧ y.book ∉ y.fp
  lost : y.lost ∉ y.fp
theorem DA5.parts (h : y.all.Nodup) : y.Parts := by
  simp only [DA5.all, List.nodup_cons, List.mem_cons, not_or] at h
  obtain ⟨h1, h2, h4, h5, h6⟩ := h
  exact ⟨h1, h2, h4, h5⟩
theorem Same.refl (W : Wd) (l : List Addr) : Same W W l := fun _ _ => rfl
theorem Same.trans {W2 : Wd} {l : List Addr} (a : Same W W1 l) (b : Same W1 W2 l) : Same W W2 l := fun z h => (b z h).trans (a z h)
theorem Same.put {l : List Addr} {x : Addr} {ob : Ob} (h : x ∈ l) : Same W (put W x ob) l := fun z hz => put_ne fun e => hz (by rw [e]; exact h)
theorem NdAt.sameF {book lost : Addr} {n : Sd} {q : Addr} {fp : List Addr} {x : Addr} {ob : Ob} (h : NdAt CS CL book lost W c n q fp) (hx : x ∉ fp) : NdAt CS CL book lost (put W x ob) c n q fp := h.frame fun z hz => put_ne fun e => hx (by rw [← e]; exact hz)
theorem DrwAt.setBack {back' : List Int} (h : DrwAt CD CS CL W c d back stuck y) : DrwAt CD CS CL (put W y.bk (.lst (back'.map D.int))) c d back' stuck y := by
  have t := DA5.parts h.nd
  obtain ⟨h1, ⟨a1, a2, a3, a4, a5, a6, a7⟩, h3, h5, h6⟩ := h
  exact ⟨by rw [put_ne t.p.1]; exact h1, ⟨a1.sameF t.bk.2.2, a2, a3, a4, a5, by rw [put_ne (Ne.symm t.bk.1)]; exact a6, by rw [put_ne (Ne.symm t.bk.2.1)]; exact a7⟩, put_same, h5, h6⟩
theorem DrwAt.setStuck {stuck' : Bool} (h : DrwAt CD CS CL W c d back stuck y) : DrwAt CD CS CL (put W y.p (.ins CD (drwF y.book y.lost y.bk y.sa y.top stuck'))) c d back stuck' y := by
  have t := DA5.parts h.nd
  obtain ⟨h1, ⟨a1, a2, a3, a4, a5, a6, a7⟩, h3, h5, h6⟩ := h
  exact ⟨put_same, ⟨a1.sameF t.p.2.2.2, a2, a3, a4, a5, by rw [put_ne (Ne.symm t.p.2.1)]; exact a6, by rw [put_ne (Ne.symm t.p.2.2.1)]; exact a7⟩, by rw [put_ne (Ne.symm t.p.1)]; exact h3, h5, h6⟩
theorem DrwAt.setBook {b : Nat} (h : DrwAt CD CS CL W c d back stuck y) : DrwAt CD CS CL (put W y.book (.lst [.int (b : Int)])) c ⟨d.sd, b, d.ls⟩ back stuck y := by
  have t := DA5.parts h.nd
  obtain ⟨h1, ⟨a1, a2, a3, a4, a5, a6, a7⟩, h3, h5, h6⟩ := h
  exact ⟨by rw [put_ne t.p.2.1]; exact h1, ⟨a1.sameF t.book.2, a2, a3, a4, a5, put_same, by rw [put_ne (Ne.symm t.book.1)]; exact a7⟩, by rw [put_ne t.bk.1]; exact h3, h5, h6⟩
theorem DrwAt.after {d1 : Dr} (h : DrwAt CD CS CL W c d back stuck y) (k : After CS CL W W1 c d1 y.top y.fp y.book y.lost) : DrwAt CD CS CL W1 c d1 back stuck y ∧ Same W W1 y.all := by
  have t := DA5.parts h.nd
  obtain ⟨h1, _, h3, h5, h6⟩ := h
  refine ⟨⟨by rw [k.rest _ t.p.2.2.2 t.p.2.1 t.p.2.2.1]; exact h1, k.pre, by rw [k.rest _ t.bk.2.2 t.bk.1 t.bk.2.1]; exact h3, h5, h6⟩, fun z hz => ?_⟩
  simp only [DA5.all, List.mem_cons, not_or] at hz
  exact k.rest z hz.2.2.2.2 hz.2.2.1 hz.2.2.2.1
theorem DrwAt.known (h : DrwAt CD CS CL W c d back stuck y) : ∀ u ∈ y.all, W u ≠ none := fun u hu => by
  simp only [DA5.all, List.mem_cons] at hu
  rcases hu with rfl | rfl | rfl | rfl | hu
  · rw [h.at_]; simp
  · rw [h.bk]; simp
  · rw [h.pre.bk]; simp
  · rw [h.pre.ls]; simp
  · exact h.pre.nd.known u hu
theorem DrwAt.out {x : Addr} {ob : Ob} (h : DrwAt CD CS CL W c d back stuck y) (hx : x ∉ y.all) : DrwAt CD CS CL (put W x ob) c d back stuck y := by
  simp only [DA5.all, List.mem_cons, not_or] at hx
  obtain ⟨n1, n2, n3, n4, n5⟩ := hx
  obtain ⟨h1, ⟨a1, a2, a3, a4, a5, a6, a7⟩, h3, h5, h6⟩ := h
  exact ⟨by rw [put_ne (Ne.symm n1)]; exact h1, ⟨a1.sameF n5, a2, a3, a4, a5, by rw [put_ne (Ne.symm n3)]; exact a6, by rw [put_ne (Ne.symm n4)]; exact a7⟩, by rw [put_ne (Ne.symm n2)]; exact h3, h5, h6⟩
end
theorem nstb : ∀ c : Ch, bits c ≤ 200 * c.mks.length + 129 * c.nst
  | .src m => by simp [bits, Ch.mks, Ch.nst]
  | .op c o => by have := nstb c; cases o <;> simp only [bits, Ch.mks, Ch.nst] <;> omega
  | .both c i => by have := nstb c; have := nstb i; simp only [bits, Ch.mks, Ch.nst, List.length_append]; omega
  | .thn c i => by have := nstb c; have := nstb i; simp only [bits, Ch.mks, Ch.nst, List.length_append]; omega
theorem size_nst : ∀ c : Ch, c.size = c.mks.length + c.nst
  | .src m => rfl
  | .op c o => by have := size_nst c; simp only [Ch.size, Ch.mks, Ch.nst]; omega
  | .both c i => by have := size_nst c; have := size_nst i; simp only [Ch.size, Ch.mks, Ch.nst, List.length_append]; omega
  | .thn c i => by have := size_nst c; have := size_nst i; simp only [Ch.size, Ch.mks, Ch.nst, List.length_append]; omega
theorem opn_start : ∀ c : Ch, opn c (start c) = c.nst
  | .src m => rfl
  | .op c o => by simp only [opn, start, Ch.nst, opn_start c, st0]; simp
  | .both c i => by simp only [opn, start, Ch.nst, opn_start c, opn_start i, st0]; simp
  | .thn c i => by simp only [opn, start, Ch.nst, opn_start c, opn_start i, st0]; simp
theorem fit_start : ∀ c : Ch, Fit 0 c (start c) 0
  | .src (.row _) => ⟨Nat.le_refl _, Nat.zero_le _⟩
  | .src (.count _ _) => Nat.le_refl _
  | .op c o => ⟨fit_start c, fun k h => (by cases h), (by cases o <;> first | trivial | exact fun h => absurd rfl h)⟩
  | .both c i => ⟨fit_start c, fit_start i⟩
  | .thn c i => ⟨fit_start c, fit_start i⟩
theorem OkD.start {c : Ch} (g : Good c) (h : NumB c) {n : Nat} (hn : n ≤ 1000000) : OkD n c ⟨⟨start c, 0, []⟩, [], false⟩ := by
  have h1 := nstb c
  have h2 := g.nm
  have h3 := g.st
  have h4 := opn_start c
  refine ⟨⟨0, by omega, by omega, h, by omega, fit_start c, ?_⟩, by simp, by simp⟩
  simp only [List.length_nil]
  omega
end DL
end
section
set_option maxRecDepth 100000
set_option maxHeartbeats 4000000
namespace DL
open PySem PySem.Spec PyProof.Rows L2
def gsD (d : Dr) : D := .lst ((gs d.sd).map fun (g : Nat) => D.int (g : Int))
/-- so many numbers of a drawer: the numbers, what came instead of one, the drawer then -/
def run (c : Ch) : Nat → Dw → List Int × Option W3 × Dw
  | 0, x => ([], none, x)
  | n + 1, x => if (next c x).1.1 = .num then ((next c x).1.2 :: (run c n (next c x).2).1, (run c n (next c x).2).2) else ([], some (next c x).1.1, (next c x).2)
def dw0 (c : Ch) : Dw := ⟨⟨start c, 0, []⟩, [], false⟩
def firstP (c : Ch) (n : Nat) : List Int × Option W3 × Dw := run c n (dw0 c)
def endS : Option W3 → Str
  | none => Str.ofString "more"
  | some w => wordOf w
def firstD (c : Ch) (n : Nat) : D := .tup [.lst ((firstP c n).1.map D.int), .str (endS (firstP c n).2.1), gsD (firstP c n).2.2.d]
theorem step_shrink {W W' : Wd} {H : Hp} (h : ∀ x, W' x = none → W x = none) : Step W' H W H := ⟨fun _ _ e _ _ => e, fun x _ _ _ e => h x e⟩
theorem own_shrink {W W' : Wd} {H : Hp} (h : ∀ x ob, W x = some ob → W' x = some ob) (h2 : ∀ x, W' x = none → W x = none) (o : Own W' H) : Own W H := by
  have s := step_shrink (H := H) h2
  intro p ob e
  have k := o p ob (h p ob e)
  cases ob with
  | lst ds => obtain ⟨vs, e1, e2⟩ := k; exact ⟨vs, e1, e2.mono s⟩
  | ins C fs => obtain ⟨dx, vs, e1, e2⟩ := k; exact ⟨dx, vs, e1, e2.mono s⟩
  | dk kvs => obtain ⟨vs, e1, e2⟩ := k; exact ⟨vs, e1, e2.mono s⟩
  | dt kvs => obtain ⟨vs, e1, e2⟩ := k; exact ⟨vs, e1, e2.mono s⟩
  | tbl q => exact k
  | lam _ _ _ _ _ => exact k
  | cel _ => obtain ⟨ob, v, u, h1, h2, h3, h4⟩ := k; exact ⟨ob, v, u, h1, h2, h3, h4.mono s⟩
theorem Conv.shrink {W W' : Wd} {d : D} (h : ∀ x ob, W x = some ob → W' x = some ob) : Conv d W' d W := fun H v o i =>
  have h2 : ∀ x, W' x = none → W x = none := fun x e => none_of h e
  ⟨own_shrink h h2 o, i.mono (step_shrink h2), step_shrink h2⟩
theorem done.shrink {Q : D → Wd → Prop} {d : D} {W W' : Wd} (h : ∀ x ob, W x = some ob → W' x = some ob) (q : Q d W) : done Q d W' := ⟨d, W, Conv.shrink h, q⟩
end DL
end
section
set_option maxRecDepth 100000
set_option maxHeartbeats 2000000
namespace DL
open PySem PySem.Spec PyProof.Rows L2
def fTupleT : GRN := fun xs W Q => ∃ ds, xs = [.tup ds] ∧ Q (.tup ds) W
theorem s_tupleT {K : PySem.W.Frag} : SimN (fun xs H Q => ∃ p ys, xs = [.ref p] ∧ ((SqL K H p ys ∧ ∀ l, H l = none → Q (.ref l) (upd H l (.tup ys))) ∨ (SqT K H p ys ∧ Q (.ref p) H))) fTupleT := by
  rintro xs W H Q vs Qd o i ⟨ds, rfl, q⟩ fin
  obtain ⟨v, rfl, i1⟩ := isL1 i
  cases i1 with
  | tup e1 e2 e3 => exact ⟨_, _, rfl, .inr ⟨.inl (.inl e1), fin.here o q (.tup e1 e2 e3)⟩⟩
def mPopAt : Addr → List D → Wd → (D → Wd → Prop) → Prop := fun p xs W Q => ∃ y ds i k, xs = [.int i] ∧ W p = some (.lst ds) ∧ -(2 ^ 63) ≤ i ∧ i < 2 ^ 63 ∧ seqIndex? i ds.length = some k ∧ ds[k]? = some y ∧ Q y (put W p (.lst (ds.eraseIdx k)))
theorem IsL.eraseIdx {W : Wd} {H : Hp} : ∀ {ds : List D} {vs : List V} (i : Nat), IsL W H ds vs → IsL W H (ds.eraseIdx i) (vs.eraseIdx i)
  | _, _, _, .nil => .nil
  | _, _, 0, .cons _ t => t
  | _, _, i + 1, .cons q t => .cons q (IsL.eraseIdx i t)
theorem m_popAt : SimM rPopAt mPopAt := by
  rintro p xs W H Q vs Qd o i ⟨y, ds, j, k, rfl, h, h1, h2, hk, hy, q⟩ fin
  obtain ⟨v, rfl, i1⟩ := isL1 i
  cases i1
  obtain ⟨us, e1, e2⟩ := o p _ h
  obtain ⟨v, h3, h4⟩ := e2.get hy
  obtain ⟨o2, s2⟩ := own_lst o h (e2.eraseIdx k)
  exact ⟨p, us, j, k, v, rfl, rfl, e1, h1, h2, by rw [← e2.length]; exact hk, h3, fin _ _ _ _ q s2 o2 (h4.mono s2)⟩
def zipD (a b : List D) : List D := List.zipWith (fun x y => D.tup [x, y]) a b
def iZipG (gs : GA) : GI := fun δ W Q => gs δ W fun ds W1 => ∃ a b, ds = [.lst a, .lst b] ∧ Q (zipD a b) W1
theorem itz_ok {K : PySem.W.Frag} {W : Wd} {H : Hp} {p q : Addr} {a b : List D} {vs us : List V} (hp : H p = some (.lst vs)) (wp : W p = none) (l : IsL W H a vs) (hq : H q = some (.lst us)) (wq : W q = none) (l2 : IsL W H b us) : ItOk (Itz K p q) (zipD a b) W H := by
  intro W' H' s o i
  have sp : SqL K H' p vs := .inl (.inl (s.ext _ _ hp nt_lst wp))
  have sq : SqL K H' q us := .inl (.inl (s.ext _ _ hq nt_lst wq))
  have l' := l.mono s
  have l2' := l2.mono s
  refine ⟨fun hle => ⟨vs, us, sp, sq, ?_⟩, fun d e => ?_⟩
  · rw [zipD, List.length_zipWith] at hle
    rw [← l.length, ← l2.length]
    omega
  · rw [zipD, List.getElem?_zipWith] at e
    cases ea : a[i]? with
    | none => rw [ea] at e; cases e
    | some x =>
      cases eb : b[i]? with
      | none => rw [ea, eb] at e; cases e
      | some y =>
        rw [ea, eb] at e
        cases e
        obtain ⟨v, e1, i1⟩ := l'.get ea
        obtain ⟨u, e2, i2⟩ := l2'.get eb
        refine ⟨⟨vs, us, v, u, sp, sq, e1, e2⟩, ?_⟩
        rintro x' H2 ⟨T, x0, y0, rfl, hT, rfl, hx, hy⟩
        have f1 := hx vs sp
        have f2 := hy us sq
        rw [e1] at f1
        rw [e2] at f2
        cases f1
        cases f2
        exact ⟨Step.new hT, o.laid hT, Is.of_upd_tup o hT (.cons i1 (.cons i2 .nil))⟩
section
variable {X : Cx} {W0 : Wd} {H0 : Hp} {e e2 : Expr} {gs : GA} {p pos tpos : Pos} {elts : List Expr} {kk : Nat}
theorem i_zip (hg : Gl X "zip") (hm : X.mg "zip" = none) (ha : DA W0 H0 X [e, e2] gs) (hs : starEach [e, e2] X.env = (false, eval e X.env) :: starEach [e2] X.env := by rfl) (hpl : (backTo pos (starEach [e2] X.env)).any (·.1) = false := by rfl) :
    DI W0 H0 X (.Tuple elts kk tpos) (.Call (.Name "zip" p) [e, e2] [] pos) (iZipG gs) := by
  refine (pi_zip hg hm ha hs hpl).to ?_
  rintro σ H R ⟨δ, W, Qd, at_, q, f⟩
  refine ⟨δ, W, _, at_, q, ?_⟩
  rintro ds W1 vs H1 ⟨a, b, rfl, q1⟩ s o i
  cases i with
  | cons i1 i2 => cases i2 with
    | cons i2 i3 =>
      cases i3
      cases i1 with
      | lst e1 w1 l1 => cases i2 with
        | lst e2 w2 l2 => exact ⟨_, _, _, _, rfl, .inl (.inl e1), .inl (.inl e2), f _ _ _ _ q1 s o (itz_ok e1 w1 l1 e2 w2 l2)⟩
end
end DL
end
section
set_option maxRecDepth 100000
set_option maxHeartbeats 2000000
namespace DL
open PySem PySem.Spec PyProof.Rows L2
section
variable {X : Cx} {pins : List (Addr × Obj)} {σ : L2.St} {H : Hp} {s : Shared} {a b : Addr} {r : Value} {d : V} {k : List L2.Key} {A : Around} {E : Value → Shared → Prop}
theorem d_setdT {kvs : List (List L2.Key × V)} {Q : Value → Shared → Prop} (hu : A.units + 1 < cLine) (I : Inv X pins σ H s) (e : H a = some (.dT kvs)) (eb : H b = some (.tup (k.map kV))) (rd : RelV d r) (hl : kvs.length < sizeLine)
    (h1 : ∀ v, valV kvs k = some v → ∀ (w' : Value) (s' : Shared), Inv X pins σ H s' → RelV v w' → Q w' s') (h2 : valV kvs k = none → ∀ (w' : Value) (s' : Shared), Inv X pins σ (upd H a (.dT (putK kvs k d))) s' → RelV d w' → Q w' s') :
    wpAny (model X.prog X.w) A (call (.builtin "dict.setdefault") [.ref a, .ref b, r]) Q E s := by
  obtain ⟨z, hd, xs, rel, dd⟩ := dt_of I.hok e
  have hz : xs.length ≤ sizeLine := by rw [← Paired.length rel]; exact z
  refine call_setdefault_heap (hsz := hz) (tupleKind_room_in1 hu) (key_of I.hok eb) hd dd (fun p hp => ?_) fun hn h' dd' hs => ?_
  · have q := rel.val k
    rw [hp] at q
    cases q0 : valV kvs k with
    | none => rw [q0] at q; exact (show False from q).elim
    | some v0 => rw [q0] at q; exact h1 v0 q0 _ _ (I.tok _) q
  · have q := rel.val k
    rw [hn] at q
    cases q0 : valV kvs k with
    | some v0 => rw [q0] at q; exact (show False from q).elim
    | none =>
      have hl2 : (putK kvs k d).length ≤ sizeLine := by have := length_putK kvs k d; omega
      obtain ⟨q, es, ep, hq, g2, g3, g4, _, g5⟩ := dd'
      refine h2 q0 _ _ (d_write I (by rw [e]; exact True.intro) hs ⟨q, hq⟩ ⟨hl2, hd, _, (rel.put k eb rd).keeps fun c ys ec => ?_, q, es, ep, hq, g2, g3, g4, g5⟩) rd
      rw [upd_ne (ne_of ec e (fun z => nomatch z))]
      exact ec
end
/-- d.setdefault(y, z), keys that are tuples -/
def tDSetdT (td ty tx : TE) : TE := fun σ H Q => td σ H fun x H1 => ∃ a, x = .ref a ∧ IsD H1 a ∧ ty σ H1 fun y H2 => tx σ H2 fun z H3 => ∃ (kvs : List (List L2.Key × V)) (k : List L2.Key) (b : Addr), H3 a = some (.dT kvs) ∧ y = .ref b ∧ H3 b = some (.tup (k.map kV)) ∧ kvs.length < sizeLine ∧
  (∀ v, valV kvs k = some v → Q v H3) ∧ (valV kvs k = none → Q z (upd H3 a (.dT (putK kvs k z))))
section
variable {X : Cx} {o e f : Expr} {td ty tx : TE} {apos cpos : Pos}
theorem pe_dsetdT (hu : X.A.units + 1 < cLine) (ho : PE X o td) (he : PE X e ty) (hf : PE X f tx) (m : M2 X o "setdefault" apos e f cpos) : PE X (.Call (.Attribute o "setdefault" apos) [e, f] [] cpos) (tDSetdT td ty tx) := by
  refine ⟨fun pins s σ H Q I h => ?_⟩
  refine wpAny_Call_method m.base m.few m.line PySem.F.plainAttrs_dict PySem.F.slot_dict_setdefault PySem.F.type_dict_setdefault (thn (ho.run pins s σ H _ I h) fun u s1 ⟨x, H1, I1, rx, a, ex, d, q1⟩ => ?_)
  subst ex
  obtain rfl : u = Value.ref a := rx
  obtain ⟨t1, t2, _⟩ := isD_at I1 d
  refine ⟨t1, t2, ?_⟩
  rw [m.trees]
  refine Calls.callWith_builtin rfl (Calls.evalArgs_plain (Calls.spliced_cons (thn (he.run pins s1 σ H1 _ I1 q1) fun iv s2 ⟨y, H2, I2, ry, q2⟩ =>
    Calls.spliced_cons (thn (hf.run pins s2 σ H2 _ I2 q2) fun fv s3 ⟨z, H3, I3, rz, kvs, k, b, ea, ey, eb, hl, q3, q4⟩ => Calls.spliced_nil ?_))))
  subst ey
  obtain rfl : iv = Value.ref b := ry
  exact d_setdT hu I3 ea eb rz hl (fun v hv w' s4 I4 rw' => ⟨v, _, I4, rw', q3 v hv⟩) fun hn w' s4 I4 rw' => ⟨z, _, I4, rw', q4 hn⟩
end
section
variable {κ : Type} [DecidableEq κ] {W W' : Wd} {H : Hp}
def valD (kvs : List (κ × D)) (k : κ) : Option D := (kvs.find? fun kv => decide (kv.1 = k)).map (·.2)
def putD (kvs : List (κ × D)) (k : κ) (v : D) : List (κ × D) := if (kvs.any fun kv => decide (kv.1 = k)) = true then kvs.map (fun kv => if kv.1 = k then (kv.1, v) else kv) else kvs ++ [(k, v)]
theorem valD_nil {k : κ} : valD ([] : List (κ × D)) k = none := rfl
theorem valD_cons {p : κ × D} {r : List (κ × D)} {k : κ} : valD (p :: r) k = if p.1 = k then some p.2 else valD r k := by
  unfold valD
  rw [List.find?_cons]
  by_cases h : p.1 = k
  · rw [if_pos h, decide_eq_true h]; rfl
  · rw [if_neg h, decide_eq_false h]
theorem valV_cons {p : κ × V} {r : List (κ × V)} {k : κ} : valV (p :: r) k = if p.1 = k then some p.2 else valV r k := by
  by_cases h : p.1 = k
  · rw [if_pos h, valV_pos h]
  · rw [if_neg h, valV_neg h]
theorem FsIs.val : ∀ {fs : List (κ × D)} {vs : List (κ × V)} (k : κ), FsIs W H fs vs → (valD fs k = none ∧ valV vs k = none) ∨ ∃ d v, valD fs k = some d ∧ valV vs k = some v ∧ Is W H d v
  | _, _, k, .nil => .inl ⟨rfl, rfl⟩
  | p :: fs, q :: vs, k, .cons ⟨h1, h2⟩ t => by
    rw [valD_cons, valV_cons, ← h1]
    by_cases h : p.1 = k
    · rw [if_pos h, if_pos h]; exact .inr ⟨_, _, rfl, rfl, h2⟩
    · rw [if_neg h, if_neg h]; exact FsIs.val k t
theorem FsIs.any : ∀ {fs : List (κ × D)} {vs : List (κ × V)} (k : κ), FsIs W H fs vs → (fs.any fun kv => decide (kv.1 = k)) = (vs.any fun kv => decide (kv.1 = k))
  | _, _, k, .nil => rfl
  | p :: fs, q :: vs, k, .cons ⟨h1, h2⟩ t => by rw [List.any_cons, List.any_cons, h1, FsIs.any k t]
theorem FsIs.repl {d : D} {v : V} (i : Is W H d v) : ∀ {fs : List (κ × D)} {vs : List (κ × V)} (k : κ), FsIs W H fs vs → FsIs W H (fs.map fun kv => if kv.1 = k then (kv.1, d) else kv) (vs.map fun kv => if kv.1 = k then (kv.1, v) else kv)
  | _, _, k, .nil => .nil
  | p :: fs, q :: vs, k, .cons ⟨h1, h2⟩ t => by
    rw [List.map_cons, List.map_cons]
    refine .cons ?_ (FsIs.repl i k t)
    rw [← h1]
    by_cases h : p.1 = k
    · rw [if_pos h, if_pos h]; exact ⟨rfl, i⟩
    · rw [if_neg h, if_neg h]; exact ⟨h1, h2⟩
theorem FsIs.app {d : D} {v : V} {k : κ} (i : Is W H d v) : ∀ {fs : List (κ × D)} {vs : List (κ × V)}, FsIs W H fs vs → FsIs W H (fs ++ [(k, d)]) (vs ++ [(k, v)])
  | _, _, .nil => .cons ⟨rfl, i⟩ .nil
  | p :: fs, q :: vs, .cons h t => .cons h (FsIs.app i t)
theorem FsIs.put {d : D} {v : V} {fs : List (κ × D)} {vs : List (κ × V)} (i : Is W H d v) (k : κ) (h : FsIs W H fs vs) : FsIs W H (putD fs k d) (putK vs k v) := by
  unfold putD putK
  rw [FsIs.any k h]
  split
  · exact FsIs.repl i k h
  · exact FsIs.app i h
end
def keyD : L2.Key → D
  | .inl i => .int i
  | .inr x => .str x
theorem key_is {W : Wd} {H : Hp} {k : L2.Key} {v : V} (i : Is W H (keyD k) v) : v = kV k := by
  cases k with
  | inl j => cases i; rfl
  | inr x => cases i; rfl
theorem keys_is {W : Wd} {H : Hp} : ∀ {ks : List L2.Key} {vs : List V}, IsL W H (ks.map keyD) vs → vs = ks.map kV
  | [], _, .nil => rfl
  | k :: ks, _, .cons h t => by rw [List.map_cons, key_is h, keys_is t]
def gDGet (gd gk : GE) : GE := fun δ W Q => gd δ W fun x W1 => gk δ W1 fun y W2 => ∃ a kvs s d, x = .ref a ∧ y = .str s ∧ W2 a = some (.dk kvs) ∧ valD kvs (.inr s) = some d ∧ Q d W2
def hDPut (gd gk gv : GE) : GS := fun G δ W => gv δ W fun v W1 => gd δ W1 fun x W2 => gk δ W2 fun y W3 => ∃ a kvs s, x = .ref a ∧ y = .str s ∧ W3 a = some (.dk kvs) ∧ kvs.length < 1000 ∧ G.nx δ (put W3 a (.dk (putD kvs (.inr s) v)))
def gNewT : GE := fun _ W Q => ∀ p, W p = none → Q (.ref p) (put W p (.dt []))
def gPairs : List (GE × GE) → Dt → Wd → (List (D × D) → Wd → Prop) → Prop
  | [], _, W, Q => Q [] W
  | (gk, gv) :: r, δ, W, Q => gk δ W fun x W1 => gv δ W1 fun y W2 => gPairs r δ W2 fun ps W3 => Q ((x, y) :: ps) W3
def dkOf (kvs : List (Str × D)) : List (L2.Key × D) := kvs.map fun kv => (.inr kv.1, kv.2)
def gDisp (prs : List (GE × GE)) : GE := fun δ W Q => ∀ p, W p = none → gPairs prs δ (put W p (.dk [])) fun ps W2 => W2 p = some (.dk []) ∧ ∃ kvs : List (Str × D), ps = kvs.map (fun kv => (.str kv.1, kv.2)) ∧ kvs.length ≤ 15 ∧ (kvs.map (·.1)).Nodup ∧ Q (.ref p) (put W2 p (.dk (dkOf kvs)))
def gSetdT (gd gk gx : GE) : GE := fun δ W Q => gd δ W fun x W1 => ∃ a, x = .ref a ∧ (∃ kvs, W1 a = some (.dt kvs)) ∧ gk δ W1 fun y W2 => gx δ W2 fun z W3 => ∃ kvs ks, W3 a = some (.dt kvs) ∧ y = .tup (ks.map keyD) ∧ kvs.length < 1000 ∧
  (∀ d, valD kvs ks = some d → Q d W3) ∧ (valD kvs ks = none → Q z (put W3 a (.dt (putD kvs ks z))))
theorem own_dk {W : Wd} {H : Hp} (o : Own W H) {p : Addr} {ob : Ob} {kvs : List (L2.Key × D)} {vs : List (L2.Key × V)} (h : H p = none ∨ W p ≠ none) (l : FsIs W H kvs vs) : Own (put W p (.dk kvs)) (upd H p (.dK vs)) ∧ Step W H (put W p (.dk kvs)) (upd H p (.dK vs)) :=
  have s : Step W H (put W p (.dk kvs)) (upd H p (.dK vs)) := Step.put h
  ⟨o.put h ⟨vs, upd_same, l.mono s⟩, s⟩
theorem own_dt {W : Wd} {H : Hp} (o : Own W H) {p : Addr} {kvs : List (List L2.Key × D)} {vs : List (List L2.Key × V)} (h : H p = none ∨ W p ≠ none) (l : FsIs W H kvs vs) : Own (put W p (.dt kvs)) (upd H p (.dT vs)) ∧ Step W H (put W p (.dt kvs)) (upd H p (.dT vs)) :=
  have s : Step W H (put W p (.dt kvs)) (upd H p (.dT vs)) := Step.put h
  ⟨o.put h ⟨vs, upd_same, l.mono s⟩, s⟩
section
variable {X : Cx} {W0 : Wd} {H0 : Hp} {o i value e f : Expr} {pos pos' apos cpos : Pos} {gd gk gv gx : GE}
theorem d_dget (hu : X.A.units + 1 < cLine) (ho : DE W0 H0 X o gd) (hi : DE W0 H0 X i gk) (hs : NoSl i) : DE W0 H0 X (.Subscript o i pos) (gDGet gd gk) := by
  refine (pe_dget hu ho hi hs).to fun σ H Q => ?_
  rintro ⟨δ, W, Qd, at_, h, fin⟩
  refine seq2 at_ h fun x y v u W2 H2 s o i1 i2 q => ?_
  obtain ⟨a, kvs, z, d, rfl, rfl, hw, hv, q⟩ := q
  cases i1; cases i2
  obtain ⟨vs, e1, e2⟩ := o a _ hw
  rcases FsIs.val (.inr z) e2 with ⟨h1, _⟩ | ⟨d', v, h1, h2, h3⟩
  · rw [h1] at hv; cases hv
  · rw [h1] at hv; cases hv
    exact ⟨a, v, rfl, by rw [← h2]; exact DGet.k (k := .inr z) e1, fin _ _ _ _ q s o h3⟩
theorem s_dput (hu : X.A.units + 1 < cLine) (ho : DE W0 H0 X o gd) (hi : DE W0 H0 X i gk) (hv : DE W0 H0 X value gv) (hs : swapsWith value (some (.Subscript o i pos')) pos.line X.env = pure false := by rfl) :
    DS W0 H0 X (.Assign [.Subscript o i pos'] value pos) (hDPut gd gk gv) := by
  refine (ps_dput hu ho hi hv hs).to fun D σ H => ?_
  rintro ⟨δ, W, G, at_, h, fin⟩
  refine ⟨δ, W, _, at_, h, fun v W1 v' H1 q1 s1 o1 i1 => ⟨δ, W1, _, at_.go s1 o1, q1, fun x W2 x' H2 q2 s2 o2 i2 => ⟨δ, W2, _, (at_.go s1 o1).go s2 o2, q2, fun y W3 y' H3 q3 s3 o3 i3 => ?_⟩⟩⟩
  obtain ⟨a, kvs, z, rfl, rfl, hw, hl, q⟩ := q3
  cases i2; cases i3
  obtain ⟨vs, e1, e2⟩ := o3 a _ hw
  have e2' := FsIs.put ((i1.mono s2).mono s3) (.inr z) e2
  obtain ⟨o4, s4⟩ := own_dk (ob := .dk []) o3 (p := a) (.inr (by rw [hw]; simp)) e2'
  refine ⟨a, _, rfl, DPut.k (k := .inr z) e1 (by rw [← FsIs.length e2]; exact sz_less (by omega)), ?_⟩
  have st := ((s1.trans s2).trans s3).trans s4
  exact fin.nx _ _ _ _ q ((((at_.go s1 o1).go s2 o2).go s3 o3).go s4 o4) st
theorem d_newT : DE W0 H0 X (.Dict [] [] pos) gNewT := by
  refine pe_dnewT.to fun σ H Q => ?_
  rintro ⟨δ, W, Qd, at_, h, fin⟩
  intro p hp
  obtain ⟨o4, s4⟩ := own_dt at_.own (p := p) (.inl hp) (kvs := []) (vs := []) .nil
  exact fin _ _ _ _ (h p (at_.own.new hp)) s4 o4 (.ref p)
def DPs (W0 : Wd) (H0 : Hp) (X : Cx) (pos : Pos) (keys : List (Option Expr)) (values : List Expr) (prs : List (GE × GE)) : Prop := PPs X pos keys values (prs.map fun p => (lift W0 H0 p.1, lift W0 H0 p.2))
theorem dp_nil : DPs W0 H0 X pos [] [] [] := pps_nil
theorem dp_cons {k v : Expr} {ks : List (Option Expr)} {vs : List Expr} {prs : List (GE × GE)} (hk : DE W0 H0 X k gk) (hv : DE W0 H0 X v gv) (hr : DPs W0 H0 X pos ks vs prs) : DPs W0 H0 X pos (some k :: ks) (v :: vs) ((gk, gv) :: prs) := pps_cons hk hv hr
theorem pairs_to : ∀ (prs : List (GE × GE)) {δ : Dt} {W : Wd} {σ : L2.St} {H : Hp} {Qd : List (D × D) → Wd → Prop} {R : List (V × V) → Hp → Prop}, At W0 H0 δ W σ H → gPairs prs δ W Qd →
    (∀ ps W' vs H', Qd ps W' → Step W H W' H' → Own W' H' → Paired (fun (p : D × D) (q : V × V) => Is W' H' p.1 q.1 ∧ Is W' H' p.2 q.2) ps vs → R vs H') → tPairs (prs.map fun p => (lift W0 H0 p.1, lift W0 H0 p.2)) σ H R
  | [], δ, W, σ, H, Qd, R, at_, h, k => k [] W [] H h (Step.refl W H) at_.own .nil
  | (gk, gv) :: r, δ, W, σ, H, Qd, R, at_, h, k => by
    refine seq2 at_ h fun x y v u W2 H2 s o i1 i2 q => ?_
    refine pairs_to r (at_.go s o) q fun ps W' vs H' q' s' o' l => k _ _ _ _ q' (s.trans s') o' (.cons ⟨i1.mono s', i2.mono s'⟩ l)
theorem mergeK_nd : ∀ (kvs acc : List (L2.Key × V)), ((acc ++ kvs).map (·.1)).Nodup → mergeK acc kvs = acc ++ kvs
  | [], acc, _ => (List.append_nil acc).symm
  | p :: r, acc, h => by
    show mergeK (putK acc p.1 p.2) r = _
    have hn : valV acc p.1 = none := by
      rw [List.map_append, List.nodup_append] at h
      have := h.2.2
      cases e : valV acc p.1 with
      | none => rfl
      | some v => exact absurd rfl (this p.1 (valV_in e) p.1 (by simp))
    rw [putK_new _ hn, mergeK_nd r _ (by rw [List.append_assoc]; exact h), List.append_assoc]
    rfl
theorem d_disp {keys : List (Option Expr)} {values : List Expr} {prs : List (GE × GE)} (h : DPs W0 H0 X pos keys values prs) (hall : keys.all (·.isSome) = true := by rfl) (hl : keys.length = values.length := by rfl) (h0 : keys ≠ [] := by simp) (h15 : keys.length ≤ 15 := by decide) : DE W0 H0 X (.Dict keys values pos) (gDisp prs) := by
  refine (pe_disp h hall hl h0 h15).to fun σ H Q => ?_
  rintro ⟨δ, W, Qd, at_, h, fin⟩
  intro p hp
  obtain ⟨o1, s1⟩ := own_dk (ob := .dk []) at_.own (p := p) (.inl hp) (kvs := []) (vs := []) .nil
  refine pairs_to prs (at_.go s1 o1) (h p (at_.own.new hp)) fun ps W' vs H' q s' o' l => ?_
  obtain ⟨hw, kvs, rfl, h1, h2, q⟩ := q
  obtain ⟨vs0, e1, e2⟩ := o' p _ hw
  cases e2
  obtain ⟨us, ev, eu⟩ : ∃ us : List (L2.Key × V), vs = us.map (fun kv => (kV kv.1, kv.2)) ∧ FsIs W' H' (dkOf kvs) us := by
    clear h1 h2 q
    induction kvs generalizing vs with
    | nil => cases l; exact ⟨[], rfl, .nil⟩
    | cons kv kvs ih =>
      rw [List.map_cons] at l
      cases l with
      | @cons _ q _ vs' hh t =>
        obtain ⟨us, e1, e2⟩ := ih _ t
        obtain ⟨q1, q2⟩ := q
        obtain ⟨i1, i2⟩ := hh
        cases i1
        exact ⟨(.inr kv.1, q2) :: us, by rw [e1]; rfl, .cons ⟨rfl, i2⟩ e2⟩
  refine ⟨e1, us, ev, by rw [← FsIs.length eu, dkOf, List.length_map]; exact h1, ?_⟩
  have ek : (us.map (·.1)) = (dkOf kvs).map (·.1) := by
    clear ev
    generalize dkOf kvs = fs at eu
    induction eu with
    | nil => rfl
    | cons hh _ ih => rw [List.map_cons, List.map_cons, ih, hh.1]
  have nd : (us.map (·.1)).Nodup := by
    rw [ek, dkOf, List.map_map]
    rw [List.nodup_iff_pairwise_ne, List.pairwise_map] at h2 ⊢
    exact h2.imp fun n z => n (by injection z)
  rw [mergeK_nd us [] nd, List.nil_append]
  obtain ⟨o2, s2⟩ := own_dk (ob := .dk []) o' (p := p) (.inr (by rw [hw]; simp)) eu
  exact fin _ _ _ _ q ((s1.trans s').trans s2) o2 (.ref p)
theorem d_setdT' (hu : X.A.units + 1 < cLine) (ho : DE W0 H0 X o gd) (he : DE W0 H0 X e gk) (hf : DE W0 H0 X f gx) (m : M2 X o "setdefault" apos e f cpos) : DE W0 H0 X (.Call (.Attribute o "setdefault" apos) [e, f] [] cpos) (gSetdT gd gk gx) := by
  refine (pe_dsetdT hu ho he hf m).to fun σ H Q => ?_
  rintro ⟨δ, W, Qd, at_, h, fin⟩
  refine ⟨δ, W, _, at_, h, fun x W1 x' H1 q1 s1 o1 i1 => ?_⟩
  obtain ⟨a, rfl, ⟨kv0, hw0⟩, q1⟩ := q1
  cases i1
  obtain ⟨v0, e0, _⟩ := o1 a _ hw0
  refine ⟨a, rfl, .inr ⟨v0, .inl e0⟩, δ, W1, _, at_.go s1 o1, q1, fun y W2 y' H2 q2 s2 o2 i2 => ⟨δ, W2, _, (at_.go s1 o1).go s2 o2, q2, fun z W3 z' H3 q3 s3 o3 i3 => ?_⟩⟩
  obtain ⟨kvs, ks, hw, rfl, hl, q4, q5⟩ := q3
  obtain ⟨vs, e1, e2⟩ := o3 a _ hw
  have st := (s1.trans s2).trans s3
  cases i2 with
  | @tup b vs' _ h1 h2 h3 =>
    have ek := keys_is h3
    subst ek
    refine ⟨vs, ks, b, e1, rfl, s3.ext _ _ h1 nt_tup h2, by rw [← FsIs.length e2]; exact sz_less (by omega), fun v hv => ?_, fun hn => ?_⟩
    · rcases FsIs.val ks e2 with ⟨_, h1⟩ | ⟨d', v', h1, h2, h3⟩
      · rw [h1] at hv; cases hv
      · rw [h2] at hv; cases hv
        exact fin _ _ _ _ (q4 _ h1) st o3 h3
    · rcases FsIs.val ks e2 with ⟨h1, _⟩ | ⟨d', v', h1, h2, h3⟩
      · have e2' := FsIs.put i3 ks e2
        obtain ⟨o4, s4⟩ := own_dt o3 (p := a) (.inr (by rw [hw]; simp)) e2'
        exact fin _ _ _ _ (q5 h1) (st.trans s4) o4 (i3.mono s4)
      · rw [h2] at hn; cases hn
end
end DL
end
section
set_option maxRecDepth 100000
set_option maxHeartbeats 4000000
namespace DL
open PySem PySem.Spec PyProof.Rows L2
/-- the arguments may be told so -/
def spIn (sp : DSp) : DSp := fun ds W Q E => ∃ ds' W', ConvL ds W ds' W' ∧ sp ds' W' Q E
/-- what comes may be told so -/
def spOut (sp : DSp) : DSp := fun ds W Q E => sp ds W (done Q) E
theorem liftSp_in {sp : DSp} {vs : List V} {H : Hp} {Q : VK} {E : XK} (h : liftSp (spIn sp) vs H Q E) : liftSp sp vs H Q E := by
  obtain ⟨ds, W, Qd, Ed, l, o, ⟨ds', W', c, q⟩, f, fx⟩ := h
  obtain ⟨o1, l1, s1⟩ := c H vs o l
  exact ⟨ds', W', Qd, Ed, l1, o1, q, f.go s1, fx.go s1⟩
theorem liftSp_out {sp : DSp} {vs : List V} {H : Hp} {Q : VK} {E : XK} (h : liftSp (spOut sp) vs H Q E) : liftSp sp vs H Q E := by
  obtain ⟨ds, W, Qd, Ed, l, o, q, f, fx⟩ := h
  refine ⟨ds, W, done Qd, Ed, l, o, q, ?_, fx⟩
  rintro d W' v H' ⟨d2, W2, c, q2⟩ s o1 i1
  obtain ⟨o2, i2, s2⟩ := c H' v o1 i1
  exact f d2 W2 v H' q2 (s.trans s2) o2 i2
section
variable {P : Program} {w : World} {K : PySem.W.Frag} {mg : Str → Option Value} {base : Heap} {CX : CXT} {k : Nat} {x : Str} {f : Addr} {ps : List Str} {sp : DSp}
theorem Has.inp (h : Has P w K mg base CX k x f ps sp) : Has P w K mg base CX k x f ps (spIn sp) := ⟨let ⟨fd, F, b⟩ := h.ok; ⟨fd, F.imp fun _ _ _ _ => liftSp_in, b⟩, h.kp, h.gl⟩
theorem Has.out (h : Has P w K mg base CX k x f ps sp) : Has P w K mg base CX k x f ps (spOut sp) := ⟨let ⟨fd, F, b⟩ := h.ok; ⟨fd, F.imp fun _ _ _ _ => liftSp_out, b⟩, h.kp, h.gl⟩
end
def rSlO : D → Option Int → Option Int → Wd → (D → Wd → Prop) → Prop := fun x lo hi W Q => ∃ ds, listOf W x = some ds ∧ ∀ p, W p = none → Q (.ref p) (put W p (.lst (cutG ds lo hi)))
theorem sl_O {K : PySem.W.Frag} : SimSl (rSlL K) rSlO := by
  rintro x l h W H Q v Qd o i1 ⟨ds, hs, q⟩ fin
  obtain ⟨a, vs, rfl, h1, h2⟩ := listOf_at o i1 hs
  exact ⟨a, vs, rfl, .inl (.inl h1), fun p hp => fin _ _ _ _ (q p (o.new hp)) (Step.put (.inl hp)) (own_new o hp (cut_is h2 _ _)) (.ref p)⟩
end DL
end
section
set_option maxRecDepth 100000
set_option maxHeartbeats 4000000
namespace DL
open PySem PySem.Spec PyProof.Rows L2
def rCntF (K : PySem.W.Frag) : V → List V → Hp → VK → Prop := fun x xs H Q => ∃ (p : Addr) (ys : List V) (y : V), x = .ref p ∧ xs = [y] ∧ SqL K H p ys ∧ flatV y = true ∧ ys.all flatV = true ∧ Q (.int (ys.countP (fun z => eqV z y) : Nat)) H
theorem countP_eqU {x : V} : ∀ {xs : List V} {us : List Value}, Vals xs us → xs.all flatV = true → us.countP (eqU x) = xs.countP fun y => eqV y x
  | _, _, .nil, _ => rfl
  | _, _, .cons r t, f => by
    rw [List.all_cons, Bool.and_eq_true] at f
    rw [List.countP_cons, List.countP_cons, eqU_of r f.1, countP_eqU t f.2]
theorem mt_countF {X : Cx} : MtR X "list.count" (rCntF X.K) := by
  intro pins s σ H x xs v us Q I rx rxs h
  obtain ⟨p, ys, y, rfl, rfl, hs, fy, fys, q⟩ := h
  cases rx
  obtain ⟨u, rfl, ru⟩ := rxs.one
  obtain ⟨its, rv, ⟨⟨cls, dd, data, sl⟩, n, ho, hc, hdn, hd⟩, hlen⟩ := I.list hs
  simp only at hc hd
  subst hc hd
  refine call_meets PySem.F.slot_list_count ⟨_, ho, rfl⟩ PySem.F.entry_list_count (PySem.F.args_list_count_2 _ _)
    (SeqAt.list_countAt p its.toArray n dd sl u (eqU y)) ⟨ho, fun z hz => mem_eqAt ru fy rv fys z (by simpa using hz), ?_⟩
  have ec : its.toArray.toList.countP (eqU y) = ys.countP fun z => eqV z y := countP_eqU rv fys
  refine ⟨.int (ys.countP (fun z => eqV z y) : Nat), H, I.tok _, ⟨s.toks, ?_⟩, q⟩
  show Value.int ((its.toArray.toList.countP (eqU y) : Nat) : Int) s.toks = Value.int ((ys.countP (fun z => eqV z y) : Nat) : Int) s.toks
  rw [ec]
def mCount : Addr → List D → Wd → (D → Wd → Prop) → Prop := fun p xs W Q => ∃ y ds, xs = [y] ∧ W p = some (.lst ds) ∧ flatD y = true ∧ ds.all flatD = true ∧ Q (.int (ds.countP (fun z => eqF z y) : Nat)) W
theorem countP_is {W : Wd} {H : Hp} {x : D} {v : V} (i : Is W H x v) (h1 : flatD x = true) : ∀ {ds : List D} {vs : List V}, IsL W H ds vs → ds.all flatD = true → (vs.countP fun z => eqV z v) = ds.countP fun z => eqF z x
  | _, _, .nil, _ => rfl
  | _, _, .cons h t, c => by
    rw [List.all_cons, Bool.and_eq_true] at c
    rw [List.countP_cons, List.countP_cons, countP_is i h1 t c.2, eqF_is h i c.1 h1]
theorem m_count {K : PySem.W.Frag} : SimM (rCntF K) mCount := by
  rintro p xs W H Q vs Qd o i ⟨y, ds, rfl, h, h1, h2, q⟩ fin
  obtain ⟨v, rfl, i1⟩ := isL1 i
  obtain ⟨us, e1, e2⟩ := o p _ h
  exact ⟨p, us, v, rfl, rfl, .inl (.inl e1), flat_is i1 h1, flatL_is e2 h2, by rw [countP_is i1 h1 e2 h2]; exact fin.here o q (.int _)⟩
def mIndex : Addr → List D → Wd → (D → Wd → Prop) → Prop := fun p xs W Q => ∃ (y : D) (ds : List D) (j : Nat) (z : D), xs = [y] ∧ W p = some (.lst ds) ∧ flatD y = true ∧ ds.all flatD = true ∧ ds[j]? = some z ∧ eqF z y = true ∧ (∀ (m : Nat) (z' : D), m < j → ds[m]? = some z' → eqF z' y = false) ∧ Q (.int (j : Nat)) W
theorem m_index {K : PySem.W.Frag} : SimM (rIndex K) mIndex := by
  rintro p xs W H Q vs Qd o i ⟨y, ds, j, z, rfl, h, h1, h2, h3, h4, h5, q⟩ fin
  obtain ⟨v, rfl, i1⟩ := isL1 i
  obtain ⟨us, e1, e2⟩ := o p _ h
  obtain ⟨u, e3, i3⟩ := e2.get h3
  have fl : ∀ {m : Nat} {d : D}, ds[m]? = some d → flatD d = true := fun e => List.all_eq_true.mp h2 _ (List.mem_of_getElem? e)
  refine ⟨p, us, v, j, u, rfl, rfl, .inl (.inl e1), flat_is i1 h1, flatL_is e2 h2, e3, by rw [eqF_is i3 i1 (fl h3) h1]; exact h4, fun m z' hm hz => ?_, fin.here o q (.int _)⟩
  obtain ⟨d, e4, i4⟩ := e2.getV hz
  rw [eqF_is i4 i1 (fl e4) h1]
  exact h5 m d hm e4
def fEq0 : GR2 := fun x y W Q => scalD x y = true ∧ Q (.bl (eqD x y)) W
def fNe0 : GR2 := fun x y W Q => scalD x y = true ∧ Q (.bl (!eqD x y)) W
theorem s_eq0 : SimR rEq fEq0 := by
  rintro x y W H Q v u Qd o i j ⟨h, q⟩ fin
  obtain ⟨e1, e2⟩ := eq_scal h i j
  exact ⟨e1, by rw [e2]; exact fin.here o q (.bl _)⟩
theorem s_ne0 : SimR rNe fNe0 := by
  rintro x y W H Q v u Qd o i j ⟨h, q⟩ fin
  obtain ⟨e1, e2⟩ := eq_scal h i j
  exact ⟨e1, by rw [e2]; exact fin.here o q (.bl _)⟩
theorem fEq0_int {i j : Int} {W : Wd} {Q : D → Wd → Prop} : fEq0 (.int i) (.int j) W Q = Q (.bl (i == j)) W := by simp [fEq0, scalD, eqD_int]
theorem fNe0_int {i j : Int} {W : Wd} {Q : D → Wd → Prop} : fNe0 (.int i) (.int j) W Q = Q (.bl (!(i == j))) W := by simp [fNe0, scalD, eqD_int]
theorem fEq0_str {i j : Str} {W : Wd} {Q : D → Wd → Prop} : fEq0 (.str i) (.str j) W Q = Q (.bl (i == j)) W := by simp [fEq0, scalD, eqD_str]
theorem fNe0_str {i j : Str} {W : Wd} {Q : D → Wd → Prop} : fNe0 (.str i) (.str j) W Q = Q (.bl (!(i == j))) W := by simp [fNe0, scalD, eqD_str]
def gNever : GE := fun _ _ _ => False
theorem d_never {X : Cx} {W0 : Wd} {H0 : Hp} {e : Expr} : DE W0 H0 X e gNever := ⟨fun _ _ _ _ _ _ ⟨_, _, _, _, h, _⟩ => h.elim⟩
def fIsE (K : PySem.W.Frag) (C a : Addr) : GRN := fun xs W Q => ∃ b, ((∃ c, xs = [.ref a, .ref c] ∧ PySem.W.kitOne K (.ref C) (.ref c) = some b) ∨ ∃ n, xs = [.ref a, .ty n] ∧ PySem.W.kitOne K (.ref C) (.type n) = some b) ∧ Q (.bl b) W
theorem s_isE {K : PySem.W.Frag} {C a : Addr} : SimN (rIsE K C a) (fIsE K C a) := by
  rintro xs W H Q vs Qd o i ⟨b, ⟨c, rfl, h⟩ | ⟨n, rfl, h⟩, q⟩ fin
  · obtain ⟨v, u, rfl, i1, i2⟩ := isL2 i
    cases i1
    cases i2
    exact ⟨.ref c, .ref c, b, rfl, fun u r => r, h, fin.here o q (.bl b)⟩
  · obtain ⟨v, u, rfl, i1, i2⟩ := isL2 i
    cases i1
    cases i2
    exact ⟨.ty n, .type n, b, rfl, fun u r => r, h, fin.here o q (.bl b)⟩
open LamX in
/-- the tables of code that are known of -/
structure SubT (T : List (Addr × Str)) (W W1 : Wd) : Prop where
  keep : ∀ u ob, W u = some ob → (∀ q, ob = .tbl q → (u, q) ∈ T) → W1 u = some ob
  sub : ∀ u ob, W1 u = some ob → W u = some ob
  tab : ∀ u q, W1 u = some (.tbl q) → (u, q) ∈ T
def cutT (T : List (Addr × Str)) (W : Wd) : Wd := fun u => match W u with
  | some (.tbl q) => if (u, q) ∈ T then some (.tbl q) else none
  | x => x
theorem cutT_sub (T : List (Addr × Str)) (W : Wd) : SubT T W (cutT T W) := by
  refine ⟨fun u ob e h => ?_, fun u ob e => ?_, fun u q e => ?_⟩
  · unfold cutT
    rw [e]
    cases ob with
    | tbl q => exact if_pos (h q rfl)
    | _ => rfl
  · unfold cutT at e
    split at e
    · rename_i q h
      split at e
      · cases e; exact h
      · cases e
    · exact e
  · unfold cutT at e
    split at e
    · rename_i q' h
      split at e
      · rename_i h2
        cases e; exact h2
      · cases e
    · rename_i h
      exact absurd e (h q)
theorem Own.extN {T : List (Addr × Str)} {W : Wd} {H H1 : Hp} (o : Own W H) (hT : ∀ u q, W u = some (.tbl q) → (u, q) ∈ T) (e : LamX.ExtN H H1) (t : LamX.Tabs T H1) : Step W H W H1 ∧ Own W H1 := by
  have s : Step W H W H1 := ⟨fun b o h n _ => e b o h n, fun _ _ _ _ h => h⟩
  refine ⟨s, fun a ob h => ?_⟩
  cases ob with
  | lst ds => obtain ⟨vs, h1, l⟩ := o a _ h; exact ⟨vs, e _ _ h1 (fun _ z => by cases z), l.mono s⟩
  | ins C fs => obtain ⟨dx, vs, h1, l⟩ := o a _ h; exact ⟨dx, vs, e _ _ h1 (fun _ z => by cases z), l.mono s⟩
  | dk kvs => obtain ⟨vs, h1, l⟩ := o a _ h; exact ⟨vs, e _ _ h1 (fun _ z => by cases z), l.mono s⟩
  | dt kvs => obtain ⟨vs, h1, l⟩ := o a _ h; exact ⟨vs, e _ _ h1 (fun _ z => by cases z), l.mono s⟩
  | tbl q => exact t (a, q) (hT a q h)
  | lam _ _ _ _ _ => obtain ⟨cd, pm, ct, h1, h2⟩ := o a _ h; exact ⟨cd, pm, ct, e _ _ h1 (fun _ z => by cases z), e _ _ h2 nt_code⟩
  | cel _ => obtain ⟨ob, v, u, h1, h2, h3, h4⟩ := o a _ h; exact ⟨ob, v, u, e _ _ h1 (fun _ z => by cases z), h2, h3, h4.mono s⟩
theorem Own.cutT {T : List (Addr × Str)} {W : Wd} {H : Hp} (o : Own W H) : Step W H (cutT T W) H ∧ Own (cutT T W) H := by
  have k := cutT_sub T W
  have s : Step W H (DL.cutT T W) H := ⟨fun b o h _ _ => h, fun b _ _ _ h => by
    cases e : DL.cutT T W b with
    | none => rfl
    | some ob => rw [k.sub b ob e] at h; cases h⟩
  refine ⟨s, fun a ob h => ?_⟩
  have h' := k.sub a ob h
  cases ob with
  | lst ds => obtain ⟨vs, h1, l⟩ := o a _ h'; exact ⟨vs, h1, l.mono s⟩
  | ins C fs => obtain ⟨dx, vs, h1, l⟩ := o a _ h'; exact ⟨dx, vs, h1, l.mono s⟩
  | dk kvs => obtain ⟨vs, h1, l⟩ := o a _ h'; exact ⟨vs, h1, l.mono s⟩
  | dt kvs => obtain ⟨vs, h1, l⟩ := o a _ h'; exact ⟨vs, h1, l.mono s⟩
  | tbl q => exact o a _ h'
  | lam _ _ _ _ _ => exact o.lam s (o a _ h') fun u h => h
  | cel _ => exact Own.cel s (o a _ h') fun u h => h
/-- what a refusal is called: the words, by their classes -/
def TKind (l : List (Str × Addr)) : (XK → Hp → VK → Prop) → Hp → VK → Prop := fun tl H Q =>
  tl (fun cls d H' => d = none ∧ ∃ p ∈ l, cls = .ref p.2 ∧ ∃ W', Own W' H' ∧ ∀ H'', Step W' H' W' H'' → Own W' H'' → Q (.str p.1) H'') H Q
/-- .. what is told, or the word -/
def gKind (T : List (Addr × Str)) (l : List (Str × Addr)) (gx : XD → GE) : GE := fun δ W Q => (∀ p ∈ T, W p.1 = some (.tbl p.2)) ∧ ∀ W1, SubT T W W1 → gx (fun C dx W' => dx = none ∧ ∃ p ∈ l, C = p.2 ∧ Q (.str p.1) W') δ W1 Q
section
variable {X : Cx} {W0 : Wd} {H0 : Hp}
open LamX in
theorem d_lamcall {T : List (Addr × Str)} {l : List (Str × Addr)} {gx : XD → GE} {x a : Str} {g c Pt : Addr} {k : Nat} {pg : Arguments} {bg : List Stmt} {sg : Scope} {dV kV doc pm cdv ct oc : Value} {an od : Option Addr} {osl : Array (Option Value)} {Ng : List Str}
    {params : Arguments} {body : Expr} {scope : Scope} {p lpos pos : Pos} (hg : Gl X x) (hm : X.mg x = some (.ref g)) (hk : PySem.W.keepIn X.K (.ref g) = true)
    (lk : X.K.lookup g = some ⟨oc, od, .func (PySem.W.fnOf x x pg bg sg dV kV doc pm an cdv ct), osl⟩) (hcg : PySem.W.codeIn X.K cdv x = true) (hb : L2.Binds X.K (PySem.W.fnOf x x pg bg sg dV kV doc pm an cdv ct) [a] []) (Sg : FnScope Ng [a] sg) (hNg : Ng[0]? = some a) (hva : Vis sg a)
    (hG : GivesTo X Ng x sg g cdv bg a (X.env.qual ++ "<lambda>") (TKind l))
    (TB : TabB X.base X.mg c Pt) (hcode : X.env.code = .ref c) (hmT : (Pt, X.env.qual ++ "<lambda>") ∈ T) (hu : ∀ p ∈ T, p.1 = Pt → p.2 = X.env.qual ++ "<lambda>") (hr : Room (k + 2) X.A) (L : LamS X.env.scope scope) (hdef : defaultsOf params X.env = ([], []))
    (hbind : ∀ (q : Str) (cl : List (Str × Addr)) (pm cv ctv : Value), bindArgs (PySem.W.kla_fn "<lambda>" q params body scope cl pm cv ctv) ⟨[], []⟩ = pure [])
    (hbody : ∀ (A : Around) (outer : List Env) (s : Shared) (H : Hp) (E : XK) (f c' : Addr) (W0 : Wd) (H0 : Hp) (Ed : XD), Room k (A.deeper (lamEnv X scope s.heap.objs.size f c')) → FinX W0 H0 E Ed → DE W0 H0 (lamCx X A outer s H E scope f c') body (gx Ed))
    (hdb : (x == ("__debug__" : Str)) = false := by decide) (hd : (a == ("__debug__" : Str)) = false := by decide) (hcd : (a == ("__classdict__" : Str)) = false := by decide) :
    DE W0 H0 X (.Call (.Name x p) [.Lambda params body scope lpos] [] pos) (gKind T l gx) := by
  have h := pe_lamcall (X := X) (T := T) (TT := TKind l) (t := fun E σ H Q => ∃ (W0 : Wd) (H0 : Hp) (δ : Dt) (W : Wd) (Qd : D → Wd → Prop) (Ed : XD), At W0 H0 δ W σ H ∧ FinX W0 H0 E Ed ∧ gx Ed δ W Qd ∧ Fin W H Q Qd) (k := k) (p := p) (lpos := lpos) (pos := pos)
    hg hm hk lk hcg hb Sg hNg hva hG TB hcode hmT hu hr L hdef hbind (fun A outer s H E f c' hr' => ⟨fun pins s' σ H' Q I ⟨W0, H0, δ, W, Qd, Ed, at_, fx, q, fin⟩ =>
      (hbody A outer s H E f c' W0 H0 Ed hr' fx).run pins s' σ H' Q I ⟨δ, W, Qd, at_, q, fin⟩⟩) hdb hd hcd
  refine h.to ?_
  rintro σ H Q ⟨δ, W, Qd, at_, ⟨hT, q⟩, fin⟩
  refine ⟨fun p hp => at_.own _ _ (hT p hp), fun H1 e1 t1 => ?_⟩
  obtain ⟨s1, o1⟩ := at_.own.cutT (T := T)
  have k1 := cutT_sub T W
  obtain ⟨s2, o2⟩ := o1.extN k1.tab e1 t1
  have s12 := s1.trans s2
  refine ⟨cutT T W, H1, δ, cutT T W, Qd, _, ⟨o2, at_.len, (at_.go s12 o2).env, Step.refl _ _⟩, ⟨?_, ?_⟩, q _ k1, fin.go s12⟩
  · rintro C W' H' ⟨_, p, hp, rfl, q'⟩ s o
    exact ⟨rfl, p, hp, rfl, W', o, fun H'' s' o' => fin _ _ _ _ q' (s12.trans (s.trans s')) o' (.str _)⟩
  · rintro C x W' H' a v ⟨z, _⟩
    cases z
theorem takes_len {X : Cx} {W : WX} (t : Takes X W) : Takes X (fun cls d σ H => σ.length = X.N.length → W cls d σ H) := fun u s' ⟨a, B, sI, pins, σ, H, cls, d, e, I, nb, up, sky, na, os, ag, w⟩ =>
  t u s' ⟨a, B, sI, pins, σ, H, cls, d, e, I, nb, up, sky, na, os, ag, w I.len⟩
theorem pss_or {sts : List Stmt} {ι : Type} {t : ι → TS} (h : ∀ i, PSs X sts (t i)) : PSs X sts (fun D σ H => ∃ i, t i D σ H) := ⟨fun pins s σ H D I ⟨i, q⟩ => (h i).run pins s σ H D I q⟩
/-- try: return a() / except DrawError as e: .. the word of its class -/
theorem kind_gives {l : List (Str × Addr)} {Ng : List Str} {x a q xe n : Str} {sg : Scope} {g CS : Addr} {cdg : Value} {b₀ : Stmt} {suite : List Stmt} {m : Nat} {p1 p2 p3 np pos' pos : Pos} (hge : sg.names.lookup xe = some .globalImplicit) (hme : X.mg xe = some (.ref CS)) (hde : (xe == ("__debug__" : Str)) = false)
    (h0 : ∀ f : Addr, L2.start Ng [V.ref f] = some (.ref f) :: List.replicate (m + 1) none) (hlen : Ng.length = m + 2) (hN : Ng.Nodup) (hi : Ng[1]? = some n) (hln : sg.names.lookup n = some .local) (hex : ∀ p ∈ l, PySem.W.exmOne X.K (.ref p.2) (.ref CS) = some true)
    (hh : ∀ (s : Shared) (H : Hp) (a : Addr) (oe : Obj) (pn : List (Addr × Obj)) (p : Str × Addr), p ∈ l → Zc (.ref p.2) none oe → (∃ vs, oe.data = .fields vs) →
      ∃ g', (∀ W0 H0, DSs W0 H0 ((cxOf C8.CX0 X.prog X.w X.K X.mg X.base Ng x sg g cdg X.A X.stack s H C8.E0).nox.suite a ((a, oe) :: pn)) (b₀ :: suite) g') ∧ ∀ (W : Wd) (Q : D → Wd → Prop), Q (.str p.1) W → g' { nx := fun _ _ => False, rt := done Q } (none :: some (.ref a) :: List.replicate m none) W) :
    LamX.GivesTo X Ng x sg g cdg [.Try [.Return (some (.Call (.Name a p1) [] [] p2)) p3] [.ExceptHandler (some (.Name xe np)) (some n) (b₀ :: suite) pos'] [] [] pos] a q (TKind l) := by
  intro f c' s H Q tl act hc h
  have hgl : Gl (cxOf C8.CX0 X.prog X.w X.K X.mg X.base Ng x sg g cdg X.A X.stack s H C8.E0).nox xe := hge
  refine ⟨_, pss_one (ps_try_as (i := 1) (X := (cxOf C8.CX0 X.prog X.w X.K X.mg X.base Ng x sg g cdg X.A X.stack s H C8.E0).nox) (c := .ref CS)
      (tb := fun W D σ H => ∃ Ech : XK, (∀ cls d σ' H', Ech cls d H' → σ'.length = Ng.length → W cls d σ' H') ∧ σ[0]? = some (some (.ref f)) ∧ H c' = some (LamX.CodeO c' q) ∧ tl Ech H D.rt)
      (ts := fun a cls d D σ H => d = none ∧ ∃ p ∈ l, cls = .ref p.2 ∧ σ.length = m + 2 ∧ σ[1]? = some (some (.ref a)) ∧ ∃ W', Own W' H ∧ ∀ H'', Step W' H W' H'' → Own W' H'' → D.rt (.str p.1) H'')
      rfl rfl hN hi hln ⟨hgl, hde, .inl hme⟩ LamX.takes0 (fun W pn xe tk _ => ?_) (fun a oe cls d pn hz hf => ?_)), ?_⟩
  · refine ⟨fun pins s' σ H' D I h' => ?_⟩
    obtain ⟨Ech, hW, h1, h2, h3⟩ := h'
    have hp := act (fun cls d σ' H' => σ'.length = Ng.length → W cls d σ' H') pn xe Ech p1 p2 (takes_len tk) hW
    have hq := pss_one (ps_ret (pos := p3) hp)
    exact hq.run pins s' σ H' D I ⟨h1, h2, h3⟩
  · refine ⟨fun pins s' σ H' D I ⟨hd, p, hp, hcls, hle, hs1, W', o, q⟩ => ?_⟩
    subst hd hcls
    obtain ⟨g', hg, hq⟩ := hh s H a oe pn p hp hz hf
    refine (hg W' H').run pins s' σ H' D I ⟨_, W', _, ⟨o, by rw [List.length_cons, List.length_cons, List.length_replicate, hle], fun i d e => ?_, Step.refl _ _⟩, hq W' (fun d W => d = .str p.1 ∧ W = W') ⟨rfl, rfl⟩, ⟨fun _ _ _ _ z => z.elim, fun d W2 v H2 q2 s2 o2 i2 => ?_, fun _ _ _ _ z => z.elim, fun _ _ _ _ z => z.elim⟩⟩
    · match i with
      | 0 => cases e
      | 1 => cases e; exact ⟨_, hs1, .ref a⟩
      | i + 2 =>
        have e : (List.replicate m (none : Option DL.D))[i]? = some (some d) := e
        rw [List.getElem?_replicate] at e
        split at e <;> cases e
    · obtain ⟨d', W3, cv, rfl, rfl⟩ := q2
      obtain ⟨o3, i3, s3⟩ := cv H2 v o2 i2
      cases i3
      exact q H2 (s2.trans s3) o3
  · refine ⟨fun cls d H' => d = none ∧ ∃ p ∈ l, cls = .ref p.2 ∧ ∃ W', Own W' H' ∧ ∀ H'', Step W' H' W' H'' → Own W' H'' → Q (.str p.1) H'', ?_, by rw [h0]; rfl, hc, h⟩
    rintro cls d σ' H' ⟨rfl, p, hp, rfl, W', o, q⟩ hl
    have hl : σ'.length = m + 2 := hl.trans hlen
    refine ⟨true, hex p hp, fun _ ae _ => ⟨rfl, p, hp, rfl, ?_, ?_, W', o, q⟩, fun z => by cases z⟩
    · rw [List.length_set, hl]
    · rw [List.getElem?_set_self (by omega)]
end
end DL
end
section
set_option maxRecDepth 100000
set_option maxHeartbeats 4000000
namespace DL
open PySem PySem.Spec PyProof.Rows L2
theorem tuple_mul1 (l : Addr) (items : Array Value) (n : Nat) (dd : Option Addr) (sl : Array (Option Value)) (u : Tok) :
    Meets (Builtin.«tuple.__mul__» ⟨[.ref l, .int 1 u], []⟩) (fun _ R s => s.heap.get? l = some { cls := .type "tuple", dict := dd, data := .seq items n, slots := sl } ∧ R (.ok (.ret (Value.ref l))) s) :=
  .of_wp fun prog w A R s h => by
    obtain ⟨hp, g, d, tk, os⟩ := s
    obtain ⟨hl, h⟩ := h
    have f1 := AutoSeq1.idx_int
    wp_walk using wpAny_loadPart' hl
    exact ⟨_, rfl, h⟩
theorem tuple_mul0 (l : Addr) (v0 : Value) (r0 : Array Value) (items : Array Value) (n : Nat) (dd : Option Addr) (sl : Array (Option Value)) (u : Tok) (hne : items.isEmpty = false) :
    Meets (Builtin.«tuple.__mul__» ⟨[.ref l, .int 0 u], []⟩) (fun _ R s => s.heap.get? l = some { cls := .type "tuple", dict := dd, data := .seq items n, slots := sl } ∧
      R (.ok (.ret (Value.ref s.heap.objs.size))) { s with heap := s.heap.push { cls := Value.type "tuple", data := Data.seq #[] }, toks := s.toks }) :=
  .of_wp fun prog w A R s h => by
    obtain ⟨hp, g, d, tk, os⟩ := s
    obtain ⟨hl, h⟩ := h
    have f1 := AutoSeq1.idx_int
    wp_walk using wpAny_loadPart' hl
    repeat (first
      | (refine wpAny_ite_false (by rw [hne]; decide) ?_; wp_walk using wpAny_loadPart' hl)
      | (refine wpAny_ite_false (decide_eq_false (by rw [hne]; decide)) ?_; wp_walk using wpAny_loadPart' hl))
    exact ⟨_, rfl, h⟩
/-- t * 0, t * 1 -/
def rRep01 (K : PySem.W.Frag) : R2 := fun x y H Q => ∃ l k xs, x = .ref l ∧ y = .int k ∧ SqT K H l xs ∧ xs ≠ [] ∧ ((k = 1 ∧ Q (.ref l) H) ∨ (k = 0 ∧ ∀ p, H p = none → Q (.ref p) (upd H p (.tup []))))
theorem op_rep01 {X : Cx} : OpR X (binaryOp .Mult) (rRep01 X.K) := by
  intro pins s σ H x y v u Q I rx ry h
  obtain ⟨l, k, xs, rfl, rfl, hT, hne, h⟩ := h
  cases rx
  obtain ⟨t, rfl⟩ := ry
  obtain ⟨its, r, ⟨⟨cls, dd, data, sl⟩, ho, hc, n, hd⟩, hs⟩ := I.tuple hT
  simp only at hc hd
  subst hc hd
  have hi : its.toArray.isEmpty = false := by
    cases r with
    | nil => exact absurd rfl hne
    | cons a b => rfl
  rcases h with ⟨rfl, q⟩ | ⟨rfl, q⟩
  · exact wpAny_binaryOp_repeat_ref (T := "tuple") (U := "int") (by decide) ⟨_, ho, rfl⟩ (fun s' => typeIs_int s' 1 t) noFill_tuple_mul PySem.F.fills_int_mul PySem.F.slot_int_rmul repeat_tuple PySem.F.slot_int_index.lookup
      (call_meets PySem.F.slot_int_rmul (typeIs_int s 1 t) PySem.F.entry_int_rmul (PySem.F.args_int_rmul_2 _ _) (int_rmul_tuple 1 t l its.toArray n dd sl)
        ⟨ho, rfl, ⟨_, ho, rfl⟩, call_meets PySem.F.slot_tuple_mul ⟨_, ho, rfl⟩ PySem.F.entry_tuple_mul (PySem.F.args_tuple_mul_2 _ _) (tuple_mul1 l its.toArray n dd sl t) ⟨ho, .ref l, H, I, rfl, q⟩⟩)
  · refine wpAny_binaryOp_repeat_ref (T := "tuple") (U := "int") (by decide) ⟨_, ho, rfl⟩ (fun s' => typeIs_int s' 0 t) noFill_tuple_mul PySem.F.fills_int_mul PySem.F.slot_int_rmul repeat_tuple PySem.F.slot_int_index.lookup
      (call_meets PySem.F.slot_int_rmul (typeIs_int s 0 t) PySem.F.entry_int_rmul (PySem.F.args_int_rmul_2 _ _) (int_rmul_tuple 0 t l its.toArray n dd sl)
        ⟨ho, rfl, ⟨_, ho, rfl⟩, call_meets PySem.F.slot_tuple_mul ⟨_, ho, rfl⟩ PySem.F.entry_tuple_mul (PySem.F.args_tuple_mul_2 _ _) (tuple_mul0 l .none #[] its.toArray n dd sl t hi) ⟨ho, ?_⟩⟩)
    refine ⟨.ref s.heap.objs.size, _, I.laid (t' := s.toks) (o := .tup []) (fun b ob q => Heap.get?_push_of_some _ q) (Nat.le_refl _) ?_, rfl, q _ (I.hok.fresh (Nat.le_refl _))⟩
    exact ⟨by rw [sizeLine_eq]; decide, _, .nil, IsTup.new _ _⟩
theorem op_repTA {X : Cx} : OpR X (binaryOp .Mult) (fun x y H Q => rRepT X.K x y H Q ∨ rRep01 X.K x y H Q) := op_repT.or op_rep01
def fRepT : GR2 := fun x y W Q => ∃ a k, x = .tup a ∧ y = .int k ∧ a ≠ [] ∧ 0 ≤ k ∧ k ≤ 1000 ∧ a.length ≤ 1000 ∧ Q (.tup (List.replicate k.toNat a).flatten) W
theorem s_repT {K : PySem.W.Frag} : SimR (fun x y H Q => rRepT K x y H Q ∨ rRep01 K x y H Q) fRepT := by
  rintro x y W H Q v u Qd o i1 i2 ⟨a, k, rfl, rfl, hn, h0, h1, h2, q⟩ fin
  cases i2
  cases i1 with
  | @tup l vs _ e1 e2 e3 =>
    have hv : vs ≠ [] := fun z => by subst z; cases e3; exact hn rfl
    by_cases k1 : k = 1
    · subst k1
      refine .inr ⟨l, 1, vs, rfl, rfl, .inl (.inl e1), hv, .inl ⟨rfl, ?_⟩⟩
      have : (List.replicate (1 : Int).toNat a).flatten = a := by simp
      rw [this] at q
      exact fin.here o q (.tup e1 e2 e3)
    · by_cases k0 : k = 0
      · subst k0
        refine .inr ⟨l, 0, vs, rfl, rfl, .inl (.inl e1), hv, .inr ⟨rfl, fun p hp => ?_⟩⟩
        have : (List.replicate (0 : Int).toNat a).flatten = [] := by simp
        rw [this] at q
        exact fin _ _ _ _ q (Step.new hp) (o.laid hp) (Is.of_upd_tup o hp .nil)
      · refine .inl ⟨l, k, vs, rfl, rfl, .inl (.inl e1), hv, by omega, h1, by rw [← e3.length]; exact h2, fun p hp => ?_⟩
        exact fin _ _ _ _ q (Step.new hp) (o.laid hp) (Is.of_upd_tup o hp (e3.rep _))
def gTupR (g : GE) : GE := fun δ W Q => g δ W fun d W1 => ∃ j : Int, d = .int j ∧ 0 ≤ j ∧ j ≤ 1000000 ∧ Q (.tup ((List.range j.toNat).map fun (k : Nat) => D.int (k : Int))) W1
theorem isl_rg {W : Wd} {H : Hp} : ∀ l : List Nat, IsL W H (l.map fun (k : Nat) => D.int (k : Int)) (l.map fun (k : Nat) => V.int (k : Int))
  | [] => .nil
  | k :: l => .cons (.int _) (isl_rg l)
theorem d_tupR {X : Cx} {W0 : Wd} {H0 : Hp} {e : Expr} {g : GE} {p p2 pos pos2 : Pos} (hc : X.calm = true) (hg : Gl X "tuple") (hm : X.mg "tuple" = none) (hg2 : Gl X "range") (hm2 : X.mg "range" = none) (he : DE W0 H0 X e g)
    (n1 : starEach [e] X.env = (false, eval e X.env) :: starEach [] X.env := by rfl) (n2 : starEach [.Call (.Name "range" p2) [e] [] pos2] X.env = (false, eval (.Call (.Name "range" p2) [e] [] pos2) X.env) :: starEach [] X.env := by rfl) :
    DE W0 H0 X (.Call (.Name "tuple" p) [.Call (.Name "range" p2) [e] [] pos2] [] pos) (gTupR g) := by
  refine (pe_tupRg hc hg hm (prg_1 hg2 hm2 he n1) n2).to ?_
  rintro σ H Q ⟨δ, W, Qd, at_, h, fin⟩
  refine ⟨δ, W, _, at_, h, ?_⟩
  rintro d W1 v H1 ⟨j, rfl, h0, h1, q⟩ s o i
  cases i
  refine ⟨j, rfl, ⟨by decide, by decide, by omega, by omega, by omega⟩, fun a ha => ?_⟩
  have e : rgV 0 j = (List.range j.toNat).map fun (k : Nat) => V.int (k : Int) := by
    unfold rgV
    simp only [Int.sub_zero, Int.zero_add]
  rw [e]
  exact fin _ _ _ _ q (s.trans (Step.new ha)) (o.laid ha) (Is.of_upd_tup o ha (isl_rg _))
theorem _root_.L2.Fun.dokC {P : Program} {w : World} {K : PySem.W.Frag} {mg : Str → Option Value} {base : Heap} {x qual : Str} {st : Stmt} {f c : Addr} {fd : FuncData} {N ps : List Str} {k : Nat} {sp : DSp} (F : Fun K x qual st f fd) (hc : fd.code = .ref c) (S : FnScope N ps (defScope st)) (len : ∀ ds W Qd Ed, sp ds W Qd Ed → ds.length = ps.length)
    (hbody : ∀ (A : Around) (outer : List Env) (s : Shared) (H : Hp) (E : XK) (W0 : Wd) (ds : List D) (Qd : D → Wd → Prop) (Ed : XD), Room k (A.deeper (envOfC qual (defScope st) s.heap.objs.size f (.ref c))) → FinX W0 H E Ed → sp ds W0 Qd Ed →
      ∃ g, DSs W0 H (cxOf (L2.CX P w) P w K mg base N qual (defScope st) f (.ref c) A outer s H E) (defBody st) g ∧ g { nx := fun _ W => done Qd .non W, rt := done Qd } (dstart N ds) W0) : FnOk P w K mg base (L2.CX P w) (k + 1) f fd ps (liftSp sp) := by
  obtain ⟨oc, od, kV, doc, pm, an, cdv, ct, osl, rfl, lk, hcd⟩ := F.ex
  obtain rfl : cdv = .ref c := hc
  refine fn_of lk hcd S (fun vs H Q E h => ?_) fun A outer s H vs Q E hr hsp => ?_
  · obtain ⟨ds, W, Qd, Ed, i, _, q, _⟩ := h
    rw [← i.length]
    exact len _ _ _ _ q
  · obtain ⟨ds, W, Qd, Ed, i, o, q, fin, fx⟩ := hsp
    obtain ⟨g, hg, r⟩ := hbody A outer s H E W ds Qd Ed hr fx q
    exact ⟨_, hg, _, W, _, start_at o i, r, fin_done (E := E) fin⟩
end DL
end
section
set_option maxRecDepth 100000
set_option maxHeartbeats 4000000
namespace DL
open PySem PySem.Spec PyProof.Rows L2
theorem sum_cast : ∀ l : List Nat, (l.map fun (g : Nat) => (g : Int)).sum = (l.sum : Nat)
  | [] => rfl
  | a :: r => by rw [List.map_cons, List.sum_cons, List.sum_cons, sum_cast r]; omega
theorem eqD_refl {n : Nat} {d : D} (h : Fine n d) : eqD d d = true := PySem.SeqAt.eqv_refl _ h.2.1
theorem fNe_same {n : Nat} {d : D} {W : Wd} {Q : D → Wd → Prop} (h : Fine n d) (hn : n ≤ 64) (q : Q (.bl false) W) : fNe d d W Q := fNe_fine h h hn hn (by rw [eqD_refl h]; exact q)
theorem fine_ints (l : List Int) : Fine 1 (.lst (l.map D.int)) := fine_lst.mpr fun d hd => by
  obtain ⟨i, _, rfl⟩ := List.mem_map.mp hd
  exact fine_int
theorem fine_endS (x : Option W3) : Fine 0 (.str (endS x)) := fine_str (by
  cases x with
  | none => decide +kernel
  | some w => cases w <;> decide +kernel)
theorem fine_two (l : List Int) (x : Option W3) : Fine 2 (.tup [.lst (l.map D.int), .str (endS x)]) := fine_tup.mpr fun d hd => by
  simp only [List.mem_cons, List.not_mem_nil, or_false] at hd
  rcases hd with rfl | rfl
  · exact fine_ints l
  · exact (fine_endS x).mono (by decide)
theorem fine_first (c : Ch) (n : Nat) : Fine 2 (firstD c n) := fine_tup.mpr fun d hd => by
  simp only [List.mem_cons, List.not_mem_nil, or_false] at hd
  rcases hd with rfl | rfl | rfl
  · exact fine_ints _
  · exact (fine_endS _).mono (by decide)
  · exact fine_lst.mpr fun d hd => by
      obtain ⟨i, _, rfl⟩ := List.mem_map.mp hd
      exact fine_int
theorem gs_ints (l : List Nat) : (l.map fun (g : Nat) => D.int (g : Int)) = (l.map fun (g : Nat) => (g : Int)).map D.int := by rw [List.map_map]; rfl
theorem endS_more (x : Option W3) : (endS x == Str.ofString "more") = x.isNone := by
  cases x with
  | none => rfl
  | some w => cases w <;> simp [endS, wordOf, str_beq]
end DL
end
section
set_option maxRecDepth 100000
set_option maxHeartbeats 4000000
namespace DL
open PySem PySem.Spec PyProof.Rows L2
/-- all but those that are like the one ahead -/
def unlikeP : List Int → List Int
  | [] => []
  | [a] => [a]
  | a :: b :: r => if b = a then (match unlikeP (b :: r) with | [] => [a] | _ :: t => a :: t) else a :: unlikeP (b :: r)
def opP (o : Op) (r : List Int) : List Int := match o with
  | .add n => r.map (· + n)
  | .times n => r.map (· * n)
  | .keep q w => r.filter fun k => k % w == q
  | .drop m => r.drop m.toNat
  | .take m => r.take m.toNat
  | .each k => r.flatMap fun x => List.replicate k.toNat x
  | .til m => r.takeWhile fun k => decide (k < m)
  | .unlike => (List.range r.length).filterMap fun i => if i = 0 ∨ r.getD i 0 ≠ r.getD (i - 1) 0 then some (r.getD i 0) else none
def capP (r : List Int) : Option (List Int) := if 10000 < r.length then none else some r
def stgP (f : Ch → Option (List Int)) : Stg → List Int → Option (List Int)
  | .op o, r => (match o with | .each k => if 10000 < r.length * k.toNat then none else capP (opP o r) | _ => capP (opP o r))
  | .both i, r => (f i).bind fun q => capP (List.zipWith (· + ·) r q)
  | .thn i, r => (f i).bind fun q => capP (r ++ q)
/-- the whole row of a chain -/
def rowP : Ch → Option (List Int)
  | .src (.row ns) => some ns
  | .src (.count _ _) => none
  | .op c o => (rowP c).bind fun r => (match o with | .each k => if 10000 < r.length * k.toNat then none else capP (opP o r) | _ => capP (opP o r))
  | .both c i => (rowP c).bind fun r => (rowP i).bind fun q => capP (List.zipWith (· + ·) r q)
  | .thn c i => (rowP c).bind fun r => (rowP i).bind fun q => capP (r ++ q)
theorem rowP_len : ∀ {c : Ch} {r : List Int}, okCh c → rowP c = some r → r.length ≤ 10000
  | .src (.row ns), r, h, e => by cases e; have : ns.length ≤ 100 := h; omega
  | .src (.count _ _), r, h, e => by cases e
  | .op c o, r, h, e => by
    simp only [rowP, Option.bind_eq_some_iff] at e
    obtain ⟨q, _, e⟩ := e
    have fin : ∀ l : List Int, capP l = some r → r.length ≤ 10000 := fun l e => by
      unfold capP at e
      split at e
      · cases e
      · cases e; omega
    cases o with
    | each k =>
      simp only at e
      split at e
      · cases e
      · exact fin _ e
    | _ => exact fin _ e
  | .both c i, r, h, e => by
    simp only [rowP, Option.bind_eq_some_iff] at e
    obtain ⟨q, _, q2, _, e⟩ := e
    unfold capP at e
    split at e
    · cases e
    · cases e; omega
  | .thn c i, r, h, e => by
    simp only [rowP, Option.bind_eq_some_iff] at e
    obtain ⟨q, _, q2, _, e⟩ := e
    unfold capP at e
    split at e
    · cases e
    · cases e; omega
/-- the places of the numbers that aren't less -/
def farN (m : Int) (r : List Int) (s : Nat) : List Nat := (List.range' s r.length).filter fun i => decide (m ≤ r.getD (i - s) 0)
theorem farN_cons {m x : Int} {r : List Int} {s : Nat} : farN m (x :: r) s = if m ≤ x then s :: farN m r (s + 1) else farN m r (s + 1) := by
  unfold farN
  rw [List.length_cons, List.range'_succ, List.filter_cons]
  have e : (List.range' (s + 1) r.length).filter (fun i => decide (m ≤ (x :: r).getD (i - s) 0)) = (List.range' (s + 1) r.length).filter fun i => decide (m ≤ r.getD (i - (s + 1)) 0) := by
    refine List.filter_congr fun i hi => ?_
    have h := (List.mem_range'_1.mp hi).1
    rw [show i - s = (i - (s + 1)) + 1 by omega, List.getD_cons_succ]
  rw [e, Nat.sub_self, List.getD_cons_zero]
  simp only [decide_eq_true_eq]
theorem farN_ge {m : Int} {r : List Int} {s i : Nat} (h : i ∈ farN m r s) : s ≤ i := (List.mem_range'_1.mp (List.mem_filter.mp h).1).1
theorem til_far {m : Int} : ∀ (r : List Int) (s : Nat), (farN m r s = [] → r.takeWhile (fun k => decide (k < m)) = r) ∧ (∀ i t, farN m r s = i :: t → r.takeWhile (fun k => decide (k < m)) = r.take (i - s))
  | [], s => ⟨fun _ => rfl, fun i t e => by simp [farN] at e⟩
  | x :: r, s => by
    obtain ⟨h1, h2⟩ := til_far r (s + 1)
    rw [farN_cons]
    by_cases hx : m ≤ x
    · rw [if_pos hx]
      refine ⟨(fun e => by cases e), fun i t e => ?_⟩
      cases e
      rw [List.takeWhile_cons_of_neg (by simpa using hx), Nat.sub_self, List.take_zero]
    · rw [if_neg hx, List.takeWhile_cons_of_pos (by simpa using hx)]
      refine ⟨fun e => by rw [h1 e], fun i t e => ?_⟩
      have := farN_ge (s := s + 1) (i := i) (m := m) (r := r) (by rw [e]; exact List.mem_cons_self)
      rw [h2 i t e, show i - s = (i - (s + 1)) + 1 by omega, List.take_succ_cons]
/-- what a stage tells, before it is counted -/
def rawP : Stg → List Int → Option (List Int)
  | .op o, r => some (opP o r)
  | .both i, r => (rowP i).map fun q => List.zipWith (· + ·) r q
  | .thn i, r => (rowP i).map fun q => r ++ q
def preP : Stg → List Int → Bool
  | .op (.each k), r => decide (10000 < r.length * k.toNat)
  | _, _ => false
def stepP (s : Stg) (r : List Int) : Option (List Int) := if preP s r = true then none else (rawP s r).bind capP
def foldP : List Stg → List Int → Option (List Int)
  | [], r => some r
  | s :: l, r => (stepP s r).bind (foldP l)
theorem foldP_app : ∀ (l : List Stg) (s : Stg) (r : List Int), foldP (l ++ [s]) r = (foldP l r).bind (stepP s)
  | [], s, r => by simp [foldP]
  | x :: l, s, r => by
    simp only [List.cons_append, foldP, Option.bind_assoc]
    congr 1
    funext q
    exact foldP_app l s q
def baseP : Maker → Option (List Int)
  | .row ns => some ns
  | .count _ _ => none
theorem rowP_eq : ∀ c : Ch, rowP c = (baseP c.mk).bind (foldP c.stl)
  | .src (.row ns) => rfl
  | .src (.count _ _) => rfl
  | .op c o => by
    simp only [rowP, Ch.mk, Ch.stl, rowP_eq c]
    cases baseP c.mk with
    | none => rfl
    | some ns =>
      simp only [Option.bind_some, foldP_app]
      congr 1
      funext r
      cases o <;> simp [stepP, preP, rawP]
  | .both c i => by
    simp only [rowP, Ch.mk, Ch.stl, rowP_eq c]
    cases baseP c.mk with
    | none => rfl
    | some ns =>
      simp only [Option.bind_some, foldP_app]
      congr 1
      funext r
      simp only [stepP, preP, rawP, Bool.false_eq_true, if_false, Option.bind_map]
      rfl
  | .thn c i => by
    simp only [rowP, Ch.mk, Ch.stl, rowP_eq c]
    cases baseP c.mk with
    | none => rfl
    | some ns =>
      simp only [Option.bind_some, foldP_app]
      congr 1
      funext r
      simp only [stepP, preP, rawP, Bool.false_eq_true, if_false, Option.bind_map]
      rfl
def bitS : Stg → Nat
  | .op (.add _) => 1
  | .op (.times _) => 128
  | .op _ => 0
  | .both i => bits i + 1
  | .thn i => bits i
def bitsL : List Stg → Nat
  | [] => 0
  | s :: l => bitS s + bitsL l
theorem bitsL_app : ∀ (l : List Stg) (s : Stg), bitsL (l ++ [s]) = bitsL l + bitS s
  | [], s => by simp [bitsL]
  | x :: l, s => by simp only [List.cons_append, bitsL, bitsL_app l s]; omega
theorem bits_eq : ∀ c : Ch, bits c = 200 + bitsL c.stl
  | .src _ => rfl
  | .op c o => by
    have := bits_eq c
    simp only [Ch.stl, bitsL_app]
    cases o <;> simp only [bits, bitS] <;> omega
  | .both c i => by have := bits_eq c; simp only [Ch.stl, bitsL_app, bits, bitS]; omega
  | .thn c i => by have := bits_eq c; simp only [Ch.stl, bitsL_app, bits, bitS]; omega
theorem bits_le : ∀ c : Ch, bits c ≤ 200 * c.mks.length + 128 * c.nst
  | .src _ => by simp [bits, Ch.mks, Ch.nst]
  | .op c o => by have := bits_le c; simp only [Ch.mks, Ch.nst]; cases o <;> simp only [bits] <;> omega
  | .both c i => by have := bits_le c; have := bits_le i; simp only [Ch.mks, Ch.nst, bits, List.length_append]; omega
  | .thn c i => by have := bits_le c; have := bits_le i; simp only [Ch.mks, Ch.nst, bits, List.length_append]; omega
def InB (B : Nat) (r : List Int) : Prop := ∀ k ∈ r, k.natAbs < 2 ^ B
theorem InB.mono {B B' : Nat} {r : List Int} (h : InB B r) (l : B ≤ B') : InB B' r := fun k hk => Nat.lt_of_lt_of_le (h k hk) (Nat.pow_le_pow_right (by decide) l)
theorem InB.sub {B : Nat} {r r' : List Int} (h : InB B r) (s : ∀ k ∈ r', k ∈ r) : InB B r' := fun k hk => h k (s k hk)
theorem opP_in {o : Op} {r : List Int} {B : Nat} (h : InB B r) (hB : 128 ≤ B) (no : numOp o) : InB (B + bitS (.op o)) (opP o r) := by
  cases o with
  | add n =>
    intro k hk
    obtain ⟨x, hx, rfl⟩ := List.mem_map.mp hk
    have h1 := h x hx
    have h2 : n.natAbs < 2 ^ B := Nat.lt_of_lt_of_le no (Nat.pow_le_pow_right (by decide) hB)
    have e : 2 ^ (B + bitS (.op (.add n))) = 2 ^ B + 2 ^ B := by show 2 ^ (B + 1) = _; rw [Nat.pow_succ]; omega
    rw [e]
    omega
  | times n =>
    intro k hk
    obtain ⟨x, hx, rfl⟩ := List.mem_map.mp hk
    have h1 := h x hx
    have h2 : n.natAbs < 2 ^ 128 := no
    rw [Int.natAbs_mul, show B + bitS (.op (.times n)) = B + 128 from rfl, Nat.pow_add]
    exact Nat.mul_lt_mul'' h1 h2
  | keep q w => exact h.sub fun k hk => (List.mem_filter.mp hk).1
  | drop m => exact h.sub fun k hk => List.mem_of_mem_drop hk
  | take m => exact h.sub fun k hk => List.mem_of_mem_take hk
  | each k =>
    refine h.sub fun x hx => ?_
    obtain ⟨y, hy, hx⟩ := List.mem_flatMap.mp hx
    rw [List.eq_of_mem_replicate hx]; exact hy
  | til m => exact h.sub fun k hk => (List.takeWhile_sublist _).mem hk
  | unlike =>
    refine h.sub fun k hk => ?_
    obtain ⟨i, hi, e⟩ := List.mem_filterMap.mp hk
    split at e
    · cases e
      have hi := List.mem_range.mp hi
      rw [List.getD_eq_getElem?_getD, List.getElem?_eq_getElem hi, Option.getD_some]
      exact List.getElem_mem hi
    · cases e
theorem zip_in {r q : List Int} {B C : Nat} (h : InB B r) (h2 : InB C q) : InB (B + C + 1) (List.zipWith (· + ·) r q) := by
  intro k hk
  obtain ⟨i, hi, rfl⟩ := List.getElem_of_mem hk
  rw [List.getElem_zipWith]
  have a1 := h _ (List.getElem_mem (l := r) (n := i) (by rw [List.length_zipWith] at hi; omega))
  have a2 := h2 _ (List.getElem_mem (l := q) (n := i) (by rw [List.length_zipWith] at hi; omega))
  have m1 : 2 ^ B ≤ 2 ^ (B + C) := Nat.pow_le_pow_right (by decide) (by omega)
  have m2 : 2 ^ C ≤ 2 ^ (B + C) := Nat.pow_le_pow_right (by decide) (by omega)
  have e : 2 ^ (B + C + 1) = 2 ^ (B + C) + 2 ^ (B + C) := by rw [Nat.pow_succ]; omega
  rw [e]
  omega
theorem app_in {r q : List Int} {B C : Nat} (h : InB B r) (h2 : InB C q) : InB (B + C) (r ++ q) := fun k hk =>
  (List.mem_append.mp hk).elim (fun m => (h.mono (Nat.le_add_right _ _)) k m) fun m => (h2.mono (Nat.le_add_left _ _)) k m
def numSt : Stg → Prop
  | .op o => numOp o
  | .both i => NumB i
  | .thn i => NumB i
theorem numB_iff : ∀ {c : Ch}, NumB c → (∀ ns, baseP c.mk = some ns → InB 150 ns) ∧ ∀ s ∈ c.stl, numSt s
  | .src (.row ns), h => ⟨(fun r e => by cases e; exact h), (fun s hs => by cases hs)⟩
  | .src (.count _ _), h => ⟨(fun r e => by cases e), (fun s hs => by cases hs)⟩
  | .op c o, h => ⟨(numB_iff h.1).1, fun s hs => by
    rcases List.mem_append.mp hs with hs | hs
    · exact (numB_iff h.1).2 s hs
    · rw [List.mem_singleton.mp hs]; exact h.2⟩
  | .both c i, h => ⟨(numB_iff h.1).1, fun s hs => by
    rcases List.mem_append.mp hs with hs | hs
    · exact (numB_iff h.1).2 s hs
    · rw [List.mem_singleton.mp hs]; exact h.2⟩
  | .thn c i, h => ⟨(numB_iff h.1).1, fun s hs => by
    rcases List.mem_append.mp hs with hs | hs
    · exact (numB_iff h.1).2 s hs
    · rw [List.mem_singleton.mp hs]; exact h.2⟩
theorem cap_some {r q : List Int} (h : capP r = some q) : q = r ∧ r.length ≤ 10000 := by
  unfold capP at h
  split at h
  · cases h
  · cases h; exact ⟨rfl, by omega⟩
/-- the numbers of a whole row -/
theorem rowP_in : ∀ {c : Ch} {r : List Int}, NumB c → rowP c = some r → InB (bits c) r
  | .src (.row ns), r, h, e => by cases e; exact InB.mono (B := 150) (B' := 200) h (by decide)
  | .src (.count _ _), r, h, e => by cases e
  | .op c o, r, h, e => by
    simp only [rowP, Option.bind_eq_some_iff] at e
    obtain ⟨q, hq, e⟩ := e
    have k := opP_in (o := o) (rowP_in h.1 hq) (by have := bits_ge c; omega) h.2
    have eb : bits (.op c o) = bits c + bitS (.op o) := by cases o <;> rfl
    rw [eb]
    cases o with
    | each m =>
      simp only at e
      split at e
      · cases e
      · rw [(cap_some e).1]; exact k
    | _ => rw [(cap_some e).1]; exact k
  | .both c i, r, h, e => by
    simp only [rowP, Option.bind_eq_some_iff] at e
    obtain ⟨q, hq, q2, hq2, e⟩ := e
    rw [(cap_some e).1]
    exact zip_in (rowP_in h.1 hq) (rowP_in h.2 hq2)
  | .thn c i, r, h, e => by
    simp only [rowP, Option.bind_eq_some_iff] at e
    obtain ⟨q, hq, q2, hq2, e⟩ := e
    rw [(cap_some e).1]
    exact app_in (rowP_in h.1 hq) (rowP_in h.2 hq2)
/-- .. behind a stage -/
theorem rawP_in {s : Stg} {r r' : List Int} {B : Nat} (h : InB B r) (hB : 128 ≤ B) (n : numSt s) (e : rawP s r = some r') : InB (B + bitS s) r' := by
  cases s with
  | op o => cases e; exact opP_in h hB n
  | both i =>
    simp only [rawP, Option.map_eq_some_iff] at e
    obtain ⟨q, hq, rfl⟩ := e
    exact zip_in h (rowP_in n hq)
  | thn i =>
    simp only [rawP, Option.map_eq_some_iff] at e
    obtain ⟨q, hq, rfl⟩ := e
    exact app_in h (rowP_in n hq)
end DL
end
section
set_option maxRecDepth 100000
set_option maxHeartbeats 4000000
namespace DL
open PySem PySem.Spec PyProof.Rows L2
def sumG (d : Dr) : Nat := (gs d.sd).sum + d.b
def Csv (f : Dr → R) : Prop := ∀ d, sumG (f d).d = sumG d ∧ (f d).d.b ≤ d.b
theorem csv_src (m : Maker) : Csv (drawSrc m) := fun d => by
  obtain ⟨sd, b, ls⟩ := d
  cases sd with
  | src g =>
    cases m with
    | row ns =>
      simp only [drawSrc]
      split
      · exact ⟨rfl, Nat.le_refl _⟩
      · split
        · exact ⟨rfl, Nat.le_refl _⟩
        · rename_i hb
          simp only [sumG, gs, List.sum_cons, List.sum_nil]
          omega
    | count x y =>
      simp only [drawSrc]
      split
      · exact ⟨rfl, Nat.le_refl _⟩
      · rename_i hb
        simp only [sumG, gs, List.sum_cons, List.sum_nil]
        omega
  | op _ _ => cases m <;> exact ⟨rfl, Nat.le_refl _⟩
  | two _ _ _ => cases m <;> exact ⟨rfl, Nat.le_refl _⟩
theorem csv_seek {f : Dr → R} (h : Csv f) (good : Int → Bool) (μ : Dr → Nat) : ∀ (n : Nat) (d : Dr), μ d ≤ n → sumG (seek f good μ d).d = sumG d ∧ (seek f good μ d).d.b ≤ d.b := by
  intro n
  induction n with
  | zero =>
    intro d hd
    rw [seek]
    split
    · rename_i e
      omega
    · exact h d
  | succ n ih =>
    intro d hd
    rw [seek]
    split
    · rename_i e
      obtain ⟨k1, k2⟩ := ih (f d).d (by omega)
      obtain ⟨h1, h2⟩ := h d
      exact ⟨k1.trans h1, Nat.le_trans k2 h2⟩
    · exact h d
theorem csv_letGo {f : Dr → R} (h : Csv f) (m : Nat) : ∀ (n l : Nat) (d : Dr), m - l ≤ n → (∀ q, (letGo f m l d).2.1 = some q → sumG q.d = sumG d ∧ q.d.b ≤ d.b) ∧ (sumG (letGo f m l d).2.2 = sumG d ∧ (letGo f m l d).2.2.b ≤ d.b) := by
  intro n
  induction n with
  | zero =>
    intro l d hl
    rw [letGo, if_neg (by omega)]
    exact ⟨fun q e => (by cases e), rfl, Nat.le_refl _⟩
  | succ n ih =>
    intro l d hl
    rw [letGo]
    obtain ⟨h1, h2⟩ := h d
    split
    · split
      · obtain ⟨k1, k2, k3⟩ := ih (l + 1) (f d).d (by omega)
        exact ⟨fun q e => ⟨(k1 q e).1.trans h1, Nat.le_trans (k1 q e).2 h2⟩, k2.trans h1, Nat.le_trans k3 h2⟩
      · refine ⟨fun q e => ?_, h1, h2⟩
        cases e
        exact ⟨h1, h2⟩
    · exact ⟨fun q e => (by cases e), rfl, Nat.le_refl _⟩
theorem csv_op {f : Dr → R} (h : Csv f) (o : Op) (μ : Dr → Nat) (s : LSt) (n : Sd) (b : Nat) (ls : List Int) : sumG (byOp o f μ s ⟨n, b, ls⟩).d = sumG ⟨.op n s, b, ls⟩ ∧ (byOp o f μ s ⟨n, b, ls⟩).d.b ≤ b := by
  obtain ⟨h1, h2⟩ := h ⟨n, b, ls⟩
  cases o with
  | add k => exact ⟨h1, h2⟩
  | times k => exact ⟨h1, h2⟩
  | keep q w =>
    obtain ⟨k1, k2⟩ := csv_seek h (fun k => k % w == q) μ _ ⟨n, b, ls⟩ (Nat.le_refl _)
    exact ⟨k1, k2⟩
  | unlike =>
    obtain ⟨k1, k2⟩ := csv_seek h (fun k => s.told == 0 || s.last != some k) μ _ ⟨n, b, ls⟩ (Nat.le_refl _)
    exact ⟨k1, k2⟩
  | drop m =>
    obtain ⟨k1, k2, k3⟩ := csv_letGo h m.toNat _ s.left ⟨n, b, ls⟩ (Nat.le_refl _)
    simp only [byOp]
    generalize letGo f m.toNat s.left ⟨n, b, ls⟩ = t at k1 k2 k3
    obtain ⟨l, r, d'⟩ := t
    cases r with
    | some q => exact k1 q rfl
    | none =>
      obtain ⟨g1, g2⟩ := h d'
      exact ⟨g1.trans k2, Nat.le_trans g2 k3⟩
  | take m =>
    simp only [byOp]
    split
    · exact ⟨h1, h2⟩
    · exact ⟨rfl, Nat.le_refl _⟩
  | each m =>
    simp only [byOp]
    split
    · split
      · exact ⟨h1, h2⟩
      · exact ⟨h1, h2⟩
    · exact ⟨rfl, Nat.le_refl _⟩
  | til m =>
    simp only [byOp]
    split
    · exact ⟨h1, h2⟩
    · exact ⟨h1, h2⟩
theorem gs_set (s : LSt) (sd : Sd) : gs (setSt s sd) = gs sd := by cases sd <;> rfl
theorem csv_booked {r : R} : sumG (booked r).d = sumG r.d ∧ (booked r).d.b = r.d.b := by
  simp only [booked, sumG, gs_set, and_self]
theorem csv_draw : ∀ c : Ch, Csv (draw c)
  | .src m => fun d => by rw [draw]; exact csv_src m d
  | .op c o => fun d => by
    have ih := csv_draw c
    rw [draw]
    split
    · exact ⟨rfl, Nat.le_refl _⟩
    · obtain ⟨sd, b, ls⟩ := d
      cases sd with
      | op n s =>
        obtain ⟨k1, k2⟩ := csv_op ih o (capD c) s n b ls
        exact ⟨csv_booked.1.trans k1, Nat.le_trans (Nat.le_of_eq csv_booked.2) k2⟩
      | src _ => exact ⟨csv_booked.1, Nat.le_of_eq csv_booked.2⟩
      | two _ _ _ => exact ⟨csv_booked.1, Nat.le_of_eq csv_booked.2⟩
  | .both c i => fun d => by
    have ih := csv_draw c
    have jh := csv_draw i
    rw [draw]
    split
    · exact ⟨rfl, Nat.le_refl _⟩
    · obtain ⟨sd, b, ls⟩ := d
      cases sd with
      | two n j s =>
        refine (fun t => ⟨csv_booked.1.trans t.1, Nat.le_trans (Nat.le_of_eq csv_booked.2) t.2⟩ : _ ∧ _ → _) (?_ : sumG (byBoth (draw c) (draw i) s n j b ls).d = sumG ⟨.two n j s, b, ls⟩ ∧ (byBoth (draw c) (draw i) s n j b ls).d.b ≤ b)
        obtain ⟨a1, a2⟩ := ih ⟨n, b, ls⟩
        simp only [byBoth]
        split
        · obtain ⟨b1, b2⟩ := jh ⟨j, (draw c ⟨n, b, ls⟩).d.b, (draw c ⟨n, b, ls⟩).d.ls⟩
          simp only [sumG, gs, List.sum_append] at a1 a2 b1 b2 ⊢
          omega
        · simp only [sumG, gs, List.sum_append] at a1 a2 ⊢
          omega
      | src _ => exact ⟨csv_booked.1, Nat.le_of_eq csv_booked.2⟩
      | op _ _ => exact ⟨csv_booked.1, Nat.le_of_eq csv_booked.2⟩
  | .thn c i => fun d => by
    have ih := csv_draw c
    have jh := csv_draw i
    rw [draw]
    split
    · exact ⟨rfl, Nat.le_refl _⟩
    · obtain ⟨sd, b, ls⟩ := d
      cases sd with
      | two n j s =>
        refine (fun t => ⟨csv_booked.1.trans t.1, Nat.le_trans (Nat.le_of_eq csv_booked.2) t.2⟩ : _ ∧ _ → _) (?_ : sumG (byThen (draw c) (draw i) s n j b ls).d = sumG ⟨.two n j s, b, ls⟩ ∧ (byThen (draw c) (draw i) s n j b ls).d.b ≤ b)
        obtain ⟨a1, a2⟩ := ih ⟨n, b, ls⟩
        obtain ⟨b1, b2⟩ := jh ⟨j, (draw c ⟨n, b, ls⟩).d.b, (draw c ⟨n, b, ls⟩).d.ls⟩
        obtain ⟨c1, c2⟩ := jh ⟨j, b, ls⟩
        simp only [byThen]
        simp only [sumG, gs, List.sum_append] at a1 a2 b1 b2 c1 c2 ⊢
        split
        · split
          · simp only [gs, List.sum_append]; omega
          · simp only [gs, List.sum_append]; omega
        · simp only [gs, List.sum_append]; omega
      | src _ => exact ⟨csv_booked.1, Nat.le_of_eq csv_booked.2⟩
      | op _ _ => exact ⟨csv_booked.1, Nat.le_of_eq csv_booked.2⟩
/-- one draw, with all that may be drawn for it -/
def dr1 (c : Ch) (d : Dr) : R := draw c ⟨d.sd, 200, d.ls⟩
theorem next_dr {c : Ch} {x : Dw} (h1 : x.back = []) (h2 : x.stuck = false) : next c x = (((dr1 c x.d).w, (dr1 c x.d).k), ⟨(dr1 c x.d).d, [], (dr1 c x.d).w == .long⟩) := by
  unfold next
  rw [h1, h2]
  rfl
theorem run_zero {c : Ch} {x : Dw} : run c 0 x = ([], none, x) := rfl
theorem run_num {c : Ch} {n : Nat} {x : Dw} (h1 : x.back = []) (h2 : x.stuck = false) (h : (dr1 c x.d).w = .num) : run c (n + 1) x = ((dr1 c x.d).k :: (run c n ⟨(dr1 c x.d).d, [], false⟩).1, (run c n ⟨(dr1 c x.d).d, [], false⟩).2) := by
  rw [run, next_dr h1 h2]
  simp only [h, if_true]
  rfl
theorem run_not {c : Ch} {n : Nat} {x : Dw} (h1 : x.back = []) (h2 : x.stuck = false) (h : (dr1 c x.d).w ≠ .num) : (run c (n + 1) x).1 = [] ∧ (run c (n + 1) x).2.1 = some (dr1 c x.d).w := by
  rw [run, next_dr h1 h2]
  simp only [if_neg h, and_self]
theorem mono_run {c : Ch} : ∀ (n : Nat) (x : Dw), x.back = [] → x.stuck = false → (gs x.d.sd).sum ≤ (gs (run c n x).2.2.d.sd).sum
  | 0, x, _, _ => Nat.le_refl _
  | n + 1, x, h1, h2 => by
    have k := csv_draw c ⟨x.d.sd, 200, x.d.ls⟩
    simp only [sumG] at k
    have k2 : (gs x.d.sd).sum ≤ (gs (dr1 c x.d).d.sd).sum := by simp only [dr1]; omega
    by_cases h : (dr1 c x.d).w = .num
    · rw [run_num h1 h2 h]
      exact Nat.le_trans k2 (mono_run n ⟨(dr1 c x.d).d, [], false⟩ rfl rfl)
    · rw [run, next_dr h1 h2]
      simp only [if_neg h]
      exact k2
/-- where c tells numbers, c' tells the same -/
theorem sim {c c' : Ch} {N T : Nat} (R : Nat → Dr → Dr → Prop) (step : ∀ k d d', R k d d' → k < N → (dr1 c d).w = .num → (gs (dr1 c d).d.sd).sum ≤ T → (dr1 c' d').w = .num ∧ (dr1 c' d').k = (dr1 c d).k ∧ R (k + 1) (dr1 c d).d (dr1 c' d').d) :
    ∀ (n k : Nat) (x x' : Dw), R k x.d x'.d → k + n ≤ N → x.back = [] → x'.back = [] → x.stuck = false → x'.stuck = false → (gs (run c n x).2.2.d.sd).sum ≤ T → (run c n x).2.1 = none → (run c' n x').1 = (run c n x).1 ∧ (run c' n x').2.1 = none
  | 0, k, x, x', _, _, _, _, _, _, _, _ => ⟨rfl, rfl⟩
  | n + 1, k, x, x', r, hk, b, b', s, s', hT, h => by
    by_cases hw : (dr1 c x.d).w = .num
    · rw [run_num b s hw] at h hT ⊢
      have m := mono_run (c := c) n ⟨(dr1 c x.d).d, [], false⟩ rfl rfl
      obtain ⟨k1, k2, k3⟩ := step k _ _ r (by omega) hw (Nat.le_trans m hT)
      rw [run_num b' s' k1]
      obtain ⟨i1, i2⟩ := sim R step n (k + 1) ⟨(dr1 c x.d).d, [], false⟩ ⟨(dr1 c' x'.d).d, [], false⟩ k3 (by omega) rfl rfl rfl rfl hT h
      exact ⟨by simp only [k2, i1], i2⟩
    · rw [(run_not b s hw).2] at h
      cases h
/-- they tell the same numbers, however they end -/
theorem sim2 {c c' : Ch} (R : Dr → Dr → Prop) (step : ∀ d d', R d d' → ((dr1 c d).w = .num ∧ (dr1 c' d').w = .num ∧ (dr1 c' d').k = (dr1 c d).k ∧ R (dr1 c d).d (dr1 c' d').d) ∨ ((dr1 c d).w ≠ .num ∧ (dr1 c' d').w ≠ .num)) :
    ∀ (n : Nat) (x x' : Dw), R x.d x'.d → x.back = [] → x'.back = [] → x.stuck = false → x'.stuck = false → (run c n x).1 = (run c' n x').1
  | 0, x, x', _, _, _, _, _ => rfl
  | n + 1, x, x', r, b, b', s, s' => by
    rcases step _ _ r with ⟨h1, h2, h3, h4⟩ | ⟨h1, h2⟩
    · rw [run_num b s h1, run_num b' s' h2]
      simp only [h3, sim2 R step n ⟨(dr1 c x.d).d, [], false⟩ ⟨(dr1 c' x'.d).d, [], false⟩ h4 rfl rfl rfl rfl]
    · rw [(run_not b s h1).1, (run_not b' s' h2).1]
/-- .. and both tell numbers only -/
theorem sim3 {c c' : Ch} (R : Dr → Dr → Prop) (step : ∀ d d', R d d' → (dr1 c d).w = .num ∧ (dr1 c' d').w = .num ∧ (dr1 c' d').k = (dr1 c d).k ∧ R (dr1 c d).d (dr1 c' d').d) :
    ∀ (n : Nat) (x x' : Dw), R x.d x'.d → x.back = [] → x'.back = [] → x.stuck = false → x'.stuck = false → (run c n x).1 = (run c' n x').1 ∧ (run c n x).2.1 = (run c' n x').2.1
  | 0, x, x', _, _, _, _, _ => ⟨rfl, rfl⟩
  | n + 1, x, x', r, b, b', s, s' => by
    obtain ⟨h1, h2, h3, h4⟩ := step _ _ r
    rw [run_num b s h1, run_num b' s' h2]
    obtain ⟨i1, i2⟩ := sim3 R step n ⟨(dr1 c x.d).d, [], false⟩ ⟨(dr1 c' x'.d).d, [], false⟩ h4 rfl rfl rfl rfl
    exact ⟨by simp only [h3, i1], i2⟩
end DL
end
section
set_option maxRecDepth 100000
set_option maxHeartbeats 4000000
namespace DL
open PySem PySem.Spec PyProof.Rows L2
def LeL : List Nat → List Nat → Prop
  | [], [] => True
  | x :: r, y :: s => x ≤ y ∧ LeL r s
  | _, _ => False
theorem LeL.refl : ∀ l : List Nat, LeL l l
  | [] => trivial
  | _ :: r => ⟨Nat.le_refl _, LeL.refl r⟩
theorem LeL.trans : ∀ {a b c : List Nat}, LeL a b → LeL b c → LeL a c
  | [], [], [], _, _ => trivial
  | _ :: _, _ :: _, _ :: _, ⟨h1, h2⟩, ⟨k1, k2⟩ => ⟨Nat.le_trans h1 k1, LeL.trans h2 k2⟩
theorem LeL.app : ∀ {a b c d : List Nat}, LeL a b → LeL c d → LeL (a ++ c) (b ++ d)
  | [], [], _, _, _, k => k
  | _ :: _, _ :: _, _, _, ⟨h1, h2⟩, k => ⟨h1, LeL.app h2 k⟩
theorem LeL.len : ∀ {a b : List Nat}, LeL a b → a.length = b.length
  | [], [], _ => rfl
  | _ :: _, _ :: _, ⟨_, h⟩ => by rw [List.length_cons, List.length_cons, h.len]
theorem LeL.split : ∀ {a b c d : List Nat}, a.length = b.length → LeL (a ++ c) (b ++ d) → LeL a b ∧ LeL c d
  | [], [], _, _, _, h => ⟨trivial, h⟩
  | _ :: _, _ :: _, _, _, l, ⟨h1, h2⟩ => ⟨⟨h1, (LeL.split (by simpa using l) h2).1⟩, (LeL.split (by simpa using l) h2).2⟩
def Up (d d' : Dr) : Prop := LeL (gs d.sd) (gs d'.sd)
def Mono (f : Dr → R) : Prop := ∀ d, Up d (f d).d
theorem up_src (m : Maker) : Mono (drawSrc m) := fun d => by
  obtain ⟨sd, b, ls⟩ := d
  cases sd with
  | src g =>
    cases m with
    | row ns =>
      simp only [drawSrc]
      split
      · exact LeL.refl _
      · split
        · exact LeL.refl _
        · exact ⟨Nat.le_succ _, trivial⟩
    | count x y =>
      simp only [drawSrc]
      split
      · exact LeL.refl _
      · exact ⟨Nat.le_succ _, trivial⟩
  | op _ _ => cases m <;> exact LeL.refl _
  | two _ _ _ => cases m <;> exact LeL.refl _
theorem up_seek {f : Dr → R} (h : Mono f) (good : Int → Bool) (μ : Dr → Nat) : ∀ (n : Nat) (d : Dr), μ d ≤ n → Up d (seek f good μ d).d := by
  intro n
  induction n with
  | zero =>
    intro d hd
    rw [seek]
    split
    · omega
    · exact h d
  | succ n ih =>
    intro d hd
    rw [seek]
    split
    · exact LeL.trans (h d) (ih (f d).d (by omega))
    · exact h d
theorem up_letGo {f : Dr → R} (h : Mono f) (m : Nat) : ∀ (n l : Nat) (d : Dr), m - l ≤ n → (∀ q, (letGo f m l d).2.1 = some q → Up d q.d) ∧ Up d (letGo f m l d).2.2 := by
  intro n
  induction n with
  | zero =>
    intro l d hl
    rw [letGo, if_neg (by omega)]
    exact ⟨fun q e => (by cases e), LeL.refl _⟩
  | succ n ih =>
    intro l d hl
    rw [letGo]
    split
    · split
      · obtain ⟨k1, k2⟩ := ih (l + 1) (f d).d (by omega)
        exact ⟨fun q e => LeL.trans (h d) (k1 q e), LeL.trans (h d) k2⟩
      · refine ⟨fun q e => ?_, h d⟩
        cases e
        exact h d
    · exact ⟨fun q e => (by cases e), LeL.refl _⟩
theorem up_op {f : Dr → R} (h : Mono f) (o : Op) (μ : Dr → Nat) (s : LSt) (n : Sd) (b : Nat) (ls : List Int) : Up ⟨.op n s, b, ls⟩ (byOp o f μ s ⟨n, b, ls⟩).d := by
  have h1 := h ⟨n, b, ls⟩
  cases o with
  | add k => exact h1
  | times k => exact h1
  | keep q w => exact up_seek h (fun k => k % w == q) μ _ ⟨n, b, ls⟩ (Nat.le_refl _)
  | unlike => exact up_seek h (fun k => s.told == 0 || s.last != some k) μ _ ⟨n, b, ls⟩ (Nat.le_refl _)
  | drop m =>
    obtain ⟨k1, k2⟩ := up_letGo h m.toNat _ s.left ⟨n, b, ls⟩ (Nat.le_refl _)
    simp only [byOp]
    generalize letGo f m.toNat s.left ⟨n, b, ls⟩ = t at k1 k2
    obtain ⟨l, r, d'⟩ := t
    cases r with
    | some q => exact k1 q rfl
    | none => exact LeL.trans k2 (h d')
  | take m =>
    simp only [byOp]
    split
    · exact h1
    · exact LeL.refl _
  | each m =>
    simp only [byOp]
    split
    · split
      · exact h1
      · exact h1
    · exact LeL.refl _
  | til m =>
    simp only [byOp]
    split
    · exact h1
    · exact h1
theorem up_booked {d : Dr} {r : R} (h : Up d r.d) : Up d (booked r).d := by
  simp only [Up, booked, gs_set] at h ⊢
  exact h
theorem up_both {f g : Dr → R} (hf : Mono f) (hg : Mono g) (s : LSt) (n j : Sd) (b : Nat) (ls : List Int) : Up ⟨.two n j s, b, ls⟩ (byBoth f g s n j b ls).d := by
  simp only [byBoth]
  split
  · exact LeL.app (hf ⟨n, b, ls⟩) (hg ⟨j, _, _⟩)
  · exact LeL.app (hf ⟨n, b, ls⟩) (LeL.refl _)
theorem up_thn {f g : Dr → R} (hf : Mono f) (hg : Mono g) (s : LSt) (n j : Sd) (b : Nat) (ls : List Int) : Up ⟨.two n j s, b, ls⟩ (byThen f g s n j b ls).d := by
  simp only [byThen]
  split
  · split
    · exact LeL.app (hf ⟨n, b, ls⟩) (hg ⟨j, _, _⟩)
    · exact LeL.app (hf ⟨n, b, ls⟩) (LeL.refl _)
  · exact LeL.app (LeL.refl _) (hg ⟨j, b, ls⟩)
theorem up_draw : ∀ c : Ch, Mono (draw c)
  | .src m => fun d => by rw [draw]; exact up_src m d
  | .op c o => fun d => by
    rw [draw]
    split
    · exact LeL.refl _
    · obtain ⟨sd, b, ls⟩ := d
      cases sd with
      | op n s => exact up_booked (up_op (up_draw c) o (capD c) s n b ls)
      | src _ => exact up_booked (LeL.refl _)
      | two _ _ _ => exact up_booked (LeL.refl _)
  | .both c i => fun d => by
    rw [draw]
    split
    · exact LeL.refl _
    · obtain ⟨sd, b, ls⟩ := d
      cases sd with
      | two n j s => exact up_booked (up_both (up_draw c) (up_draw i) s n j b ls)
      | src _ => exact up_booked (LeL.refl _)
      | op _ _ => exact up_booked (LeL.refl _)
  | .thn c i => fun d => by
    rw [draw]
    split
    · exact LeL.refl _
    · obtain ⟨sd, b, ls⟩ := d
      cases sd with
      | two n j s => exact up_booked (up_thn (up_draw c) (up_draw i) s n j b ls)
      | src _ => exact up_booked (LeL.refl _)
      | op _ _ => exact up_booked (LeL.refl _)
end DL
end
section
set_option maxRecDepth 100000
set_option maxHeartbeats 4000000
namespace DL
open PySem PySem.Spec PyProof.Rows L2
def WithR : Ch → Ch → List Nat → Prop
  | .src m, .src m', F => ∃ k, F = [k] ∧ (m' = m ∨ ∃ x y ns, m = .count x y ∧ m' = .row ns ∧ k ≤ ns.length ∧ ∀ i, i < k → ns.getD i 0 = x + (i : Int) * y)
  | .op c o, .op c' o', F => o' = o ∧ WithR c c' F
  | .both c i, .both c' i', F => ∃ F1 F2, F = F1 ++ F2 ∧ WithR c c' F1 ∧ WithR i i' F2
  | .thn c i, .thn c' i', F => ∃ F1 F2, F = F1 ++ F2 ∧ WithR c c' F1 ∧ WithR i i' F2
  | _, _, _ => False
theorem WithR.len : ∀ {c c' : Ch} {F : List Nat}, WithR c c' F → F.length = c.mks.length
  | .src _, .src _, _, ⟨k, e, _⟩ => by rw [e]; rfl
  | .op c o, .op c' o', _, ⟨_, h⟩ => h.len
  | .both c i, .both c' i', _, ⟨F1, F2, e, h1, h2⟩ => by rw [e, List.length_append, h1.len, h2.len, Ch.mks, List.length_append]
  | .thn c i, .thn c' i', _, ⟨F1, F2, e, h1, h2⟩ => by rw [e, List.length_append, h1.len, h2.len, Ch.mks, List.length_append]
theorem WithR.cap : ∀ {c c' : Ch} {F : List Nat}, WithR c c' F → ∀ n b, DL.cap c' n b = DL.cap c n b
  | .src _, .src _, _, _, n, b => rfl
  | .op c o, .op c' o', _, ⟨e, h⟩, n, b => by
    subst e
    cases n with
    | op n s => cases o' <;> simp only [DL.cap, h.cap]
    | src _ => rfl
    | two _ _ _ => rfl
  | .both c i, .both c' i', _, ⟨F1, F2, e, h1, h2⟩, n, b => by
    cases n with
    | two n j s => simp only [DL.cap, h1.cap]
    | src _ => rfl
    | op _ _ => rfl
  | .thn c i, .thn c' i', _, ⟨F1, F2, e, h1, h2⟩, n, b => by
    cases n with
    | two n j s => simp only [DL.cap, h1.cap, h2.cap]
    | src _ => rfl
    | op _ _ => rfl
theorem fit_len {M : Nat} : ∀ {c : Ch} {n : Sd} {b : Nat}, Fit M c n b → (gs n).length = c.mks.length
  | .src (.row _), .src _, _, _ => rfl
  | .src (.count _ _), .src _, _, _ => rfl
  | .op c _, .op n _, _, ⟨h, _⟩ => by have k := fit_len h; exact k
  | .both c i, .two n j _, _, ⟨h1, h2⟩ => by rw [gs, List.length_append, fit_len h1, fit_len h2, Ch.mks, List.length_append]
  | .thn c i, .two n j _, _, ⟨h1, h2⟩ => by rw [gs, List.length_append, fit_len h1, fit_len h2, Ch.mks, List.length_append]
/-- f' does what f does, where that is not long and keeps within F -/
def EqF (M : Nat) (c : Ch) (F : List Nat) (f f' : Dr → R) : Prop := ∀ d, Fit M c d.sd d.b → (f d).w ≠ .long → LeL (gs (f d).d.sd) F → f' d = f d
theorem eq_seek {M : Nat} {c : Ch} {F : List Nat} {f f' : Dr → R} (h : EqF M c F f f') (kf : KeepsF M c f) (up : Mono f) (good : Int → Bool) (μ : Dr → Nat) : ∀ (n : Nat) (d : Dr), μ d ≤ n → Fit M c d.sd d.b → (seek f good μ d).w ≠ .long → LeL (gs (seek f good μ d).d.sd) F → seek f' good μ d = seek f good μ d := by
  intro n
  induction n with
  | zero =>
    intro d hd fit hw hl
    rw [seek] at hw hl ⊢
    rw [if_neg (by omega)] at hw hl
    rw [if_neg (by omega), h d fit hw hl, seek, if_neg (by omega)]
  | succ n ih =>
    intro d hd fit hw hl
    by_cases hc : (f d).w = .num ∧ good (f d).k = false ∧ μ (f d).d < μ d
    · have e : seek f good μ d = seek f good μ (f d).d := by rw [seek, if_pos hc]
      rw [e] at hw hl ⊢
      have e1 : f' d = f d := h d fit (by rw [hc.1]; simp) (LeL.trans (up_seek up good μ _ (f d).d (Nat.le_refl _)) hl)
      rw [seek, e1, if_pos hc]
      exact ih (f d).d (by omega) (kf d fit).fit hw hl
    · have e : seek f good μ d = f d := by rw [seek, if_neg hc]
      rw [e] at hw hl ⊢
      have e1 : f' d = f d := h d fit hw hl
      rw [seek, e1, if_neg hc]
theorem letGo_done {f : Dr → R} {m l : Nat} {d : Dr} (h : ¬ l < m) : letGo f m l d = (l, none, d) := by rw [letGo, if_neg h]
theorem eq_letGo {M : Nat} {c : Ch} {F : List Nat} {f f' : Dr → R} (h : EqF M c F f f') (kf : KeepsF M c f) (up : Mono f) (m : Nat) : ∀ (n l : Nat) (d : Dr), m - l ≤ n → Fit M c d.sd d.b → (∀ q, (letGo f m l d).2.1 = some q → q.w ≠ .long ∧ LeL (gs q.d.sd) F) → LeL (gs (letGo f m l d).2.2.sd) F → letGo f' m l d = letGo f m l d := by
  intro n
  induction n with
  | zero =>
    intro l d hl fit h1 h2
    rw [letGo_done (by omega), letGo_done (by omega)]
  | succ n ih =>
    intro l d hl fit h1 h2
    by_cases hm : l < m
    · by_cases hw : (f d).w = .num
      · have e : letGo f m l d = letGo f m (l + 1) (f d).d := by rw [letGo, if_pos hm, if_pos hw]
        rw [e] at h1 h2 ⊢
        have e1 : f' d = f d := h d fit (by rw [hw]; simp) (LeL.trans (up_letGo up m _ (l + 1) (f d).d (Nat.le_refl _)).2 h2)
        rw [letGo, if_pos hm, e1, if_pos hw]
        exact ih (l + 1) (f d).d (by omega) (kf d fit).fit h1 h2
      · have e : letGo f m l d = (l, some (f d), (f d).d) := by rw [letGo, if_pos hm, if_neg hw]
        rw [e] at h1 h2 ⊢
        obtain ⟨k1, k2⟩ := h1 _ rfl
        rw [letGo, if_pos hm, h d fit k1 k2, if_neg hw]
    · rw [letGo_done hm, letGo_done hm]
theorem eq_op {M : Nat} {c : Ch} {F : List Nat} {f f' : Dr → R} (h : EqF M c F f f') (kf : KeepsF M c f) (up : Mono f) (o : Op) (μ : Dr → Nat) (s : LSt) (n : Sd) (b : Nat) (ls : List Int) (fit : Fit M c n b) (hw : (byOp o f μ s ⟨n, b, ls⟩).w ≠ .long) (hl : LeL (gs (byOp o f μ s ⟨n, b, ls⟩).d.sd) F) :
    byOp o f' μ s ⟨n, b, ls⟩ = byOp o f μ s ⟨n, b, ls⟩ := by
  have h1 := h ⟨n, b, ls⟩ fit
  cases o with
  | add k => simp only [byOp, gs] at hw hl ⊢; rw [h1 hw hl]
  | times k => simp only [byOp, gs] at hw hl ⊢; rw [h1 hw hl]
  | keep q w =>
    simp only [byOp, gs] at hw hl ⊢
    rw [eq_seek h kf up _ μ _ ⟨n, b, ls⟩ (Nat.le_refl _) fit hw hl]
  | unlike =>
    simp only [byOp, gs] at hw hl ⊢
    rw [eq_seek h kf up _ μ _ ⟨n, b, ls⟩ (Nat.le_refl _) fit hw hl]
  | drop m =>
    simp only [byOp] at hw hl ⊢
    have e := eq_letGo h kf up m.toNat _ s.left ⟨n, b, ls⟩ (Nat.le_refl _) fit
    obtain ⟨l0, r0, d0, e0, k1, k2⟩ := letGo_ok kf m.toNat _ s.left ⟨n, b, ls⟩ (Nat.le_refl _) fit
    rw [e0] at e hw hl ⊢
    cases r0 with
    | some q =>
      simp only [gs] at hw hl
      rw [e (fun q' e' => by cases e'; exact ⟨hw, hl⟩) (by rw [← (k1 q rfl).2.2]; exact hl)]
    | none =>
      simp only [gs] at hw hl
      have up1 := up d0
      rw [e (fun q' e' => by cases e') (LeL.trans up1 hl)]
      simp only
      rw [h d0 (k2 rfl).1 hw hl]
  | take m =>
    simp only [byOp] at hw hl ⊢
    split at hw
    · rename_i ht
      rw [if_pos ht] at hl ⊢
      rw [if_pos ht, h1 hw hl]
    · rename_i ht
      rw [if_neg ht, if_neg ht]
  | each m =>
    simp only [byOp] at hw hl ⊢
    by_cases h0 : s.left = 0
    · rw [if_pos h0] at hw hl
      rw [if_pos h0, if_pos h0]
      by_cases hn : (f ⟨n, b, ls⟩).w = .num
      · rw [if_pos hn] at hw hl
        rw [h1 hw hl]
      · rw [if_neg hn] at hw hl
        rw [h1 hw hl]
    · rw [if_neg h0, if_neg h0]
  | til m =>
    simp only [byOp] at hw hl ⊢
    by_cases hn : (f ⟨n, b, ls⟩).w = .num ∧ m ≤ (f ⟨n, b, ls⟩).k
    · rw [if_pos hn] at hw hl
      rw [h1 (by rw [hn.1]; simp) hl]
    · rw [if_neg hn] at hw hl
      rw [h1 hw hl]
end DL
end
section
set_option maxRecDepth 100000
set_option maxHeartbeats 4000000
namespace DL
open PySem PySem.Spec PyProof.Rows L2
/-- a stage's own -/
structure OSt where
  over : Bool
  told : Nat
  last : Option Int
  left : Nat
def o0 : OSt := ⟨false, 0, none, 0⟩
def ownF (q : OSt) : List (L2.Key × D) := dkOf [(Str.ofString "over", .bl q.over), (Str.ofString "told", .int (q.told : Int)), (Str.ofString "last", lastD q.last), (Str.ofString "left", .int (q.left : Int))]
structure LA where
  (d lost back given own : Addr)
structure LC where
  ch : D
  mks : List Maker
  y : LA
  back : List Int
  stuck : Bool
def ldF (x : LC) (bk : Nat) : List (L2.Key × D) := dkOf [(Str.ofString "chain", x.ch), (Str.ofString "makers", .lst (x.mks.map mkD)), (Str.ofString "lost", .ref x.y.lost), (Str.ofString "back", .ref x.y.back), (Str.ofString "stuck", .bl x.stuck), (Str.ofString "book", .int (bk : Int)), (Str.ofString "given", .ref x.y.given), (Str.ofString "own", .ref x.y.own)]
section
variable {q : OSt} {x : LC} {bk : Nat}
theorem inr_inj {a b : Str} : ((Sum.inr a : L2.Key) = Sum.inr b) = (a = b) := by simp
theorem lv_over : valD (ownF q) (.inr (Str.ofString "over")) = some (.bl q.over) := by simp [ownF, dkOf, valD_cons, str_inj]
theorem lv_told : valD (ownF q) (.inr (Str.ofString "told")) = some (.int (q.told : Int)) := by simp [ownF, dkOf, valD_cons, str_inj]
theorem lv_last : valD (ownF q) (.inr (Str.ofString "last")) = some (lastD q.last) := by simp [ownF, dkOf, valD_cons, str_inj]
theorem lv_left : valD (ownF q) (.inr (Str.ofString "left")) = some (.int (q.left : Int)) := by simp [ownF, dkOf, valD_cons, str_inj]
theorem lu_over {b : Bool} : putD (ownF q) (.inr (Str.ofString "over")) (.bl b) = ownF { q with over := b } := by simp [ownF, dkOf, putD, str_inj]
theorem lu_told {b : Nat} : putD (ownF q) (.inr (Str.ofString "told")) (.int (b : Int)) = ownF { q with told := b } := by simp [ownF, dkOf, putD, str_inj]
theorem lu_last {k : Int} : putD (ownF q) (.inr (Str.ofString "last")) (.int k) = ownF { q with last := some k } := by simp [ownF, dkOf, putD, str_inj, lastD]
theorem lu_left {b : Nat} : putD (ownF q) (.inr (Str.ofString "left")) (.int (b : Int)) = ownF { q with left := b } := by simp [ownF, dkOf, putD, str_inj]
theorem ln_own : (ownF q).length = 4 := rfl
theorem ln_ld : (ldF x bk).length = 8 := rfl
theorem ld_chain : valD (ldF x bk) (.inr (Str.ofString "chain")) = some x.ch := by simp [ldF, dkOf, valD_cons, str_inj]
theorem ld_makers : valD (ldF x bk) (.inr (Str.ofString "makers")) = some (.lst (x.mks.map mkD)) := by simp [ldF, dkOf, valD_cons, str_inj]
theorem ld_lost : valD (ldF x bk) (.inr (Str.ofString "lost")) = some (.ref x.y.lost) := by simp [ldF, dkOf, valD_cons, str_inj]
theorem ld_back : valD (ldF x bk) (.inr (Str.ofString "back")) = some (.ref x.y.back) := by simp [ldF, dkOf, valD_cons, str_inj]
theorem ld_stuck : valD (ldF x bk) (.inr (Str.ofString "stuck")) = some (.bl x.stuck) := by simp [ldF, dkOf, valD_cons, str_inj]
theorem ld_book : valD (ldF x bk) (.inr (Str.ofString "book")) = some (.int (bk : Int)) := by simp [ldF, dkOf, valD_cons, str_inj]
theorem ld_given : valD (ldF x bk) (.inr (Str.ofString "given")) = some (.ref x.y.given) := by simp [ldF, dkOf, valD_cons, str_inj]
theorem ld_own : valD (ldF x bk) (.inr (Str.ofString "own")) = some (.ref x.y.own) := by simp [ldF, dkOf, valD_cons, str_inj]
theorem lp_book {b : Nat} : putD (ldF x bk) (.inr (Str.ofString "book")) (.int (b : Int)) = ldF x b := by simp [ldF, dkOf, putD, str_inj]
theorem lp_stuck2 {b : Bool} : putD (ldF x bk) (.inr (Str.ofString "stuck")) (.bl b) = ldF { x with stuck := b } bk := by simp [ldF, dkOf, putD, str_inj]
theorem lp_book1 : putD (ldF x bk) (.inr (Str.ofString "book")) (.int ((bk : Int) + 1)) = ldF x (bk + 1) := lp_book (b := bk + 1)
theorem lu_told1 : putD (ownF q) (.inr (Str.ofString "told")) (.int ((q.told : Int) + 1)) = ownF { q with told := q.told + 1 } := lu_told (b := q.told + 1)
theorem lu_left1 : putD (ownF q) (.inr (Str.ofString "left")) (.int ((q.left : Int) + 1)) = ownF { q with left := q.left + 1 } := lu_left (b := q.left + 1)
theorem lu_leftS {m : Nat} : putD (ownF q) (.inr (Str.ofString "left")) (.int 1) = ownF { q with left := 1 } := lu_left (b := 1)
theorem lp_book0 : putD (ldF x bk) (.inr (Str.ofString "book")) (.int 0) = ldF x 0 := lp_book (b := 0)
end
abbrev ky (nm i : Nat) : List L2.Key := [.inl (nm : Int), .inl (i : Int)]
abbrev Kvs := List (List L2.Key × D)
abbrev OW := Nat → Nat → OSt
structure OwnT (W : Wd) (kvs : Kvs) (ow : OW) : Prop where
  at_ : ∀ nm i, (valD kvs (ky nm i) = none ∧ ow nm i = o0) ∨ ∃ q, valD kvs (ky nm i) = some (.ref q) ∧ W q = some (.dk (ownF (ow nm i)))
  inj : ∀ k1 k2 q, valD kvs k1 = some (.ref q) → valD kvs k2 = some (.ref q) → k1 = k2
  nd : (kvs.map (·.1)).Nodup
  kb : ∀ k ∈ kvs.map (·.1), ∃ nm i : Nat, k = ky nm i ∧ nm < 16 ∧ i < 16
theorem nodup_le : ∀ (n : Nat) (l : List Nat), l.Nodup → (∀ x ∈ l, x < n) → l.length ≤ n
  | 0, [], _, _ => Nat.le_refl _
  | 0, x :: l, _, h => absurd (h x List.mem_cons_self) (Nat.not_lt_zero _)
  | n + 1, l, nd, h => by
    have ih := nodup_le n (l.erase n) (nd.erase n) fun x hx => by
      have h1 := h x (List.mem_of_mem_erase hx)
      have h2 : x ≠ n := fun z => by
        rw [nd.mem_erase_iff] at hx
        exact hx.1 z
      omega
    by_cases hm : n ∈ l
    · rw [List.length_erase_of_mem hm] at ih; omega
    · rw [List.erase_of_not_mem hm] at ih; omega
def kyN : List L2.Key → Nat
  | [.inl a, .inl b] => a.toNat * 16 + b.toNat
  | _ => 0
theorem OwnT.len {W : Wd} {kvs : Kvs} {ow : OW} (h : OwnT W kvs ow) : kvs.length ≤ 256 := by
  have k := nodup_le 256 ((kvs.map (·.1)).map kyN) (by
    have := h.nd
    rw [List.nodup_iff_pairwise_ne] at this ⊢
    rw [List.pairwise_map]
    refine List.Pairwise.imp_of_mem (fun {a b} ha hb n z => n ?_) this
    obtain ⟨n1, i1, rfl, h1, h2⟩ := h.kb a ha
    obtain ⟨n2, i2, rfl, h3, h4⟩ := h.kb b hb
    simp only [kyN, Int.toNat_natCast] at z
    have e1 : n1 = n2 := by omega
    have e2 : i1 = i2 := by omega
    rw [e1, e2]) (fun x hx => by
    obtain ⟨a, ha, rfl⟩ := List.mem_map.mp hx
    obtain ⟨n1, i1, rfl, h1, h2⟩ := h.kb a ha
    simp only [kyN, Int.toNat_natCast]
    omega)
  rw [List.length_map, List.length_map] at k
  exact k
/-- the drawer's things -/
structure LdAt (W : Wd) (x : LC) (g : List Nat) (bk : Nat) (ls : List Int) (ow : OW) (kvs : Kvs) : Prop where
  d : W x.y.d = some (.dk (ldF x bk))
  lost : W x.y.lost = some (.lst (ls.map D.int))
  back : W x.y.back = some (.lst (x.back.map D.int))
  given : W x.y.given = some (.lst (g.map fun (g : Nat) => D.int (g : Int)))
  own : W x.y.own = some (.dt kvs)
  ot : OwnT W kvs ow
  n1 : x.y.lost ≠ x.y.back
  n2 : x.y.lost ≠ x.y.given
  n3 : x.y.back ≠ x.y.given
def InF (y : LA) (kvs : Kvs) (z : Addr) : Prop := z = y.d ∨ z = y.lost ∨ z = y.back ∨ z = y.given ∨ z = y.own ∨ ∃ k, valD kvs k = some (.ref z)
structure Fr (y : LA) (W : Wd) (kvs : Kvs) (W' : Wd) (kvs' : Kvs) : Prop where
  out : ∀ z, W z ≠ none → ¬ InF y kvs z → W' z = W z
  new : ∀ z, InF y kvs' z → InF y kvs z ∨ W z = none
  dom : ∀ z, W z ≠ none → W' z ≠ none
  val : ∀ k d, valD kvs k = some d → valD kvs' k = some d
theorem Fr.refl (y : LA) (W : Wd) (kvs : Kvs) : Fr y W kvs W kvs := ⟨fun _ _ _ => rfl, fun _ h => .inl h, fun _ h => h, fun _ _ h => h⟩
theorem InF.val {y : LA} {kvs kvs' : Kvs} {z : Addr} (h : ∀ k d, valD kvs k = some d → valD kvs' k = some d) : InF y kvs z → InF y kvs' z
  | .inl h1 => .inl h1
  | .inr (.inl h1) => .inr (.inl h1)
  | .inr (.inr (.inl h1)) => .inr (.inr (.inl h1))
  | .inr (.inr (.inr (.inl h1))) => .inr (.inr (.inr (.inl h1)))
  | .inr (.inr (.inr (.inr (.inl h1)))) => .inr (.inr (.inr (.inr (.inl h1))))
  | .inr (.inr (.inr (.inr (.inr ⟨k, h1⟩)))) => .inr (.inr (.inr (.inr (.inr ⟨k, h k _ h1⟩))))
theorem Fr.trans {y : LA} {W W1 W2 : Wd} {k k1 k2 : Kvs} (a : Fr y W k W1 k1) (b : Fr y W1 k1 W2 k2) : Fr y W k W2 k2 where
  out z h1 h2 := by
    have h3 : ¬ InF y k1 z := fun h => (a.new z h).elim h2 h1
    rw [b.out z (a.dom z h1) h3, a.out z h1 h2]
  new z h := (b.new z h).elim (fun h => a.new z h) fun h => .inr (by
    cases e : W z with
    | none => rfl
    | some o => exact absurd h (a.dom z (by rw [e]; simp)))
  dom z h := b.dom z (a.dom z h)
  val k d h := b.val k d (a.val k d h)
section
variable {W : Wd} {x : LC} {g : List Nat} {bk : Nat} {ls : List Int} {ow : OW} {kvs : Kvs}
theorem OwnT.frame {W' : Wd} (h : OwnT W kvs ow) (k : ∀ key q, valD kvs key = some (.ref q) → W' q = W q) : OwnT W' kvs ow :=
  ⟨fun nm i => (h.at_ nm i).imp id fun ⟨q, h1, h2⟩ => ⟨q, h1, by rw [k _ _ h1]; exact h2⟩, h.inj, h.nd, h.kb⟩
theorem LdAt.qd (h : LdAt W x g bk ls ow kvs) {key : List L2.Key} {q : Addr} (hq : valD kvs key = some (.ref q)) : ∃ o, W q = some (.dk (ownF o)) := by
  unfold valD at hq
  cases e : kvs.find? (fun kv => decide (kv.1 = key)) with
  | none => rw [e] at hq; cases hq
  | some p =>
    have hp := List.find?_some e
    have hk : p.1 = key := of_decide_eq_true hp
    obtain ⟨nm, i, ek, _⟩ := h.ot.kb key (hk ▸ List.mem_map.mpr ⟨p, List.mem_of_find?_eq_some e, rfl⟩)
    subst ek
    rcases h.ot.at_ nm i with ⟨h1, _⟩ | ⟨q', h1, h2⟩
    · unfold valD at h1; rw [e] at h1; cases h1
    · have : valD kvs (ky nm i) = some (.ref q) := by unfold valD; rw [e]; rw [e] at hq; exact hq
      rw [this] at h1; cases h1
      exact ⟨_, h2⟩
theorem LdAt.qn (h : LdAt W x g bk ls ow kvs) {key : List L2.Key} {q : Addr} (hq : valD kvs key = some (.ref q)) : q ≠ x.y.d ∧ q ≠ x.y.lost ∧ q ≠ x.y.back ∧ q ≠ x.y.given ∧ q ≠ x.y.own := by
  obtain ⟨o, e⟩ := h.qd hq
  refine ⟨fun z => ?_, fun z => ?_, fun z => ?_, fun z => ?_, fun z => ?_⟩
  · rw [z, h.d] at e
    have e := congrArg (fun o => match o with | some (Ob.dk l) => l.length | _ => 0) e
    simp only [ln_own, ln_ld] at e
    omega
  · rw [z, h.lost] at e; cases e
  · rw [z, h.back] at e; cases e
  · rw [z, h.given] at e; cases e
  · rw [z, h.own] at e; cases e
theorem LdAt.known (h : LdAt W x g bk ls ow kvs) {z : Addr} (hz : InF x.y kvs z) : W z ≠ none := by
  rcases hz with rfl | rfl | rfl | rfl | rfl | ⟨k, hk⟩
  · rw [h.d]; simp
  · rw [h.lost]; simp
  · rw [h.back]; simp
  · rw [h.given]; simp
  · rw [h.own]; simp
  · obtain ⟨o, e⟩ := h.qd hk; rw [e]; simp
/-- all but the drawer's things may change -/
theorem LdAt.frame {W' : Wd} (h : LdAt W x g bk ls ow kvs) (k : ∀ z, InF x.y kvs z → W' z = W z) : LdAt W' x g bk ls ow kvs :=
  ⟨by rw [k _ (.inl rfl)]; exact h.d, by rw [k _ (.inr (.inl rfl))]; exact h.lost, by rw [k _ (.inr (.inr (.inl rfl)))]; exact h.back, by rw [k _ (.inr (.inr (.inr (.inl rfl))))]; exact h.given, by rw [k _ (.inr (.inr (.inr (.inr (.inl rfl)))))]; exact h.own,
    h.ot.frame fun key q hq => k q (.inr (.inr (.inr (.inr (.inr ⟨key, hq⟩))))), h.n1, h.n2, h.n3⟩
theorem LdAt.out {p : Addr} {ob : Ob} (h : LdAt W x g bk ls ow kvs) (hp : ¬ InF x.y kvs p) : LdAt (put W p ob) x g bk ls ow kvs := h.frame fun z hz => put_ne fun e => hp (e ▸ hz)
theorem LdAt.new {p : Addr} {ob : Ob} (h : LdAt W x g bk ls ow kvs) (hp : W p = none) : LdAt (put W p ob) x g bk ls ow kvs ∧ Fr x.y W kvs (put W p ob) kvs :=
  ⟨h.out fun z => h.known z hp, fun z hz _ => put_ne fun e => hz (e ▸ hp), fun _ h => .inl h, fun z hz => by rw [put_ne fun e => hz (by rw [e]; exact hp)]; exact hz, fun _ _ h => h⟩
theorem Fr.put {y : LA} {p : Addr} {ob : Ob} (hp : InF y kvs p) : Fr y W kvs (put W p ob) kvs :=
  ⟨fun z _ n => put_ne fun e => n (e ▸ hp), fun _ h => .inl h, fun z hz => by unfold DL.put; split; simp; exact hz, fun _ _ h => h⟩
theorem ne_ob {a b : Addr} {o1 o2 : Ob} (h1 : W a = some o1) (h2 : W b = some o2) (h : o1 ≠ o2) : a ≠ b := fun e => h (by rw [e, h2] at h1; exact (Option.some.inj h1).symm)
theorem LdAt.ne (h : LdAt W x g bk ls ow kvs) : (x.y.d ≠ x.y.lost ∧ x.y.d ≠ x.y.back ∧ x.y.d ≠ x.y.given ∧ x.y.d ≠ x.y.own) ∧ x.y.own ≠ x.y.lost ∧ x.y.own ≠ x.y.back ∧ x.y.own ≠ x.y.given :=
  ⟨⟨ne_ob h.d h.lost (by simp), ne_ob h.d h.back (by simp), ne_ob h.d h.given (by simp), ne_ob h.d h.own (by simp)⟩, ne_ob h.own h.lost (by simp), ne_ob h.own h.back (by simp), ne_ob h.own h.given (by simp)⟩
theorem LdAt.setD (h : LdAt W x g bk ls ow kvs) {x' : LC} {bk' : Nat} (hy : x'.y = x.y) (hb : x'.back = x.back) : LdAt (put W x.y.d (.dk (ldF x' bk'))) x' g bk' ls ow kvs ∧ Fr x.y W kvs (put W x.y.d (.dk (ldF x' bk'))) kvs := by
  obtain ⟨⟨a1, a2, a3, a4⟩, _⟩ := h.ne
  refine ⟨⟨by rw [hy, put_same], by rw [hy, put_ne a1.symm]; exact h.lost, by rw [hy, hb, put_ne a2.symm]; exact h.back, by rw [hy, put_ne a3.symm]; exact h.given, by rw [hy, put_ne a4.symm]; exact h.own, h.ot.frame fun key q hq => put_ne (h.qn hq).1, by rw [hy]; exact h.n1, by rw [hy]; exact h.n2, by rw [hy]; exact h.n3⟩, Fr.put (.inl rfl)⟩
theorem LdAt.setGiven (h : LdAt W x g bk ls ow kvs) (g' : List Nat) : LdAt (put W x.y.given (.lst (g'.map fun (g : Nat) => D.int (g : Int)))) x g' bk ls ow kvs ∧ Fr x.y W kvs (put W x.y.given (.lst (g'.map fun (g : Nat) => D.int (g : Int)))) kvs := by
  obtain ⟨⟨a1, a2, a3, a4⟩, b1, b2, b3⟩ := h.ne
  exact ⟨⟨by rw [put_ne a3]; exact h.d, by rw [put_ne h.n2]; exact h.lost, by rw [put_ne h.n3]; exact h.back, put_same, by rw [put_ne b3]; exact h.own, h.ot.frame fun key q hq => put_ne (h.qn hq).2.2.2.1, h.n1, h.n2, h.n3⟩, Fr.put (.inr (.inr (.inr (.inl rfl))))⟩
theorem LdAt.setLost (h : LdAt W x g bk ls ow kvs) (ls' : List Int) : LdAt (put W x.y.lost (.lst (ls'.map D.int))) x g bk ls' ow kvs ∧ Fr x.y W kvs (put W x.y.lost (.lst (ls'.map D.int))) kvs := by
  obtain ⟨⟨a1, a2, a3, a4⟩, b1, b2, b3⟩ := h.ne
  exact ⟨⟨by rw [put_ne a1]; exact h.d, put_same, by rw [put_ne h.n1.symm]; exact h.back, by rw [put_ne h.n2.symm]; exact h.given, by rw [put_ne b1]; exact h.own, h.ot.frame fun key q hq => put_ne (h.qn hq).2.1, h.n1, h.n2, h.n3⟩, Fr.put (.inr (.inl rfl))⟩
theorem LdAt.setBack (h : LdAt W x g bk ls ow kvs) (bs : List Int) : LdAt (put W x.y.back (.lst (bs.map D.int))) { x with back := bs } g bk ls ow kvs ∧ Fr x.y W kvs (put W x.y.back (.lst (bs.map D.int))) kvs := by
  obtain ⟨⟨a1, a2, a3, a4⟩, b1, b2, b3⟩ := h.ne
  exact ⟨⟨by rw [put_ne a2]; exact h.d, by rw [put_ne h.n1]; exact h.lost, put_same, by rw [put_ne h.n3.symm]; exact h.given, by rw [put_ne b2]; exact h.own, h.ot.frame fun key q hq => put_ne (h.qn hq).2.2.1, h.n1, h.n2, h.n3⟩, Fr.put (.inr (.inr (.inl rfl)))⟩
def upo (ow : OW) (nm i : Nat) (o : OSt) : OW := fun a b => if a = nm ∧ b = i then o else ow a b
theorem upo_same {nm i : Nat} {o : OSt} : upo ow nm i o nm i = o := if_pos ⟨rfl, rfl⟩
theorem upo_ne {nm i a b : Nat} {o : OSt} (h : ¬ (a = nm ∧ b = i)) : upo ow nm i o a b = ow a b := if_neg h
theorem upo_upo {nm i : Nat} {o o' : OSt} : upo (upo ow nm i o) nm i o' = upo ow nm i o' := by
  funext a b; unfold upo; split <;> rfl
theorem ky_inj {a b c d : Nat} (h : ky a b = ky c d) : a = c ∧ b = d := by
  injection h with h1 h2
  injection h2 with h2 _
  injection h1 with h1
  injection h2 with h2
  exact ⟨by omega, by omega⟩
theorem LdAt.setOwn (h : LdAt W x g bk ls ow kvs) {nm i : Nat} {q : Addr} (hq : valD kvs (ky nm i) = some (.ref q)) (o : OSt) : LdAt (put W q (.dk (ownF o))) x g bk ls (upo ow nm i o) kvs ∧ Fr x.y W kvs (put W q (.dk (ownF o))) kvs := by
  obtain ⟨a1, a2, a3, a4, a5⟩ := h.qn hq
  refine ⟨⟨by rw [put_ne a1.symm]; exact h.d, by rw [put_ne a2.symm]; exact h.lost, by rw [put_ne a3.symm]; exact h.back, by rw [put_ne a4.symm]; exact h.given, by rw [put_ne a5.symm]; exact h.own, ⟨fun n j => ?_, h.ot.inj, h.ot.nd, h.ot.kb⟩, h.n1, h.n2, h.n3⟩, Fr.put (.inr (.inr (.inr (.inr (.inr ⟨_, hq⟩)))))⟩
  by_cases e : n = nm ∧ j = i
  · obtain ⟨rfl, rfl⟩ := e
    rw [upo_same]
    exact .inr ⟨q, hq, put_same⟩
  · rw [upo_ne e]
    rcases h.ot.at_ n j with h1 | ⟨q', h1, h2⟩
    · exact .inl h1
    · refine .inr ⟨q', h1, ?_⟩
      rw [put_ne fun z => e (ky_inj (h.ot.inj _ _ _ h1 (by rw [z]; exact hq)))]
      exact h2
theorem LdAt.own_at (h : LdAt W x g bk ls ow kvs) {nm i : Nat} {q : Addr} (hq : valD kvs (ky nm i) = some (.ref q)) : W q = some (.dk (ownF (ow nm i))) := by
  rcases h.ot.at_ nm i with ⟨h1, _⟩ | ⟨q', h1, h2⟩
  · rw [h1] at hq; cases hq
  · rw [h1] at hq; cases hq; exact h2
theorem valD_app {k key : List L2.Key} {v : D} : ∀ {kvs : Kvs}, valD kvs k = none → valD (kvs ++ [(k, v)]) key = if key = k then some v else valD kvs key
  | [], _ => by
    rw [List.nil_append, valD_cons]
    by_cases e : key = k
    · rw [if_pos e, if_pos e.symm]
    · rw [if_neg e, if_neg fun z => e z.symm]
  | p :: r, h => by
    rw [valD_cons] at h
    by_cases e1 : p.1 = k
    · rw [if_pos e1] at h; cases h
    · rw [if_neg e1] at h
      rw [List.cons_append, valD_cons, valD_cons, valD_app h]
      by_cases e2 : p.1 = key
      · rw [if_pos e2, if_pos e2, if_neg fun z => e1 (e2.trans z)]
      · rw [if_neg e2, if_neg e2]
theorem valD_mem {key : List L2.Key} : ∀ {kvs : Kvs}, valD kvs key = none → key ∉ kvs.map (·.1)
  | [], _ => by simp
  | p :: r, h => by
    rw [valD_cons] at h
    by_cases e1 : p.1 = key
    · rw [if_pos e1] at h; cases h
    · rw [if_neg e1] at h
      rw [List.map_cons, List.mem_cons, not_or]
      exact ⟨fun z => e1 z.symm, valD_mem h⟩
theorem putD_new {key : List L2.Key} {v : D} (h : valD kvs key = none) : putD kvs key v = kvs ++ [(key, v)] := by
  unfold putD
  rw [if_neg]
  intro z
  obtain ⟨p, hp, e⟩ := List.any_eq_true.mp z
  exact valD_mem h (List.mem_map.mpr ⟨p, hp, of_decide_eq_true e⟩)
theorem LdAt.newKey (h : LdAt W x g bk ls ow kvs) {nm i : Nat} {p : Addr} (hk : valD kvs (ky nm i) = none) (b1 : nm < 16) (b2 : i < 16) (hp : W p = none) :
    LdAt (put (put W p (.dk (ownF o0))) x.y.own (.dt (putD kvs (ky nm i) (.ref p)))) x g bk ls ow (putD kvs (ky nm i) (.ref p)) ∧ Fr x.y W kvs (put (put W p (.dk (ownF o0))) x.y.own (.dt (putD kvs (ky nm i) (.ref p)))) (putD kvs (ky nm i) (.ref p)) ∧ valD (putD kvs (ky nm i) (.ref p)) (ky nm i) = some (.ref p) := by
  obtain ⟨⟨a1, a2, a3, a4⟩, c1, c2, c3⟩ := h.ne
  rw [putD_new hk]
  have kn : ∀ z, InF x.y kvs z → z ≠ p := fun z hz e => h.known hz (e ▸ hp)
  have o_p : x.y.own ≠ p := kn _ (.inr (.inr (.inr (.inr (.inl rfl)))))
  have oth : ∀ z, z ≠ x.y.own → z ≠ p → put (put W p (.dk (ownF o0))) x.y.own (.dt (kvs ++ [(ky nm i, .ref p)])) z = W z := fun z h1 h2 => by rw [put_ne h1, put_ne h2]
  have vp : valD (kvs ++ [(ky nm i, D.ref p)]) (ky nm i) = some (.ref p) := by rw [valD_app hk, if_pos rfl]
  refine ⟨⟨by rw [oth _ a4 (kn _ (.inl rfl))]; exact h.d, by rw [oth _ c1.symm (kn _ (.inr (.inl rfl)))]; exact h.lost, by rw [oth _ c2.symm (kn _ (.inr (.inr (.inl rfl))))]; exact h.back, by rw [oth _ c3.symm (kn _ (.inr (.inr (.inr (.inl rfl)))))]; exact h.given, put_same, ⟨fun n j => ?_, fun k1 k2 q e1 e2 => ?_, ?_, fun k hk2 => ?_⟩, h.n1, h.n2, h.n3⟩, ⟨fun z h1 h2 => oth z (fun e => h2 (.inr (.inr (.inr (.inr (.inl e)))))) (fun e => h1 (e ▸ hp)), fun z hz => ?_, fun z hz => ?_, fun k d e => ?_⟩, vp⟩
  · rw [valD_app hk]
    by_cases e : ky n j = ky nm i
    · obtain ⟨rfl, rfl⟩ := ky_inj e
      rw [if_pos rfl]
      rcases h.ot.at_ n j with ⟨_, h2⟩ | ⟨q', h1, h2⟩
      · refine .inr ⟨p, rfl, ?_⟩
        rw [h2, put_ne o_p.symm, put_same]
      · rw [h1] at hk; cases hk
    · rw [if_neg e]
      rcases h.ot.at_ n j with h1 | ⟨q', h1, h2⟩
      · exact .inl h1
      · refine .inr ⟨q', h1, ?_⟩
        rw [oth _ (h.qn h1).2.2.2.2 (kn _ (.inr (.inr (.inr (.inr (.inr ⟨_, h1⟩))))))]
        exact h2
  · rw [valD_app hk] at e1 e2
    by_cases f1 : k1 = ky nm i
    · rw [if_pos f1] at e1
      by_cases f2 : k2 = ky nm i
      · rw [f1, f2]
      · rw [if_neg f2] at e2
        cases e1
        exact absurd rfl (kn _ (.inr (.inr (.inr (.inr (.inr ⟨_, e2⟩))))))
    · rw [if_neg f1] at e1
      by_cases f2 : k2 = ky nm i
      · rw [if_pos f2] at e2
        cases e2
        exact absurd rfl (kn _ (.inr (.inr (.inr (.inr (.inr ⟨_, e1⟩))))))
      · rw [if_neg f2] at e2
        exact h.ot.inj _ _ _ e1 e2
  · rw [List.map_append]
    exact nd_snoc h.ot.nd (valD_mem hk)
  · rw [List.map_append] at hk2
    rcases List.mem_append.mp hk2 with hk2 | hk2
    · exact h.ot.kb k hk2
    · exact ⟨nm, i, by simpa using hk2, b1, b2⟩
  · rcases hz with rfl | rfl | rfl | rfl | rfl | ⟨k, e⟩
    · exact .inl (.inl rfl)
    · exact .inl (.inr (.inl rfl))
    · exact .inl (.inr (.inr (.inl rfl)))
    · exact .inl (.inr (.inr (.inr (.inl rfl))))
    · exact .inl (.inr (.inr (.inr (.inr (.inl rfl)))))
    · rw [valD_app hk] at e
      by_cases f : k = ky nm i
      · rw [if_pos f] at e; cases e; exact .inr hp
      · rw [if_neg f] at e; exact .inl (.inr (.inr (.inr (.inr (.inr ⟨k, e⟩)))))
  · by_cases e : z = x.y.own
    · rw [e, put_same]; simp
    · rw [oth z e fun e2 => hz (e2 ▸ hp)]; exact hz
  · rw [valD_app hk, if_neg fun f => by rw [f, hk] at e; cases e]
    exact e
end
def stR (o : Op) (s : LSt) (q : OSt) : Prop := q.over = s.over ∧ q.told = s.told ∧ match o with
  | .drop m => s.left = min q.left m.toNat
  | .each _ => q.left = s.left ∧ (s.left ≠ 0 → q.last = s.last)
  | .unlike => s.told ≠ 0 → q.last = s.last
  | .take m => s.told ≤ m.toNat
  | _ => True
def RelO : Ch → Nat → Sd → OW → Prop
  | .src _, _, .src _, _ => True
  | .op c o, k, .op n s, ow => RelO c k n ow ∧ stR o s (ow k (c.stl.length + 1))
  | .both c i, k, .two n j s, ow => RelO c k n ow ∧ RelO i (k + c.mks.length) j ow ∧ (ow k (c.stl.length + 1)).over = s.over ∧ (ow k (c.stl.length + 1)).told = s.told
  | .thn c i, k, .two n j s, ow => RelO c k n ow ∧ RelO i (k + c.mks.length) j ow ∧ (ow k (c.stl.length + 1)).over = s.over ∧ (ow k (c.stl.length + 1)).told = s.told ∧ (ow k (c.stl.length + 1)).left = s.left ∧ s.left ≤ 1
  | _, _, _, _ => False
/-- the keys of a chain's stages -/
def Inr (c : Ch) (k : Nat) (nm i : Nat) : Prop := (nm = k ∧ i ≤ c.stl.length) ∨ (k < nm ∧ nm < k + c.mks.length)
def Out (c : Ch) (k : Nat) (ow ow' : OW) : Prop := ∀ nm i, ¬ Inr c k nm i → ow' nm i = ow nm i
theorem stl_op {c : Ch} {o : Op} : (Ch.op c o).stl.length = c.stl.length + 1 := by simp [Ch.stl]
theorem stl_both {c i : Ch} : (Ch.both c i).stl.length = c.stl.length + 1 := by simp [Ch.stl]
theorem stl_thn {c i : Ch} : (Ch.thn c i).stl.length = c.stl.length + 1 := by simp [Ch.stl]
theorem mks_both {c i : Ch} : (Ch.both c i).mks.length = c.mks.length + i.mks.length := by simp [Ch.mks]
theorem mks_thn {c i : Ch} : (Ch.thn c i).mks.length = c.mks.length + i.mks.length := by simp [Ch.mks]
theorem mks_op {c : Ch} {o : Op} : (Ch.op c o).mks.length = c.mks.length := by simp [Ch.mks]
theorem RelO.frame : ∀ {c : Ch} {k : Nat} {sd : Sd} {ow ow' : OW}, RelO c k sd ow → (∀ nm i, Inr c k nm i → ow' nm i = ow nm i) → RelO c k sd ow'
  | .src _, _, .src _, _, _, _, _ => trivial
  | .op c o, k, .op n s, ow, ow', ⟨h1, h2⟩, f => by
    refine ⟨h1.frame fun nm i h => f nm i ?_, by rw [f _ _ (.inl ⟨rfl, by rw [stl_op]; exact Nat.le_refl _⟩)]; exact h2⟩
    unfold Inr at h ⊢
    rw [stl_op, mks_op]
    omega
  | .both c i, k, .two n j s, ow, ow', ⟨h1, h2, h3⟩, f => by
    have mp := mks_pos c
    have mp2 := mks_pos i
    refine ⟨h1.frame fun nm a h => f nm a ?_, h2.frame fun nm a h => f nm a ?_, by rw [f _ _ (.inl ⟨rfl, by rw [stl_both]; exact Nat.le_refl _⟩)]; exact h3⟩
    · unfold Inr at h ⊢
      rw [stl_both, mks_both]
      omega
    · unfold Inr at h ⊢
      rw [stl_both, mks_both]
      omega
  | .thn c i, k, .two n j s, ow, ow', ⟨h1, h2, h3⟩, f => by
    have mp := mks_pos c
    have mp2 := mks_pos i
    refine ⟨h1.frame fun nm a h => f nm a ?_, h2.frame fun nm a h => f nm a ?_, by rw [f _ _ (.inl ⟨rfl, by rw [stl_thn]; exact Nat.le_refl _⟩)]; exact h3⟩
    · unfold Inr at h ⊢
      rw [stl_thn, mks_thn]
      omega
    · unfold Inr at h ⊢
      rw [stl_thn, mks_thn]
      omega
theorem Out.refl (c : Ch) (k : Nat) (ow : OW) : Out c k ow ow := fun _ _ _ => rfl
theorem Out.trans {c : Ch} {k : Nat} {a b d : OW} (h1 : Out c k a b) (h2 : Out c k b d) : Out c k a d := fun nm i h => (h2 nm i h).trans (h1 nm i h)
theorem relO_start : ∀ (c : Ch) (k : Nat), RelO c k (start c) fun _ _ => o0
  | .src _, _ => trivial
  | .op c o, k => ⟨relO_start c k, rfl, rfl, by cases o <;> simp [o0, st0]⟩
  | .both c i, k => ⟨relO_start c k, relO_start i _, rfl, rfl⟩
  | .thn c i, k => ⟨relO_start c k, relO_start i _, rfl, rfl, rfl, by simp [st0]⟩
def ansD : W3 → Int → D
  | .num, k => .lst [.int k]
  | w, _ => .str (wordOf w)
end DL
end
section
namespace DL
open PySem PySem.Spec PyProof.Rows L2
theorem hu1 {u : Nat} (h : u + 64 < cLine) : u + 1 < cLine := by omega
theorem ixN_nat {n j : Nat} (h : j < n) : ixN n (j : Int) = some j := by
  unfold ixN
  rw [if_pos (by omega), if_pos (by omega)]
  rfl
end DL
end
section
set_option maxRecDepth 100000
set_option maxHeartbeats 4000000
namespace LamV
open PySem PySem.Spec PyProof.Rows L2 LamX
section
variable {X : Cx} {pins : List (Addr × Obj)} {σ : L2.St} {H H1 : Hp} {s s1 : Shared}
theorem get_none {h : Heap} {f : Addr} (l : h.objs.size ≤ f) : h.get? f = none := by
  cases e : h.get? f with
  | none => rfl
  | some o => exact absurd (Heap.lt_size e) (Nat.not_lt.mpr l)
/-- what is new since s may be known from now on -/
theorem track {f : Addr} {ho : HO} (I0 : Inv X pins σ H s) (I1 : Inv X pins σ H1 s1) (h0 : s.heap.get? f = none) (hn : H1 f = none) (new : ObjOk X.prog X.w (upd H1 f ho) s1.heap f ho) : Inv X pins σ (upd H1 f ho) s1 := by
  have nz : ∀ b u, s.heap.get? b = some u → b ≠ f := fun b u e z => by rw [z, h0] at e; cases e
  have nL : X.env.locals ≠ f := by
    obtain ⟨m, ⟨o, _, _, e, _⟩, _⟩ := I0.loc
    exact nz _ _ e
  have nC : ∀ x c, X.env.cells.lookup x = some c → c ≠ f := fun x c e => by
    obtain ⟨v, o, e1, _⟩ := I0.cell x c e
    exact nz _ _ e1
  refine ⟨I1.ok, I1.os, I1.bare, ⟨I1.base.keep, I1.base.slot, fun b o e n hx => ?_, I1.base.there, fun b xs e => ?_, fun b o u e => ?_, fun b ps e => ?_⟩, I1.loc, I1.cell, ?_, fun x c e => ?_, fun p hp => ?_, L2.HOk.laidN I1.hok (fun b u e => e) hn new, I1.len⟩
  · obtain ⟨o', e'⟩ := I0.base.there b o e hx
    rw [upd_ne (nz b o' e')]
    exact I1.base.free b o e n hx
  · have k := I1.base.tups b xs e
    rw [upd_ne (ne_of_none k hn)]; exact k
  · have k := I1.base.frzs b o u e
    rw [upd_ne (ne_of_none k hn)]; exact k
  · obtain ⟨m, k⟩ := I1.base.tbls b ps e
    exact ⟨m, by rw [upd_ne (ne_of_none k hn)]; exact k⟩
  · rw [upd_ne nL]; exact I1.free
  · rw [upd_ne (nC x c e)]; exact I1.freeC x c e
  · obtain ⟨e, n, r⟩ := I1.pin p hp
    have e0 := (I0.pin p hp).1
    exact ⟨e, by rw [upd_ne (nz _ _ e0)]; exact n, r⟩
theorem size_of {b : Addr} {h : Heap} {o : Obj} (e : h.get? b = some o) : b < h.objs.size := Heap.lt_size e
/-- a lambda is made; it is known of from now on -/
theorem lam_new {T : List (Addr × Str)} {c P : Addr} {pr : Arguments} {bd : Expr} {sc : Scope} {pos : Pos} {E : Value → Shared → Prop} {Q : Value → Shared → Prop} (I : Inv X pins σ H s) (TB : TabB X.base X.mg c P) (hcode : X.env.code = .ref c)
    (hm : (P, X.env.qual ++ "<lambda>") ∈ T) (hu : ∀ p ∈ T, p.1 = P → p.2 = X.env.qual ++ "<lambda>") (hT : Tabs T H) (hdef : defaultsOf pr X.env = ([], [])) (hfree : ∀ y ∈ sc.names, y.2 = .free → ∃ c, X.env.cells.lookup y.1 = some c)
    (h : ∀ (f cd : Addr) (pm ct : Value) (H1 : Hp) (s' : Shared), Inv X pins σ (upd H1 f (LamO (X.env.qual ++ "<lambda>") pr bd sc (cloFrom X.env.cells sc.names []) cd pm ct)) s' → ExtN H H1 → Tabs T H1 → H1 f = none → H1 cd = some (CodeO cd (X.env.qual ++ "<lambda>")) → H f = none → Q (.ref f) s') :
    wpAny (model X.prog X.w) X.A (eval (.Lambda pr bd sc pos) X.env) Q E s := by
  obtain ⟨ps, tP, t3, among⟩ := hT _ hm
  have bp : s.heap.BuiltinsAt X.mg P := TB.bm.keeps I.bk
  have oP : s.heap.get? P = some { cls := .none, data := .fields ps } := I.hok P _ tP
  refine PySem.W.kla_eval hdef ?_
  cases hit : codeAmong pos ps.toList with
  | none =>
    refine PySem.W.kla_makeFunction (mg := X.mg) (c := c) (P := P) (ps := ps) (closure_ok hfree) I.ok.glob (I.mod.glob.keeps I.bk) hcode (TB.code.keeps I.bk) oP t3 hit TB.gP bp fun cd ct h' tk grow ge lt rec tab => ?_
    obtain ⟨_, oc, vs, t, ec, e1, e2, e3⟩ := rec
    cases ec
    have big : s.heap.objs.size ≤ h'.objs.size := Nat.le_trans ge (Nat.le_of_lt lt)
    have fr : H cd = none := I.hok.fresh ge
    have I1 := inv_table (q := X.env.qual ++ "<lambda>") (t' := tk) (more := #[rawInt pos.line, rawInt pos.col, .ref cd]) (h' := h'.push (PySem.W.kla_obj "<lambda>" (X.env.qual ++ "<lambda>") pr bd sc (cloFrom X.env.cells sc.names []) ((X.mg "__name__").getD .none) cd ct)) I tP
      (fun b o hb e => Heap.get?_push_of_some _ (grow b o hb e)) (Heap.get?_push_of_some _ tab) ge ⟨oc, vs, t, Heap.get?_push_of_some _ e1, e2, e3⟩
    have ext : ExtN H (upd (upd H P (.tbl (ps ++ #[rawInt pos.line, rawInt pos.col, .ref cd]))) cd (CodeO cd (X.env.qual ++ "<lambda>"))) := fun b o e n => by
      rw [upd_ne (ne_of_none e fr), upd_ne (fun z => n ps (Option.some.inj (e.symm.trans (by rw [z]; exact tP))))]
      exact e
    have list : (ps ++ #[rawInt pos.line, rawInt pos.col, .ref cd]).toList = ps.toList ++ [rawInt pos.line, rawInt pos.col, .ref cd] := by simp
    have nf : upd (upd H P (.tbl (ps ++ #[rawInt pos.line, rawInt pos.col, .ref cd]))) cd (CodeO cd (X.env.qual ++ "<lambda>")) h'.objs.size = none := by
      rw [upd_ne (Nat.ne_of_gt lt), upd_ne (Nat.ne_of_gt (Nat.lt_of_lt_of_le (size_of oP) big))]
      exact I.hok.fresh big
    refine h h'.objs.size cd ((X.mg "__name__").getD .none) ct _ _ (track I I1 (get_none big) nf ⟨Heap.get?_push_size _ rfl, ⟨_, Heap.get?_push_size _ rfl⟩⟩) ext (fun p hp => ?_) nf upd_same (I.hok.fresh big)
    by_cases e : p.1 = P
    · rw [hu p hp e, e]
      refine ⟨_, by rw [upd_ne (ne_of_none tP fr), upd_same], by rw [list]; exact PySem.TriplesOk_snoc _ _ _ _ t3, fun p' cv m => ?_⟩
      rw [list] at m
      rcases among_app _ t3 m with z | z
      · obtain ⟨c0, z1, z2⟩ := among p' cv z
        exact ⟨c0, z1, ext _ _ z2 codeO_ne⟩
      · exact ⟨cd, z, upd_same⟩
    · obtain ⟨qs, a1, a2, a3⟩ := hT p hp
      refine ⟨qs, by rw [upd_ne (ne_of_none a1 fr), upd_ne e]; exact a1, a2, fun p' cv m => ?_⟩
      obtain ⟨c0, z1, z2⟩ := a3 p' cv m
      exact ⟨c0, z1, ext _ _ z2 codeO_ne⟩
  | some cv =>
    obtain ⟨cd, rfl, known⟩ := among pos cv hit
    refine PySem.W.kla_makeFunctionHit (mg := X.mg) (c := c) (P := P) (ps := ps) (closure_ok hfree) I.ok.glob (I.mod.glob.keeps I.bk) hcode (TB.code.keeps I.bk) oP t3 hit bp fun ct h' tk grow big => ?_
    have I1 : Inv X pins σ H { s with heap := h'.push (PySem.W.kla_obj "<lambda>" (X.env.qual ++ "<lambda>") pr bd sc (cloFrom X.env.cells sc.names []) ((X.mg "__name__").getD .none) cd ct), toks := tk } := I.kept fun b o e => Heap.get?_push_of_some _ (grow b o e)
    exact h h'.objs.size cd ((X.mg "__name__").getD .none) ct H _ (track I I1 (get_none big) (I.hok.fresh big) ⟨Heap.get?_push_size _ rfl, ⟨_, Heap.get?_push_size _ rfl⟩⟩) (ExtN.refl H) hT (I.hok.fresh big) known (I.hok.fresh big)
end
def forget (H : Hp) (c : Addr) : Hp := fun b => if b = c then none else H b
theorem forget_same {H : Hp} {c : Addr} : forget H c c = none := by unfold forget; rw [if_pos rfl]
theorem forget_ne {H : Hp} {b c : Addr} (h : b ≠ c) : forget H c b = H b := by unfold forget; rw [if_neg h]
section
variable {P : Program} {w : World} {H : Hp} {c : Addr} {ob : Obj} {outer : List Env} {s s' : Shared}
theorem fix_ext {b : Addr} {u : HO} (hc : H c = some (Fix ob)) (e : H b = some u) (n : u ≠ Fix ob) : b ≠ c := fun z => by
  rw [z, hc] at e
  exact n (Option.some.inj e).symm
theorem forget_ok {h : Heap} (x : HOk P w H h) (hc : H c = some (Fix ob)) : HOk P w (forget H c) h := fun b u e => by
  have hb : b ≠ c := fun z => by rw [z, forget_same] at e; cases e
  rw [forget_ne hb] at e
  refine (x b u e).stay (fun d v _ q => q) (fun d q => ?_) fun d xs q => ?_
  · rw [forget_ne (fun z => by rw [z, hc] at q; cases q)]; exact q
  · rw [forget_ne (fun z => by rw [z, hc] at q; cases q)]; exact q
theorem CE.again {Q Q' : VK} {u : Value} (hok : HOk P w H s.heap) (hc : H c = some (Fix ob)) (cf : c ∉ frs outer) (k : ∀ v H', Q v H' → H' c = none → Q' v (upd H' c (Fix ob))) (h : CE outer P w (forget H c) s Q u s') : CE outer P w H s Q' u s' := by
  obtain ⟨v, H', os, bare, un, ok, r, q⟩ := h
  obtain ⟨ho, _⟩ := hok c _ hc
  have n' : H' c = none := un.free c ob ho forget_same (by simp)
  have kc : s'.heap.get? c = some ob := un.keep c ob ho forget_same cf (by simp)
  have nb : ∀ b, H b = none → b ≠ c := fun b e z => by rw [z, hc] at e; cases e
  have fo : ∀ b, H b = none → forget H c b = none := fun b e => by rw [forget_ne (nb b e)]; exact e
  refine ⟨v, upd H' c (Fix ob), os, bare, ⟨fun b o e n => un.keep b o e (fo b n), fun b o e n => un.slot b o e (fo b n), fun b o e n x => ?_, un.there, fun b xs e => ?_, fun b o u e => ?_, fun b ps e => ?_⟩, L2.HOk.laidN ok (fun b u e => e) n' ⟨kc, ⟨ob, kc⟩⟩, r, k v H' q n'⟩
  · rw [upd_ne (nb b n)]; exact un.free b o e (fo b n) x
  · have z := un.tups b xs (by rw [forget_ne (fix_ext hc e (fun z => by cases z))]; exact e)
    rw [upd_ne (ne_of_none z n')]; exact z
  · by_cases hb : b = c
    · rw [hb, hc] at e
      rw [hb, upd_same]; exact e
    · have z := un.frzs b o u (by rw [forget_ne hb]; exact e)
      rw [upd_ne hb]; exact z
  · obtain ⟨m, z⟩ := un.tbls b ps (by rw [forget_ne (fix_ext hc e (fun z => by cases z))]; exact e)
    exact ⟨m, by rw [upd_ne (ne_of_none z n')]; exact z⟩
theorem CX.again {E E' : XK} {u : Value} (hok : HOk P w H s.heap) (hc : H c = some (Fix ob)) (cf : c ∉ frs outer) (k : ∀ cls d H', E cls d H' → H' c = none → E' cls d (upd H' c (Fix ob))) (h : L2.CX P w outer (forget H c) s E u s') : L2.CX P w outer H s E' u s' := by
  obtain ⟨a, B, H', cls, d, rfl, fl, ok, un, na, os, bare, q⟩ := h
  obtain ⟨ho, _⟩ := hok c _ hc
  have n' : H' c = none := un.free c ob ho forget_same
  have kc : B.get? c = some ob := un.keep c ob ho forget_same cf
  have nb : ∀ b, H b = none → b ≠ c := fun b e z => by rw [z, hc] at e; cases e
  have fo : ∀ b, H b = none → forget H c b = none := fun b e => by rw [forget_ne (nb b e)]; exact e
  have ac : a ≠ c := fun z => by have e := fl.2.1; rw [z, kc] at e; cases e
  refine ⟨a, B, upd H' c (Fix ob), cls, d, rfl, fl, L2.HOk.laidN ok (fun b u e => e) n' ⟨kc, ⟨ob, kc⟩⟩, ⟨fun b o e n => un.keep b o e (fo b n), un.slot, fun b o e n => ?_, un.there, fun b xs e => ?_, fun b o u e => ?_, fun b ps e => ?_⟩, by rw [upd_ne ac]; exact na, os, bare, k cls d H' q n'⟩
  · rw [upd_ne (nb b n)]; exact un.free b o e (fo b n)
  · have z := un.tups b xs (by rw [forget_ne (fix_ext hc e (fun z => by cases z))]; exact e)
    rw [upd_ne (ne_of_none z n')]; exact z
  · by_cases hb : b = c
    · rw [hb, hc] at e
      rw [hb, upd_same]; exact e
    · have z := un.frzs b o u (by rw [forget_ne hb]; exact e)
      rw [upd_ne hb]; exact z
  · obtain ⟨m, z⟩ := un.tbls b ps (by rw [forget_ne (fix_ext hc e (fun z => by cases z))]; exact e)
    exact ⟨m, by rw [upd_ne (ne_of_none z n')]; exact z⟩
end
abbrev lamE (q : Str) (sc : Scope) (cl : List (Str × Addr)) (L f cd : Addr) : Env := PySem.W.envX q sc L f (.ref cd) cl
def lamC (P : Program) (w : World) (K : PySem.W.Frag) (mg : Str → Option Value) (base : Heap) (N : List Str) (q : Str) (sc : Scope) (cl : List (Str × Addr)) (f cd : Addr) (A : Around) (outer : List Env) (s : Shared) (H : Hp) (E : XK) : Cx where
  prog := P
  w := w
  K := K
  mg := mg
  base := base
  A := A.deeper (lamE q sc cl s.heap.objs.size f cd)
  N := N
  s_0 := s
  H_0 := H
  env := lamE q sc cl s.heap.objs.size f cd
  outer := outer
  stack := lamE q sc cl s.heap.objs.size f cd :: outer
  ex := []
  fn := fun _ => false
  calm := true
  pn := []
  xe := fun e s' => wpAny (model P w) (A.deeper (lamE q sc cl s.heap.objs.size f cd)) (leaving (lamE q sc cl s.heap.objs.size f cd) e) (fun _ s'' => L2.CX P w outer H s E e s'') (fun e' s'' => L2.CX P w outer H s E e' s'') s'
/-- no names of its own; all that it captured stands in cl -/
structure LamN (sc : Scope) (cl : List (Str × Addr)) : Prop where
  kind : sc.kind = .function
  co : sc.isCoroutine = false
  gen : sc.isGenerator = false
  own : ∀ y ∈ sc.names, y.2 ≠ .local ∧ y.2 ≠ .cell
  has : ∀ y ∈ sc.names, y.2 = .free → ∃ c, cl.lookup y.1 = some c
  inj : ∀ x y c, cl.lookup x = some c → cl.lookup y = some c → x = y
section
variable {P : Program} {w : World} {K : PySem.W.Frag} {mg : Str → Option Value} {base : Heap} {H : Hp} {s : Shared}
theorem lam_enter {A : Around} {outer : List Env} {E : XK} {N : List Str} {σ : L2.St} {q : Str} {sc : Scope} {cl : List (Str × Addr)} {f cd : Addr} {h1 : Heap} {tk : Nat} (L : LamN sc cl) (e0 : Env0 P w K mg base A outer s H) (hd : A.handled = none)
    (hc : ∀ x c, cl.lookup x = some c → H c = none ∧ ∃ v, s.heap.IsCell c v) (hl : ∀ (i : Nat) (x : Str) (v : V), N[i]? = some x → σ[i]? = some (some v) → Vis sc x → ∃ c u, cl.lookup x = some c ∧ RelV v u ∧ s.heap.IsCell c (some u)) (hlen : σ.length = N.length)
    (hns : h1.Ns s.heap.objs.size fun y => ([] : List (Str × Value)).reverse.lookup y) (kp : ∀ b o, s.heap.get? b = some o → h1.get? b = some o) :
    Inv (lamC P w K mg base N q sc cl f cd A outer s H E) [] σ H { s with heap := h1, toks := tk } := by
  have fr : ∀ {y}, sc.names.lookup y = some .free → ∃ c, cl.lookup y = some c := fun {y} e => L.has _ (PySem.mem_of_lookup e) rfl
  have ck : ∀ {c : Addr} {v : Option Value}, s.heap.IsCell c v → h1.IsCell c v := fun ⟨o, ho, hd⟩ => ⟨o, kp _ _ ho, hd⟩
  have nx : ∀ b : Addr, b ∉ (lamC P w K mg base N q sc cl f cd A outer s H E).ex := fun b z => absurd (show b ∈ ([] : List Addr) from z) (by simp)
  refine ⟨⟨e0.mod, L.kind, rfl, rfl, Nat.le_refl _, fun x y c a b => L.inj x y c a b, fun y hy => ?_, fun y c z _ => ?_, fun _ => hd, Around.frames_deeper e0.frames, .inr ⟨rfl, rfl⟩, fun b z => absurd z (nx b), e0.bs, e0.bsz, fun b _ _ => nx b, fun b z => absurd z (nx b), e0.funs, e0.frf⟩,
    rfl, e0.bare, Un.kept kp, ⟨_, hns, fun i y v a b c => ?_⟩, fun y c e => ?_, e0.hok.fresh (Nat.le_refl _), fun y c e => (hc y c e).1, fun p hp => absurd (show p ∈ ([] : List (Addr × Obj)) ++ [] from hp) (by simp), e0.hok.kept kp, hlen⟩
  · have hy : sc.names.lookup y = some .cell ∨ sc.names.lookup y = some .free := hy
    rcases hy with hy | hy
    · exact absurd rfl (L.own _ (PySem.mem_of_lookup hy)).2
    · exact fr hy
  · have z : false = true := z
    cases z
  · have c : Vis sc y := c
    obtain ⟨c2, u, e1, r, z⟩ := hl i y v a b c
    rcases c with k | k | k
    · exact absurd rfl (L.own _ (PySem.mem_of_lookup k)).1
    · exact absurd rfl (L.own _ (PySem.mem_of_lookup k)).2
    · exact ⟨u, r, .inr ⟨.inr k, c2, e1, ck z⟩⟩
  · obtain ⟨v, z⟩ := (hc y c e).2
    exact ⟨v, ck z⟩
end
/-- x(), where x is a lambda with one cell, of a def that has been left -/
theorem pe_actV {Z : Cx} {W : WX} {E E' : XK} {k i : Nat} {a x : Str} {q : Str} {pr : Arguments} {bd : Expr} {sc : Scope} {f cd c : Addr} {pm ct : Value} {oc0 : Obj} {v : V} {tb : TE} {p1 p2 : Pos} (tk : Takes Z W) (hW : ∀ cls d σ' H', E cls d H' → W cls d σ' H') (hk : ∀ cls d H', E' cls d H' → H' c = none → E cls d (upd H' c (Fix oc0)))
    (hr : Room (k + 1) Z.A) (L : LamN sc [(x, c)]) (hbind : bindArgs (PySem.W.kla_fn "<lambda>" q pr bd sc [(x, c)] pm (.ref cd) ct) ⟨[], []⟩ = pure [])
    (hbody : ∀ (A : Around) (outer : List Env) (s : Shared) (H : Hp), Room k (A.deeper (lamE q sc [(x, c)] s.heap.objs.size f cd)) → PE (lamC Z.prog Z.w Z.K Z.mg Z.base [x] q sc [(x, c)] f cd A outer s H E') bd tb)
    (hN : Z.N[i]? = some a) (hv : Vis Z.env.scope a) (hd : (a == ("__debug__" : Str)) = false := by decide) (hcd : (a == ("__classdict__" : Str)) = false := by decide) :
    PE Z (.Call (.Name a p1) [] [] p2) (fun σ H Q => σ[i]? = some (some (.ref f)) ∧ H f = some (LamO q pr bd sc [(x, c)] cd pm ct) ∧ H cd = some (CodeO cd q) ∧ H c = some (Fix oc0) ∧ (∃ u, oc0.data = .cell (some u) ∧ RelV v u) ∧ tb [some v] (forget H c) fun u H' => H' c = none → Q u (upd H' c (Fix oc0))) := by
  refine ⟨fun pins s σ H Q I h => ?_⟩
  obtain ⟨hs, hf, hcd', hc, ⟨u0, hu0, ru⟩, ht⟩ := h
  refine wpAny_Call_Name_kw (thn ((pe_var (pos := p1) (i := i) hN hv hd hcd).run pins s σ H (fun v H1 => v = .ref f ∧ H1 = H) I ⟨.ref f, hs, rfl, rfl⟩) fun u s1 ⟨y, H1, I1, r1, q1⟩ => ?_)
  obtain ⟨ev, eH⟩ := q1
  subst ev
  rw [eH] at I1
  obtain rfl : u = Value.ref f := r1
  obtain ⟨of1, _⟩ := I1.hok f _ hf
  refine PySem.W.callWith_F0 ⟨_, _, _, _, of1⟩ ?_
  obtain ⟨⟨oc, vs, t, hoc, hdc, hvc⟩, _, _⟩ := I1.hok cd _ hcd'
  obtain ⟨okc, _⟩ := I1.hok c _ hc
  have z0 : s1.heap.IsCell c (some u0) := ⟨oc0, okc, hu0⟩
  have e0 := I1.env0
  have e1 : Env0 Z.prog Z.w Z.K Z.mg Z.base Z.A Z.stack s1 (forget H c) := ⟨e0.frames, e0.mod, fun b o e => ⟨(e0.bs b o e).1, by
      have n := (e0.bs b o e).2
      rw [forget_ne (fun z => by rw [z, hc] at n; cases n)]; exact n⟩, e0.bsz, e0.funs, fun b hb => by
      have n := e0.frf b hb
      rw [forget_ne (fun z => by rw [z, hc] at n; cases n)]; exact n, forget_ok e0.hok hc, e0.bare⟩
  have cf : c ∉ frs Z.stack := fun m => by have n := e0.frf c m; rw [hc] at n; cases n
  have rc : codeAny (model Z.prog Z.w) Z.A (.call (.ref f) ⟨[], []⟩) (CR (L2.CX Z.prog Z.w) Z.stack Z.prog Z.w (forget H c) s1 (fun u H' => H' c = none → Q u (upd H' c (Fix oc0))) E') s1 := by
    refine PySem.W.kla_callFunE hr.depth of1 rfl L.co L.gen rfl ⟨cd, oc, vs, t, rfl, hoc, hdc, hvc⟩ ?_
    rw [hbind]
    refine wpAny_pure (wpAny_newFunctionEnv (fun y hy => (L.own y hy).2) (fun y hy => absurd hy (by simp)) (fun h1 hns hsb => ⟨I1.nolimit.fresh _ hsb, ?_⟩) L.kind)
    show codeAny _ _ (.expr bd (lamE q sc [(x, c)] s1.heap.objs.size f cd)) _ _
    have kp : ∀ b o, s1.heap.get? b = some o → h1.get? b = some o := fun b o e => hsb.extBut b o (Nat.ne_of_lt (Heap.lt_size e)) (Heap.get?_push_of_some _ e)
    have one : ∀ y d, ([(x, c)] : List (Str × Addr)).lookup y = some d → y = x ∧ d = c := fun y d e => by
      rw [List.lookup_cons] at e
      split at e
      · rename_i h; cases e; exact ⟨beq_iff_eq.mp h, rfl⟩
      · cases e
    have J : Inv (lamC Z.prog Z.w Z.K Z.mg Z.base [x] q sc [(x, c)] f cd Z.A Z.stack s1 (forget H c) E') [] [some v] (forget H c) { s1 with heap := h1, toks := s1.toks + ([] : List (Str × Value)).length } := by
      refine lam_enter L e1 hr.hd (fun y d e => ?_) (fun i y u e1 e2 _ => ?_) rfl hns kp
      · obtain ⟨rfl, rfl⟩ := one y d e
        exact ⟨forget_same, _, z0⟩
      · match i with
        | 0 =>
          cases e1
          cases e2
          exact ⟨c, u0, by simp, ru, z0⟩
        | i + 1 => simp at e1
    refine PySem.W.kla_codeExpr (wpAny_mono ((hbody _ _ s1 _ (hr.deeper _)).run [] _ _ _ _ J ht) (fun v' s' hq => ?_) fun e s' hq => hq)
    obtain ⟨w', H', J', rv, q'⟩ := hq
    exact ⟨w', H', J'.os, J'.bare, J'.base, J'.hok, rv, q'⟩
  have hx : Passes (L2.CX Z.prog Z.w) Z E := passes_call tk hW
  refine wpAny_call (codeAny_mono rc fun r s' hq => ?_)
  cases r with
  | error e => exact hx pins σ H s1 e s' I1 (CX.again I1.hok hc cf hk hq)
  | ok fl =>
    cases fl with
    | ret u => exact I1.after (CE.again (u := u) I1.hok hc cf (fun v' H' q' n => q' n) hq)
    | next => exact False.elim hq
    | brk => exact False.elim hq
    | cont => exact False.elim hq
end LamV
end
section
set_option maxRecDepth 100000
set_option maxHeartbeats 4000000
namespace LamV
open PySem PySem.Spec PyProof.Rows L2 LamX
def PSK (X : Cx) (sts : List Stmt) (t : (V → L2.St → Hp → Prop) → L2.St → Hp → Prop) : Prop := ∀ (pins : List (Addr × Obj)) (s : Shared) (σ : L2.St) (H : Hp) (k : V → L2.St → Hp → Prop), Inv X pins σ H s → t k σ H →
  wpAny (model X.prog X.w) X.A (execs sts X.env) (fun fl s' => ∃ u v σ' H', fl = .ret u ∧ Inv X pins σ' H' s' ∧ RelV v u ∧ k v σ' H') X.xe s
theorem psk_ret {X : Cx} {e : Expr} {te : TE} {pos : Pos} (he : PE X e te) : PSK X [.Return (some e) pos] (fun k σ H => te σ H fun v H' => k v σ H') := fun pins s σ H k I h =>
  wpAny_execs_cons (thn (wpAny_Return_some (Q := fun fl s' => ∃ u v σ' H', fl = .ret u ∧ Inv X pins σ' H' s' ∧ RelV v u ∧ k v σ' H') (thn (he.run pins s σ H _ I h) fun v s1 ⟨x, H1, I1, r1, q1⟩ => ⟨v, x, σ, H1, rfl, I1, r1, q1⟩)) fun f s1 ⟨u, v, σ', H', ef, r⟩ => by subst ef; exact ⟨u, v, σ', H', rfl, r⟩)
theorem psk_cons {X : Cx} {st : Stmt} {rest : List Stmt} {t : TS} {r : (V → L2.St → Hp → Prop) → L2.St → Hp → Prop} (a : PS X st t) (b : PSK X rest r) : PSK X (st :: rest) (fun k σ H => t { nx := fun σ' H' => r k σ' H', rt := fun _ _ => False } σ H) := fun pins s σ H k I h => by
  refine wpAny_execs_cons (thn (a.run pins s σ H _ I h) fun f s1 q => ?_)
  cases f with
  | next =>
    obtain ⟨σ', H', I', q'⟩ := q
    exact b pins s1 σ' H' k I' q'
  | ret v =>
    obtain ⟨_, _, _, _, _, z⟩ := q
    exact z.elim
  | brk =>
    obtain ⟨_, _, _, z⟩ := q
    exact z.elim
  | cont =>
    obtain ⟨_, _, _, z⟩ := q
    exact z.elim
/-- a def with one cell, of its parameter; behind its return the cell is known -/
theorem fn_cell {CX : CXT} {P : Program} {w : World} {K : PySem.W.Frag} {mg : Str → Option Value} {base : Heap} {k : Nat} {x : Str} {st : Stmt} {f : Addr} {fd : FuncData} {cc : Addr} {N : List Str} {a : Str} {sp : Sp} (F : L2.Fun K x x st f fd) (hc : fd.code = .ref cc) (S : FnScope N [a] (defScope st)) (hN : N[0]? = some a)
    (hl : (defScope st).names.lookup a = some .cell) (hcl : ∀ n, cellsFrom n (defScope st).names [] = [(a, n)]) (len : ∀ vs H Q E, sp vs H Q E → vs.length = 1)
    (hbody : ∀ (A : Around) (outer : List Env) (s : Shared) (H : Hp) (v : V) (Q : VK) (E : XK), Room k (A.deeper (envOfC x (defScope st) s.heap.objs.size f (.ref cc))) → sp [v] H Q E →
      ∃ t, PSK (cxOf CX P w K mg base N x (defScope st) f (.ref cc) A outer s H E) (defBody st) t ∧
        t (fun u σ' H' => ∃ v', σ'[0]? = some (some v') ∧ ∀ (o : Obj) (u' : Value), o.data = .cell (some u') → RelV v' u' → H' (s.heap.objs.size + 1) = none → Q u (upd H' (s.heap.objs.size + 1) (Fix o))) (L2.start N [v]) H) :
    FnOk P w K mg base CX (k + 1) f fd [a] sp := by
  obtain ⟨oc, od, kV, doc, pm, an, cdv, ct, osl, rfl, lk, hcd⟩ := F.ex
  obtain rfl : cdv = .ref cc := hc
  refine ⟨len, fun A outer s H args us vs Q E hr e0 hb r hsp => ?_⟩
  have ln := len _ _ _ _ hsp
  obtain ⟨v, rfl⟩ : ∃ v, vs = [v] := by
    match vs, ln with
    | [v], _ => exact ⟨v, rfl⟩
  have kin : K.In s.heap := e0.mod.kin.keeps fun b o e => (e0.bs b o e).1
  have nol : s.heap.NoLimit := e0.mod.nolimit.keeps fun b o e => (e0.bs b o e).1
  have kinds : ∀ y ∈ ([a] : List Str).zip us, (defScope st).names.lookup y.1 = some .local ∨ ((defScope st).names.lookup y.1 = some .cell ∧ ((cellsFrom (s.heap.objs.size + 1) (defScope st).names []).lookup y.1).isSome = true) := fun ⟨n, u⟩ hy => by
    have e := List.mem_singleton.mp (List.of_mem_zip hy).1
    subst e
    exact .inr ⟨hl, PySem.W.cellsFrom_some _ _ _ (.inl hl)⟩
  refine codeAny_call_function hr.depth (kin _ _ lk) rfl S.co S.gen rfl (PySem.W.codeRec_of kin hcd) (hb _ _ _ _ ?_)
  refine wpAny_newFunctionEnv_cells S.kind kinds fun env he s1 xx => ?_
  subst he
  refine ⟨nol.keeps xx.toInCall.keep, codeAny_func ?_⟩
  obtain ⟨t, ht, hq⟩ := hbody A outer s H v Q E (hr.deeper _) hsp
  have I := inv_start (CX := CX) (E := E) (f := f) (cd := .ref cc) (qual := x) S hr.hd e0 rfl r xx
  refine wpAny_mono (ht [] s1 _ H _ I hq) (fun fl s' hs => ?_) fun e s' hs => hs
  obtain ⟨u, v2, σ', H', rfl, J, rv, q⟩ := hs
  have ec : (cxOf CX P w K mg base N x (defScope st) f (.ref cc) A outer s H E).env.cells.lookup a = some (s.heap.objs.size + 1) := by
    show (cellsFrom (s.heap.objs.size + 1) (defScope st).names []).lookup a = _
    rw [hcl]
    simp
  have nc : H' (s.heap.objs.size + 1) = none := J.freeC _ _ ec
  obtain ⟨m, _, lo⟩ := J.loc
  obtain ⟨v', es, q⟩ := q
  obtain ⟨u', r', lk'⟩ := lo 0 a v' hN es (.inr (.inl hl))
  obtain ⟨o, ho, hd⟩ : s'.heap.IsCell (s.heap.objs.size + 1) (some u') := by
    rcases lk' with ⟨z, _⟩ | ⟨_, c, e, z⟩
    · rw [show (cxOf CX P w K mg base N x (defScope st) f (.ref cc) A outer s H E).env.kindOf a = some .cell from hl] at z; cases z
    · rw [ec] at e
      cases e
      exact z
  have un := J.base
  have nb : ∀ b o, s.heap.get? b = some o → b ≠ s.heap.objs.size + 1 := fun b o e z => by
    rw [z] at e
    exact absurd (Heap.lt_size e) (Nat.not_lt.mpr (Nat.le_succ _))
  exact ⟨v2, upd H' (s.heap.objs.size + 1) (Fix o), J.os, J.bare, ⟨un.keep, un.slot, fun b o e n y => by rw [upd_ne (nb b o e)]; exact un.free b o e n y, un.there, fun b xs e => by
    have z := un.tups b xs e
    rw [upd_ne (ne_of_none z nc)]; exact z, fun b o u e => by
    have z := un.frzs b o u e
    rw [upd_ne (ne_of_none z nc)]; exact z, fun b ps e => by
    obtain ⟨m, z⟩ := un.tbls b ps e
    exact ⟨m, by rw [upd_ne (ne_of_none z nc)]; exact z⟩⟩, L2.HOk.laidN J.hok (fun b u e => e) nc ⟨ho, ⟨o, ho⟩⟩, rv, q o u' hd r' nc⟩
end LamV
namespace DL
open PySem PySem.Spec PyProof.Rows L2
def gLam (T : List (Addr × Str)) (q : Str) (pr : Arguments) (bd : Expr) (sc : Scope) (cl : List (Str × Addr)) : GE := fun _ W Q => (∀ p ∈ T, W p.1 = some (.tbl p.2)) ∧ ∀ W1, SubT T W W1 → ∀ f, W1 f = none → Q (.ref f) (put W1 f (.lam q pr bd sc cl))
theorem d_lam {X : Cx} {W0 : Wd} {H0 : Hp} {T : List (Addr × Str)} {c Pt : Addr} {pr : Arguments} {bd : Expr} {sc : Scope} {pos : Pos} (TB : LamX.TabB X.base X.mg c Pt) (hcode : X.env.code = .ref c) (hm : (Pt, X.env.qual ++ "<lambda>") ∈ T) (hu : ∀ p ∈ T, p.1 = Pt → p.2 = X.env.qual ++ "<lambda>")
    (hdef : defaultsOf pr X.env = ([], [])) (L : LamX.LamS X.env.scope sc) : DE W0 H0 X (.Lambda pr bd sc pos) (gLam T (X.env.qual ++ "<lambda>") pr bd sc (cloFrom X.env.cells sc.names [])) := by
  refine ⟨fun pins s σ H Q I ⟨δ, W, Qd, at_, ⟨hT, q⟩, fin⟩ => ?_⟩
  refine LamV.lam_new I TB hcode hm hu (fun p hp => at_.own _ _ (hT p hp)) hdef (L.has I.ok) fun f cd pm ct H1 s' I1 e1 t1 n1 co nH => ?_
  obtain ⟨s1, o1⟩ := at_.own.cutT (T := T)
  obtain ⟨s2, o2⟩ := o1.extN (cutT_sub T W).tab e1 t1
  have s12 := s1.trans s2
  have ne : cd ≠ f := fun z => by rw [z, n1] at co; cases co
  have o3 : Own (put (cutT T W) f (.lam (X.env.qual ++ "<lambda>") pr bd sc (cloFrom X.env.cells sc.names []))) (upd H1 f (LamV.LamO (X.env.qual ++ "<lambda>") pr bd sc (cloFrom X.env.cells sc.names []) cd pm ct)) :=
    o2.put (.inl n1) ⟨cd, pm, ct, upd_same, by rw [upd_ne ne]; exact co⟩
  exact ⟨.ref f, _, I1, rfl, fin _ _ _ _ (q _ (cutT_sub T W) f (o2.new n1)) (s12.trans (Step.put (.inl n1))) o3 (.ref f)⟩
abbrev GK := (D → Dt → Wd → Prop) → Dt → Wd → Prop
def liftK (W0 : Wd) (H0 : Hp) (g : GK) : (V → L2.St → Hp → Prop) → L2.St → Hp → Prop := fun k σ H => ∃ δ W Kd, At W0 H0 δ W σ H ∧ g Kd δ W ∧ ∀ d δ' W' v σ' H', Kd d δ' W' → At W0 H0 δ' W' σ' H' → Step W H W' H' → Is W' H' d v → k v σ' H'
def DK (W0 : Wd) (H0 : Hp) (X : Cx) (sts : List Stmt) (g : GK) : Prop := ∀ (k : V → L2.St → Hp → Prop), ∃ t, LamV.PSK X sts t ∧ ∀ σ H, liftK W0 H0 g k σ H → t k σ H
def jRet (ge : GE) : GK := fun K δ W => ge δ W fun d W' => K d δ W'
def jSeq (a : GS) (b : GK) : GK := fun K δ W => a { nx := b K, rt := fun _ _ => False } δ W
theorem j_ret {X : Cx} {W0 : Wd} {H0 : Hp} {e : Expr} {ge : GE} {pos : Pos} (he : DE W0 H0 X e ge) : DK W0 H0 X [.Return (some e) pos] (jRet ge) := fun k => by
  refine ⟨_, LamV.psk_ret he, ?_⟩
  rintro σ H ⟨δ, W, Kd, at_, q, f⟩
  exact ⟨δ, W, _, at_, q, fun d W' v H' q' s o i => f d δ W' v σ H' q' (at_.go s o) s i⟩
theorem j_cons {X : Cx} {W0 : Wd} {H0 : Hp} {st : Stmt} {rest : List Stmt} {g : GS} {r : GK} (a : DS W0 H0 X st g) (b : DK W0 H0 X rest r) : DK W0 H0 X (st :: rest) (jSeq g r) := fun k => by
  obtain ⟨t, h1, h2⟩ := b k
  refine ⟨_, LamV.psk_cons a h1, ?_⟩
  rintro σ H ⟨δ, W, Kd, at_, q, f⟩
  refine ⟨δ, W, _, at_, q, fun δ' W' σ' H' q' at' s' => ?_, fun _ _ _ _ z => z.elim, fun _ _ _ _ z => z.elim, fun _ _ _ _ z => z.elim⟩
  exact h2 σ' H' ⟨δ', W', Kd, at', q', fun d δ2 W2 v σ2 H2 q2 a2 s2 i2 => f d δ2 W2 v σ2 H2 q2 a2 (s'.trans s2) i2⟩
/-- .. its cell is known behind it -/
theorem fn_cellD {P : Program} {w : World} {K : PySem.W.Frag} {mg : Str → Option Value} {base : Heap} {k : Nat} {x : Str} {st : Stmt} {f : Addr} {fd : FuncData} {cc : Addr} {N : List Str} {a : Str} {sp : DSp} (F : L2.Fun K x x st f fd) (hc : fd.code = .ref cc) (S : FnScope N [a] (defScope st)) (hN : N[0]? = some a)
    (hl : (defScope st).names.lookup a = some .cell) (hcl : ∀ n, cellsFrom n (defScope st).names [] = [(a, n)]) (len : ∀ ds W Q E, sp ds W Q E → ds.length = 1)
    (hbody : ∀ (A : Around) (outer : List Env) (s : Shared) (H : Hp) (E : XK) (W0 : Wd) (d0 : D) (Qd : D → Wd → Prop) (Ed : XD), Room k (A.deeper (envOfC x (defScope st) s.heap.objs.size f (.ref cc))) → sp [d0] W0 Qd Ed →
      ∃ g, DK W0 H (cxOf (L2.CX P w) P w K mg base N x (defScope st) f (.ref cc) A outer s H E) (defBody st) g ∧
        g (fun d δ W => ∃ d', δ[0]? = some (some d') ∧ (W (s.heap.objs.size + 1) = none → done Qd d (put W (s.heap.objs.size + 1) (.cel d')))) (dstart N [d0]) W0) : FnOk P w K mg base (L2.CX P w) (k + 1) f fd [a] (liftSp sp) := by
  refine LamV.fn_cell F hc S hN hl hcl (fun vs H Q E h => ?_) (fun A outer s H v Q E hr h => ?_)
  · obtain ⟨ds, W, Qd, Ed, i, _, q, _⟩ := h
    rw [← i.length]
    exact len _ _ _ _ q
  · obtain ⟨ds, W, Qd, Ed, i, o, q, fin, fx⟩ := h
    obtain ⟨d0, rfl⟩ : ∃ d, ds = [d] := by
      have := len _ _ _ _ q
      match ds, this with
      | [d], _ => exact ⟨d, rfl⟩
    obtain ⟨g, hg, r⟩ := hbody A outer s H E W d0 Qd Ed hr q
    obtain ⟨t, h1, h2⟩ := hg (fun u σ' H' => ∃ v', σ'[0]? = some (some v') ∧ ∀ (o : Obj) (u' : Value), o.data = .cell (some u') → RelV v' u' → H' (s.heap.objs.size + 1) = none → Q u (upd H' (s.heap.objs.size + 1) (LamV.Fix o)))
    refine ⟨t, h1, h2 _ _ ⟨_, W, _, start_at o i, r, fun d δ' W' v' σ' H' ⟨d', e, z⟩ at' st' i' => ?_⟩⟩
    obtain ⟨v2, e2, i2⟩ := at'.env 0 d' e
    refine ⟨v2, e2, fun o' u' hd ru nc => ?_⟩
    have hp : H' (s.heap.objs.size + 1) = none ∨ W' (s.heap.objs.size + 1) ≠ none := .inl nc
    have s3 : Step W' H' (put W' (s.heap.objs.size + 1) (.cel d')) (upd H' (s.heap.objs.size + 1) (LamV.Fix o')) := Step.put hp
    have o3 : Own (put W' (s.heap.objs.size + 1) (.cel d')) (upd H' (s.heap.objs.size + 1) (LamV.Fix o')) := at'.own.put hp ⟨o', v2, u', upd_same, hd, ru, i2.mono s3⟩
    obtain ⟨d2, W2, cv, q2⟩ := z (at'.own.new nc)
    obtain ⟨o4, i4, s4⟩ := cv _ v' o3 (i'.mono s3)
    exact fin d2 W2 v' _ q2 ((st'.trans s3).trans s4) o4 i4
end DL
end
section
set_option maxRecDepth 100000
set_option maxHeartbeats 4000000
namespace DL
open PySem PySem.Spec PyProof.Rows L2 LamV
theorem Own.forget {W : Wd} {H : Hp} {c : Addr} {d : D} (o : Own W H) (hc : W c = some (.cel d)) : Step W H (DL.del W c) (forget H c) ∧ Own (DL.del W c) (forget H c) := by
  obtain ⟨oc, v, u, h1, h2, h3, h4⟩ := o c _ hc
  have ne : ∀ b ho, H b = some ho → ho ≠ Fix oc → b ≠ c := fun b ho e n z => by
    rw [z, h1] at e
    exact n (Option.some.inj e).symm
  have s : Step W H (DL.del W c) (LamV.forget H c) := ⟨fun b ho e _ w => by
    rw [forget_ne (fun z => by rw [z, hc] at w; cases w)]; exact e, fun b ho _ _ w => by unfold DL.del; split <;> first | rfl | exact w⟩
  refine ⟨s, fun a ob e => ?_⟩
  have na : a ≠ c := fun z => by rw [z, del_same] at e; cases e
  rw [del_ne na] at e
  have k : ∀ u, H a = some u → LamV.forget H c a = some u := fun u e => by rw [forget_ne na]; exact e
  cases ob with
  | lst ds => obtain ⟨vs, k1, l⟩ := o a _ e; exact ⟨vs, k _ k1, l.mono s⟩
  | ins C fs => obtain ⟨dx, vs, k1, l⟩ := o a _ e; exact ⟨dx, vs, k _ k1, l.mono s⟩
  | dk kvs => obtain ⟨vs, k1, l⟩ := o a _ e; exact ⟨vs, k _ k1, l.mono s⟩
  | dt kvs => obtain ⟨vs, k1, l⟩ := o a _ e; exact ⟨vs, k _ k1, l.mono s⟩
  | tbl q => exact o.tab s (o a _ e) k
  | lam _ _ _ _ _ => exact o.lam s (o a _ e) k
  | cel _ => exact Own.cel s (o a _ e) k
/-- what a lambda's body is, its one captured name x -/
structure LamOk (P : Program) (w : World) (K : PySem.W.Frag) (mg : Str → Option Value) (base : Heap) (k : Nat) (x q : Str) (pr : Arguments) (bd : Expr) (sc : Scope) (gx : XD → GE) : Prop where
  nm : ∀ c, LamN sc [(x, c)]
  bind : ∀ (cl : List (Str × Addr)) (pm cd ct : Value), bindArgs (PySem.W.kla_fn "<lambda>" q pr bd sc cl pm cd ct) ⟨[], []⟩ = pure []
  body : ∀ (c f cd : Addr) (A : Around) (outer : List Env) (s : Shared) (H : Hp) (E : XK) (W0 : Wd) (H0 : Hp) (Ed : XD), Room k (A.deeper (lamE q sc [(x, c)] s.heap.objs.size f cd)) → FinX W0 H0 E Ed → DE W0 H0 (lamC P w K mg base [x] q sc [(x, c)] f cd A outer s H E) bd (gx Ed)
def sp_kindV (P : Program) (w : World) (K : PySem.W.Frag) (mg : Str → Option Value) (base : Heap) (k : Nat) (l : List (Str × Addr)) : DSp := fun ds W Q _ => ∃ (f c : Addr) (x q : Str) (pr : Arguments) (bd : Expr) (sc : Scope) (gx : XD → GE) (d : D), ds = [.ref f] ∧ W f = some (.lam q pr bd sc [(x, c)]) ∧ W c = some (.cel d) ∧
  LamOk P w K mg base k x q pr bd sc gx ∧ gx (fun C dx W' => dx = none ∧ ∃ p ∈ l, C = p.2 ∧ Q (.str p.1) (put W' c (.cel d))) [some d] (del W c) fun v W' => Q v (put W' c (.cel d))
theorem kindV_ok {P : Program} {w : World} {K : PySem.W.Frag} {mg : Str → Option Value} {base : Heap} {k : Nat} {l : List (Str × Addr)} {Ng : List Str} {y a xe n : Str} {st : Stmt} {g CS : Addr} {fd : FuncData} {b₀ : Stmt} {suite : List Stmt} {m : Nat} {p1 p2 p3 np pos' pos : Pos}
    (F : L2.Fun K y y st g fd) (S : FnScope Ng [a] (defScope st)) (hbd : defBody st = [.Try [.Return (some (.Call (.Name a p1) [] [] p2)) p3] [.ExceptHandler (some (.Name xe np)) (some n) (b₀ :: suite) pos'] [] [] pos])
    (hge : (defScope st).names.lookup xe = some .globalImplicit) (hme : mg xe = some (.ref CS)) (hde : (xe == ("__debug__" : Str)) = false) (hva : Vis (defScope st) a) (hda : (a == ("__debug__" : Str)) = false) (hca : (a == ("__classdict__" : Str)) = false)
    (h0 : ∀ f : Addr, L2.start Ng [V.ref f] = some (.ref f) :: List.replicate (m + 1) none) (hlen : Ng.length = m + 2) (hN : Ng.Nodup) (h00 : Ng[0]? = some a) (hi : Ng[1]? = some n) (hln : (defScope st).names.lookup n = some .local) (hex : ∀ p ∈ l, PySem.W.exmOne K (.ref p.2) (.ref CS) = some true)
    (hh : ∀ (cdv : Value) (A : Around) (outer : List Env) (s : Shared) (H : Hp) (E : XK) (a : Addr) (oe : Obj) (pn : List (Addr × Obj)) (p : Str × Addr), p ∈ l → Zc (.ref p.2) none oe → (∃ vs, oe.data = .fields vs) →
      ∃ g', (∀ W0 H0, DSs W0 H0 ((cxOf CX0 P w K mg base Ng y (defScope st) g cdv A outer s H E).nox.suite a ((a, oe) :: pn)) (b₀ :: suite) g') ∧ ∀ (W : Wd) (Q : D → Wd → Prop), Q (.str p.1) W → g' { nx := fun _ _ => False, rt := done Q } (none :: some (.ref a) :: List.replicate m none) W) :
    FnOk P w K mg base CX0 (k + 2) g fd [a] (liftSp (sp_kindV P w K mg base k l)) := by
  refine F.ok S (fun vs H Q E h => ?_) (fun cdv A outer s H vs Q E hr h => ?_)
  · obtain ⟨ds, W, Qd, Ed, i, _, ⟨_, _, _, _, _, _, _, _, _, rfl, _⟩, _⟩ := h
    rw [← i.length]; rfl
  · obtain ⟨ds, W, Qd, Ed, i, o, ⟨f, c, x, q, pr, bd, sc, gx, d, rfl, hf, hcW, ok, q0⟩, fin, fx⟩ := h
    obtain ⟨v0, rfl, i0⟩ := isL1 i
    cases i0
    obtain ⟨cd, pm, ct, e1, e2⟩ := o f _ hf
    obtain ⟨oc0, v, u, e3, e4, e5, e6⟩ := o c _ hcW
    obtain ⟨sf, of⟩ := o.forget hcW
    rw [hbd]
    have hgl : Gl (cxOf CX0 P w K mg base Ng y (defScope st) g cdv A outer s H E).nox xe := hge
    refine ⟨_, pss_one (ps_try_as (i := 1) (X := (cxOf CX0 P w K mg base Ng y (defScope st) g cdv A outer s H E).nox) (c := .ref CS)
        (tb := fun W De σ H => ∃ (Ech E' : XK), (∀ cls d σ' H', Ech cls d H' → σ'.length = Ng.length → W cls d σ' H') ∧ (∀ cls d H', E' cls d H' → H' c = none → Ech cls d (upd H' c (Fix oc0))) ∧
          (σ[0]? = some (some (.ref f)) ∧ H f = some (LamO q pr bd sc [(x, c)] cd pm ct) ∧ H cd = some (LamX.CodeO cd q) ∧ H c = some (Fix oc0) ∧ (∃ u, oc0.data = .cell (some u) ∧ RelV v u) ∧
            ∃ (W0 : Wd) (H0 : Hp) (δ : Dt) (W : Wd) (Qd : D → Wd → Prop) (Ed : XD), At W0 H0 δ W [some v] (forget H c) ∧ FinX W0 H0 E' Ed ∧ gx Ed δ W Qd ∧ Fin W (forget H c) (fun u H' => H' c = none → De.rt u (upd H' c (Fix oc0))) Qd))
        (ts := fun a cls d De σ H => d = none ∧ ∃ p ∈ l, cls = .ref p.2 ∧ σ.length = m + 2 ∧ σ[1]? = some (some (.ref a)) ∧ ∃ W', Own W' H ∧ ∀ H'', Step W' H W' H'' → Own W' H'' → De.rt (.str p.1) H'')
        rfl rfl hN hi hln ⟨hgl, hde, .inl hme⟩ LamX.takes0 (fun W pn xe tk _ => ?_) (fun a oe cls d pn hz hf => ?_)), ?_⟩
    · refine ⟨fun pins s' σ H' De I h' => ?_⟩
      obtain ⟨Ech, E', hW, hk, h⟩ := h'
      have hp := pe_actV (p1 := p1) (p2 := p2) (i := 0) (a := a) (v := v) (tb := fun σ H Q => ∃ (W0 : Wd) (H0 : Hp) (δ : Dt) (W : Wd) (Qd : D → Wd → Prop) (Ed : XD), At W0 H0 δ W σ H ∧ FinX W0 H0 E' Ed ∧ gx Ed δ W Qd ∧ Fin W H Q Qd) (takes_len tk) hW hk hr (ok.nm c) (ok.bind _ pm _ ct)
        (fun A outer s H hr' => ⟨fun pins s' σ H' Q I ⟨W0, H0, δ, W, Qd, Ed, at_, fx, q, fin⟩ => (ok.body c f cd A outer s H E' W0 H0 Ed hr' fx).run pins s' σ H' Q I ⟨δ, W, Qd, at_, q, fin⟩⟩) h00 hva hda hca
      exact (pss_one (ps_ret (pos := p3) hp)).run pins s' σ H' De I h
    · refine ⟨fun pins s' σ H' De I ⟨hd, p, hp, hcls, hle, hs1, W', o, q⟩ => ?_⟩
      subst hd hcls
      obtain ⟨g', hg, hq⟩ := hh cdv A outer s H E a oe pn p hp hz hf
      refine (hg W' H').run pins s' σ H' De I ⟨_, W', _, ⟨o, by rw [List.length_cons, List.length_cons, List.length_replicate, hle], fun i d e => ?_, Step.refl _ _⟩, hq W' (fun d W => d = .str p.1 ∧ W = W') ⟨rfl, rfl⟩, ⟨fun _ _ _ _ z => z.elim, fun d W2 v H2 q2 s2 o2 i2 => ?_, fun _ _ _ _ z => z.elim, fun _ _ _ _ z => z.elim⟩⟩
      · match i with
        | 0 => cases e
        | 1 => cases e; exact ⟨_, hs1, .ref a⟩
        | i + 2 =>
          have e : (List.replicate m (none : Option DL.D))[i]? = some (some d) := e
          rw [List.getElem?_replicate] at e
          split at e <;> cases e
      · obtain ⟨d', W3, cv, rfl, rfl⟩ := q2
        obtain ⟨o3, i3, s3⟩ := cv H2 v o2 i2
        cases i3
        exact q H2 (s2.trans s3) o3
    · have back : ∀ (W' : Wd) (H' : Hp), Own W' H' → Step W H W' H' → H' c = none → Step W H (put W' c (.cel d)) (upd H' c (Fix oc0)) ∧ Own (put W' c (.cel d)) (upd H' c (Fix oc0)) := fun W' H' o' s' n' => by
        have s3 : Step W' H' (put W' c (.cel d)) (upd H' c (Fix oc0)) := Step.put (.inl n')
        exact ⟨s'.trans s3, o'.put (.inl n') ⟨oc0, v, u, upd_same, e4, e5, (e6.mono s').mono s3⟩⟩
      refine ⟨fun cls dx H' => dx = none ∧ ∃ p ∈ l, cls = .ref p.2 ∧ ∃ W', Own W' H' ∧ ∀ H'', Step W' H' W' H'' → Own W' H'' → Q (.str p.1) H'',
        fun cls dx H' => dx = none ∧ ∃ p ∈ l, cls = .ref p.2 ∧ ∃ W', Own W' H' ∧ Step W H W' H' ∧ Qd (.str p.1) (put W' c (.cel d)), ?_, ?_, by rw [h0]; rfl, e1, e2, e3, ⟨u, e4, e5⟩,
        del W c, forget H c, [some d], del W c, _, _, ⟨of, rfl, fun i d' e => ?_, Step.refl _ _⟩, ⟨?_, ?_⟩, q0, fun v' W' x' H' q' s' o' i' n' => ?_⟩
      · rintro cls dx σ' H' ⟨rfl, p, hp, rfl, W', o', q'⟩ hl
        have hl : σ'.length = m + 2 := hl.trans hlen
        refine ⟨true, hex p hp, fun _ ae _ => ⟨rfl, p, hp, rfl, ?_, ?_, W', o', q'⟩, fun z => by cases z⟩
        · rw [List.length_set, hl]
        · rw [List.getElem?_set_self (by omega)]
      · rintro cls dx H' ⟨rfl, p, hp, rfl, W', o', s', q'⟩ n'
        obtain ⟨s3, o3⟩ := back W' H' o' s' n'
        exact ⟨rfl, p, hp, rfl, _, o3, fun H'' s4 o4 => fin _ _ _ _ q' (s3.trans s4) o4 (.str _)⟩
      · match i with
        | 0 => cases e; exact ⟨v, rfl, e6.mono sf⟩
        | i + 1 => simp at e
      · rintro C W' H' ⟨_, p, hp, rfl, q'⟩ s' o'
        exact ⟨rfl, p, hp, rfl, W', o', sf.trans s', q'⟩
      · rintro C z W' H' a' v' ⟨z', _⟩
        cases z'
      · obtain ⟨s3, o3⟩ := back W' H' o' (sf.trans s') n'
        exact fin _ _ _ _ q' s3 o3 (i'.mono (Step.put (.inl n')))
end DL
end
section
set_option maxRecDepth 100000
set_option maxHeartbeats 4000000
namespace DL
open PySem PySem.Spec PyProof.Rows L2
def top (i : Nat) : Stmt := PySem.Challenge.pw_drawchain_k01_chains_refused.main.body.getD i (.Pass ⟨0, 0, 0, 0⟩)
abbrev s_is_number : Stmt := top 14
abbrev n_is_number : List Str := ["thing"]
theorem sc_is_number : FnScope n_is_number ["thing"] (defScope s_is_number) := ⟨rfl, rfl, rfl, by decide +kernel, rfl, by decide +kernel, by decide +kernel⟩
abbrev s_is_maker : Stmt := top 15
abbrev n_is_maker : List Str := ["maker", "number"]
theorem sc_is_maker : FnScope n_is_maker ["maker"] (defScope s_is_maker) := ⟨rfl, rfl, rfl, by decide +kernel, rfl, by decide +kernel, by decide +kernel⟩
abbrev s_is_stage : Stmt := top 16
abbrev n_is_stage : List Str := ["stage", "low", "high", "number"]
theorem sc_is_stage : FnScope n_is_stage ["stage"] (defScope s_is_stage) := ⟨rfl, rfl, rfl, by decide +kernel, rfl, by decide +kernel, by decide +kernel⟩
abbrev s_inner_of : Stmt := top 17
abbrev n_inner_of : List Str := ["stages", "stage"]
theorem sc_inner_of : FnScope n_inner_of ["stages"] (defScope s_inner_of) := ⟨rfl, rfl, rfl, by decide +kernel, rfl, by decide +kernel, by decide +kernel⟩
local macro_rules | `(tactic| walk_at "g") => `(tactic| simp only [hNext, hSeq, hDrop, hRet, hRetN, hIf, hAsg, hPar, kName, kNil, kCons, kTup, gVar, gC, gUn, gOp, gNil, gCons, gN, gTup, gLst, gB, gAnd, gOr, gNot, gTNot, gTAnd, gTOr, gIf, gChain, gCall, gMeth, gFld, hFld, gLc, gLcO, gYes, hFor, iTupG, iLst, iOwn, iR1, iR2, gOwn, fSl, gNone, gPart, rSlTup, rSlLst, rSlStr, gLM, mAppend, mExtend, mPop, mClear, gMake, hKPair, gKGetI, gNotInK, kSub, hRaise,
  fI, fI0, fU, fIsi, fIsi2, fLen, fLenS, fList, fListO, fTuple, fIdx, fCatL, fCatT, fCatO, fIn, fIntB, fMin2, seqOf_lst, seqOf_tup, seqOf_frz, seqOf_put, listOf_lst, listOf_put, wipeD, dstart, List.map_cons, List.map_nil, List.length_cons, List.length_nil, List.cons_append, List.nil_append, List.getElem?_cons_zero, List.getElem?_cons_succ, List.set_cons_zero, List.set_cons_succ, List.replicate_zero, List.replicate_succ, Nat.sub_self,
  fEq_int, fEq_str, fNe_int, fNe_str, fEq_bl, fNe_bl, str_beq, str_inj, String.reduceEq, decide_true, decide_false, Bool.not_true, Bool.not_false, Bool.true_and, Bool.and_true, Bool.false_and, Bool.and_false, Bool.or_true, Bool.true_or, Bool.or_false, Bool.false_or,
  atI_0, atI_1, atI_2, atI_3, cut_1, List.drop_succ_cons, List.drop_zero, Option.some.injEq, exists_eq_left', exists_eq_left, exists_eq_right, exists_eq_right', exists_eq, exists_eq', D.bl.injEq, D.int.injEq, D.str.injEq, D.ty.injEq, D.ref.injEq, D.tup.injEq, D.lst.injEq, D.frz.injEq, Ob.lst.injEq, Ob.ins.injEq, List.cons.injEq, and_true, true_and, and_assoc, exists_and_left, exists_and_right, exists_const, if_true, if_false, reduceIte, Bool.false_eq_true, reduceCtorEq, false_and, and_false, exists_false, false_or, or_false, ne_eq, not_false_eq_true, not_true_eq_false, implies_true, Nat.reduceLeDiff, Nat.reduceAdd, Nat.reduceSub, Nat.reduceEqDiff, sizeLine, Nat.reducePow, List.append_nil, List.length_append, put_put, put_same,
  kb_NoneType_int, kb_NoneType_bool, kb_NoneType_str, kb_NoneType_tuple, kb_NoneType_list, kb_bool_int, kb_bool_bool, kb_bool_str, kb_bool_tuple, kb_bool_list, kb_int_int, kb_int_bool, kb_int_str, kb_int_tuple, kb_int_list, kb_str_int, kb_str_bool, kb_str_str, kb_str_tuple, kb_str_list, kb_tuple_int, kb_tuple_bool, kb_tuple_str, kb_tuple_tuple, kb_tuple_list, kb_list_int, kb_list_bool, kb_list_str, kb_list_tuple, kb_list_list, kindOf_non, kindOf_bl, kindOf_int, kindOf_str, kindOf_tup, kindOf_lst, kindOf_frz, len_0, Int.cast_ofNat_Int, Int.natCast_add, Int.natCast_zero, Int.natCast_one, Int.reduceAdd, Int.reduceSub, Int.reduceLT, Int.reduceLE, Int.reduceBEq, Int.reduceEq, Int.reduceNe, beq_self_eq_true, beq_iff_eq, beq_eq_false_iff_ne, decide_eq_true_eq, decide_eq_false_iff_not, Bool.not_eq_true', Bool.not_eq_false', mkD_count, mkD_row, opD_add, opD_times, opD_keep, opD_drop, opD_take, opD_each, opD_til, opD_unlike, stgD_op, stgD_both, stgD_thn, List.map_map, List.any_cons, List.any_nil, List.all_cons, List.all_nil, inD, eqF, flatD, ixN_1_0, ixN_2_0, ixN_2_1, ixN_3_0, ixN_3_1, ixN_3_2, ixN_4_0, ixN_4_1, ixN_4_2, ixN_4_3, List.length_set, List.dropLast_concat])

theorem kpair_zero : ∀ (σ : L2.St) (H : Hp) (Q : VK), tTup (tCons (tC (.int 0)) (tCons (tC (.int 0)) tNil)) σ H Q = (∀ p, H p = none → Q (.ref p) (upd H p (.tup [.int 0, .int 0]))) := fun σ H Q => by
  show (2 ≤ sizeLine ∧ _) = _
  rw [eq_true (show 2 ≤ sizeLine by decide), true_and]
/-- the addresses of the text's things -/
structure Ads where
  (SIZES BOUNDS is_number is_maker is_stage inner_of is_chain need_chain all_makers BadChain BadMany Source Source_init Source_draw Link Link_init Link_draw Link_drawn_by Link_sought Link_dropped Link_told_again Link_ended Link_paired Link_followed Drawer Drawer_init Drawer_made Drawer_next Drawer_drawn Drawer_undone Drawer_put_back first NoWhole DrawError BadText : Addr)
/-- the facts of the text -/
structure Txt (w : World) (K : PySem.W.Frag) (mg : Str → Option Value) (a : Ads) : Prop where
  int : mg "int" = none
  bool : mg "bool" = none
  tuple : mg "tuple" = none
  str : mg "str" = none
  len : mg "len" = none
  isinstance : mg "isinstance" = none
  list : mg "list" = none
  range : mg "range" = none
  min : mg "min" = none
  max : mg "max" = none
  sum : mg "sum" = none
  zip : mg "zip" = none
  g_MOST_ROW : ∃ t, mg "MOST_ROW" = some (.int 100 t)
  g_MOST_MAKERS : ∃ t, mg "MOST_MAKERS" = some (.int 4 t)
  g_MOST_STAGES : ∃ t, mg "MOST_STAGES" = some (.int 12 t)
  g_MOST_WHEEL : ∃ t, mg "MOST_WHEEL" = some (.int 1000 t)
  g_SIZES : mg "SIZES" = some (.ref a.SIZES)
  d_SIZES : ∃ es n, KDict K w a.SIZES es n
  g_BOUNDS : mg "BOUNDS" = some (.ref a.BOUNDS)
  d_BOUNDS : ∃ es n, KDict K w a.BOUNDS es n
  z : ∀ p ∈ ([("add", 2), ("times", 2), ("keep", 3), ("drop", 2), ("take", 2), ("each", 2), ("until", 2), ("unlike", 1), ("both", 2), ("then", 2)] : List (String × Int)), ∃ t, PySem.W.nsIn K a.SIZES (Str.ofString p.1) = some (some (.int p.2 t))
  b : ∀ p ∈ ([("drop", 0, 100), ("take", 0, 100), ("each", 1, 10)] : List (String × Int × Int)), ∃ q, PySem.W.nsIn K a.BOUNDS (Str.ofString p.1) = some (some (.ref q)) ∧ ∀ H, SqT K H q [.int p.2.1, .int p.2.2]
  b0 : ∀ x ∈ (["add", "times", "keep", "until", "unlike", "both", "then"] : List String), PySem.W.nsIn K a.BOUNDS (Str.ofString x) = some none
  x_BadChain : PySem.W.excIn K a.BadChain [.type "ValueError", .type "Exception", .type "BaseException", .type "object"] "ValueError.__new__" = true
  g_BadChain : mg "BadChain" = some (.ref a.BadChain)
  k_BadChain : PySem.W.keepIn K (.ref a.BadChain) = true
  b_BadChain : PySem.W.subIn K (.ref a.BadChain) (.type "BaseException") = some true
  t_BadChain : PySem.W.typeIn K (.ref a.BadChain) = some (.type "type")
  x_BadMany : PySem.W.excIn K a.BadMany [.type "ValueError", .type "Exception", .type "BaseException", .type "object"] "ValueError.__new__" = true
  g_BadMany : mg "BadMany" = some (.ref a.BadMany)
  k_BadMany : PySem.W.keepIn K (.ref a.BadMany) = true
  b_BadMany : PySem.W.subIn K (.ref a.BadMany) (.type "BaseException") = some true
  t_BadMany : PySem.W.typeIn K (.ref a.BadMany) = some (.type "type")
  x_NoWhole : PySem.W.excIn K a.NoWhole [.type "ValueError", .type "Exception", .type "BaseException", .type "object"] "ValueError.__new__" = true
  g_NoWhole : mg "NoWhole" = some (.ref a.NoWhole)
  k_NoWhole : PySem.W.keepIn K (.ref a.NoWhole) = true
  b_NoWhole : PySem.W.subIn K (.ref a.NoWhole) (.type "BaseException") = some true
  t_NoWhole : PySem.W.typeIn K (.ref a.NoWhole) = some (.type "type")
  g_MOST_WHOLE : ∃ t, mg "MOST_WHOLE" = some (.int 10000 t)
  g_MOST_MANY : ∃ t, mg "MOST_MANY" = some (.int 1000 t)
  g_END : ∃ t, mg "END" = some (.str (Str.ofString "end") t)
  g_LONG : ∃ t, mg "LONG" = some (.str (Str.ofString "long") t)
  g_NUMBER : ∃ t, mg "NUMBER" = some (.str (Str.ofString "number") t)
  g_PATIENCE : ∃ t, mg "PATIENCE" = some (.int 200 t)
  cl_Source : Cls K a.Source
  na_Source_gives : NoAttr K a.Source "gives"
  na_Source_book : NoAttr K a.Source "book"
  na_Source_given : NoAttr K a.Source "given"
  cl_Link : Cls K a.Link
  na_Link_rule : NoAttr K a.Link "rule"
  na_Link_ahead : NoAttr K a.Link "ahead"
  na_Link_beside : NoAttr K a.Link "beside"
  na_Link_lost : NoAttr K a.Link "lost"
  na_Link_over : NoAttr K a.Link "over"
  na_Link_told : NoAttr K a.Link "told"
  na_Link_last : NoAttr K a.Link "last"
  na_Link_left : NoAttr K a.Link "left"
  cl_Drawer : Cls K a.Drawer
  na_Drawer_book : NoAttr K a.Drawer "book"
  na_Drawer_lost : NoAttr K a.Drawer "lost"
  na_Drawer_back : NoAttr K a.Drawer "back"
  na_Drawer_stuck : NoAttr K a.Drawer "stuck"
  na_Drawer_sources : NoAttr K a.Drawer "sources"
  na_Drawer_top : NoAttr K a.Drawer "top"
section
variable {P : Program} {w : World} {K : PySem.W.Frag} {mg : Str → Option Value} {base : Heap} {a : Ads}
def isNum : D → Bool
  | .int _ => true
  | _ => false
def sp_is_number : DSp := fun ds W Q _ => ∃ d n, ds = [d] ∧ Fine n d ∧ Q (.bl (isNum d)) W
theorem ok_is_number {fd : FuncData} (F : Fun K "is_number" "is_number" s_is_number a.is_number fd) (T : Txt w K mg a) : FnOk P w K mg base CX0 1 a.is_number fd ["thing"] (liftSp sp_is_number) := by
  refine F.dok sc_is_number (fun ds W Qd Ed h => ?_) (fun cdv A outer s H E W0 ds Qd Ed hr h => ?_)
  · obtain ⟨d, n, rfl, _⟩ := h; rfl
  · obtain ⟨d, n, rfl, hp, q⟩ := h
    refine ⟨_, (s_one (s_ret (d_and (d_callB call_isi s_isi (by rfl) T.isinstance (by decide +kernel) (d_cons (d_var 0) (d_cons (d_ty (n := "int") (by rfl) T.int (by decide +kernel)) d_nil))) (d_one (d_not (d_callB call_isi s_isi (by rfl) T.isinstance (by decide +kernel) (d_cons (d_var 0) (d_cons (d_ty (n := "bool") (by rfl) T.bool (by decide +kernel)) d_nil)))))))), ?_⟩
    cases d <;> first | (exact absurd hp.1 Bool.false_ne_true) | skip
    all_goals walk_at "g"
    all_goals exact done.here q
/-- [x for x in l if not is_number(x)], l ints -/
theorem nums_lc {j : Nat} {δ0 : Dt} {W : Wd} {l : List Int} {F : Addr → Wd → Prop} (hj : j < δ0.length) (hl : l.length ≤ 1000000) (q : ∀ p, W p = none → F p (put W p (.lst []))) :
    ∀ p, W p = none → lcGo p (kName j) (gTNot (gB (gCall sp_is_number XD0 (gCons (gVar j) gNil)))) (gVar j) δ0 (l.map D.int) (put W p (.lst [])) (F p) := by
  refine lc_done (fun _ => false) id (fun x hx W' Q' _ q' => ?_) (fun x hx hf => by cases hf) (by rw [List.length_map]; exact hl) fun p hp => ?_
  · obtain ⟨n, _, rfl⟩ := List.mem_map.mp hx
    refine ⟨_, List.getElem?_set_self hj, _, 0, rfl, fine_int, true, rfl, q'⟩
  · rw [show (List.filter (fun _ => false) (l.map D.int)).map id = [] from by simp]
    exact q p hp
theorem nil_eq {p : Addr} {W : Wd} {Q : D → Wd → Prop} (hp : W p = none) (q : Q (.bl true) W) : ∃ acc, put W p (.lst []) p = some (.lst acc) ∧ fEq (.lst acc) (.lst []) (del (put W p (.lst [])) p) Q := by
  refine ⟨[], put_same, ?_⟩
  rw [del_put hp]
  refine fEq_fine (n := 1) (m := 1) (fine_lst.mpr (by simp)) (fine_lst.mpr (by simp)) (by omega) (by omega) ?_
  rw [eqD_nil]
  exact q
theorem nil_ne {p : Addr} {W : Wd} {Q : D → Wd → Prop} (hp : W p = none) (q : Q (.bl false) W) : ∃ acc, put W p (.lst []) p = some (.lst acc) ∧ fNe (.lst acc) (.lst []) (del (put W p (.lst [])) p) Q := by
  refine ⟨[], put_same, ?_⟩
  rw [del_put hp]
  refine fNe_fine (n := 1) (m := 1) (fine_lst.mpr (by simp)) (fine_lst.mpr (by simp)) (by omega) (by omega) ?_
  rw [eqD_nil]
  exact q
def sp_is_maker : DSp := fun ds W Q _ => ∃ m, ds = [mkD m] ∧ okMk m ∧ Q (.bl true) W
theorem ok_is_maker {fd : FuncData} (F : Fun K "is_maker" "is_maker" s_is_maker a.is_maker fd) (T : Txt w K mg a) (h_is_number : Has P w K mg base CX0 1 "is_number" a.is_number ["thing"] sp_is_number) : FnOk P w K mg base CX0 2 a.is_maker fd ["maker"] (liftSp sp_is_maker) := by
  refine F.dok sc_is_maker (fun ds W Qd Ed h => ?_) (fun cdv A outer s H E W0 ds Qd Ed hr h => ?_)
  · obtain ⟨d, rfl, _⟩ := h; rfl
  · obtain ⟨m, rfl, hp, q⟩ := h
    obtain ⟨_, g_MOST_ROW⟩ := T.g_MOST_ROW
    refine ⟨_, (s_cons (s_if (t_bool (w_or (t_not (d_test (d_callB call_isi s_isi (by rfl) T.isinstance (by decide +kernel) (d_cons (d_var 0) (d_cons (d_ty (n := "tuple") (by rfl) T.tuple (by decide +kernel)) d_nil))))) (w_or1 (t_cmp (op_eqA hr.units) s_eq (d_callB call_len_seq s_len (by rfl) T.len PySem.boot_len (d_cons (d_var 0) d_nil)) d_int (nomark _))))) (s_one (s_ret d_bl)) s_nil)
  (s_cons (s_if (t_cmp (op_eqA hr.units) s_eq (d_ix s_idx (d_var 0) d_int (fun _ _ => rfl)) d_str (nomark _)) (s_one (s_ret (d_and (d_cmp (op_eqA hr.units) s_eq (d_callB call_len_seq s_len (by rfl) T.len PySem.boot_len (d_cons (d_var 0) d_nil)) d_int (nomark _)) (d_and (d_callH h_is_number (hr.mono (by omega)) (by rfl) (d_cons (d_ix s_idx (d_var 0) d_int (fun _ _ => rfl)) d_nil)) (d_one (d_callH h_is_number (hr.mono (by omega)) (by rfl) (d_cons (d_ix s_idx (d_var 0) d_int (fun _ _ => rfl)) d_nil))))))) s_nil)
  (s_cons (s_if (t_bool (w_or (t_cmp (op_neA hr.units) s_ne (d_ix s_idx (d_var 0) d_int (fun _ _ => rfl)) d_str (nomark _)) (w_or (t_cmp (op_neA hr.units) s_ne (d_callB call_len_seq s_len (by rfl) T.len PySem.boot_len (d_cons (d_var 0) d_nil)) d_int (nomark _)) (w_or (t_not (d_test (d_callB call_isi s_isi (by rfl) T.isinstance (by decide +kernel) (d_cons (d_ix s_idx (d_var 0) d_int (fun _ _ => rfl)) (d_cons (d_ty (n := "tuple") (by rfl) T.tuple (by decide +kernel)) d_nil))))) (w_or1 (t_cmp op_gt s_gt (d_callB call_len_seq s_len (by rfl) T.len PySem.boot_len (d_cons (d_ix s_idx (d_var 0) d_int (fun _ _ => rfl)) d_nil)) (d_globI (by rfl) g_MOST_ROW ⟨_, rfl⟩) (nomark _))))))) (s_one (s_ret d_bl)) s_nil)
  (s_one (s_ret (d_cmp (op_eqA hr.units) s_eq (d_lc rfl sc_is_maker.nd (i_tup (d_ix s_idx (d_var 0) d_int (fun _ _ => rfl))) (blkOk_by (own := [("number", 1)]) (N := n_is_maker) (sc := defScope s_is_maker) (by decide +kernel)) (simG_name (by decide)) (fun _ _ _ _ _ => pg_name (i := 1) sc_is_maker.nd rfl (Or.inl rfl)) (fun _ _ _ _ _ => t_one (t_not (d_test (d_callH h_is_number (hr.mono (by omega)) (by rfl) (d_cons (d_var 1) d_nil))))) (fun _ _ _ _ _ => (d_var 1))) (d_lst d_nil) (nomark _))))))), ?_⟩
    cases m with
    | count b s =>
      walk_at "g"
      refine ⟨_, 0, rfl, fine_int, true, rfl, _, 0, rfl, fine_int, done.here q⟩
    | row ns =>
      walk_at "g"
      have hl : ns.length ≤ 100 := hp
      rw [if_neg (by rw [List.length_map]; omega)]
      exact nums_lc (by simp) (by omega) fun p hp => nil_eq hp (done.here q)
theorem has_is_number {fd : FuncData} (F : Fun K "is_number" "is_number" s_is_number a.is_number fd) (g : mg "is_number" = some (.ref a.is_number)) (T : Txt w K mg a) : Has P w K mg base CX0 1 "is_number" a.is_number ["thing"] sp_is_number :=
  ⟨⟨fd, ok_is_number F T, F.binds fun _ _ _ _ _ _ us hl => match us, hl with | [_], _ => rfl⟩, F.kp, g⟩
def sp_is_stage : DSp := fun ds W Q _ => ∃ s, ds = [stgD s] ∧ okStg s ∧ Q (.bl true) W
theorem ok_is_stage {fd : FuncData} (F : Fun K "is_stage" "is_stage" s_is_stage a.is_stage fd) (T : Txt w K mg a) (h_is_number : Has P w K mg base CX0 1 "is_number" a.is_number ["thing"] sp_is_number) : FnOk P w K mg base CX0 2 a.is_stage fd ["stage"] (liftSp sp_is_stage) := by
  refine F.dok sc_is_stage (fun ds W Qd Ed h => ?_) (fun cdv A outer s H E W0 ds Qd Ed hr h => ?_)
  · obtain ⟨d, rfl, _⟩ := h; rfl
  · obtain ⟨m, rfl, hp, q⟩ := h
    obtain ⟨_, g_MOST_WHEEL⟩ := T.g_MOST_WHEEL
    refine ⟨_, (s_cons (s_if (t_bool (w_or (t_not (d_test (d_callB call_isi s_isi (by rfl) T.isinstance (by decide +kernel) (d_cons (d_var 0) (d_cons (d_ty (n := "tuple") (by rfl) T.tuple (by decide +kernel)) d_nil))))) (w_or (t_cmp (op_eqA hr.units) s_eq (d_callB call_len_seq s_len (by rfl) T.len PySem.boot_len (d_cons (d_var 0) d_nil)) d_int (nomark _)) (w_or1 (t_not (d_test (d_callB call_isi s_isi (by rfl) T.isinstance (by decide +kernel) (d_cons (d_ix s_idx (d_var 0) d_int (fun _ _ => rfl)) (d_cons (d_ty (n := "str") (by rfl) T.str (by decide +kernel)) d_nil))))))))) (s_one (s_ret d_bl)) s_nil)
  (s_cons (s_if (t_cmp (op_neA hr.units) s_ne (d_kgetI T.d_SIZES (pe_glob (by rfl) T.g_SIZES rfl) (d_ix s_idx (d_var 0) d_int (fun _ _ => rfl)) d_int ⟨rfl, rfl, rfl, rfl⟩) (d_callB call_len_seq s_len (by rfl) T.len PySem.boot_len (d_cons (d_var 0) d_nil)) (nomark _)) (s_one (s_ret d_bl)) s_nil)
  (s_cons (s_if (t_cmp op_in_seq s_in (d_ix s_idx (d_var 0) d_int (fun _ _ => rfl)) (d_tup (d_cons d_str (d_cons d_str d_nil))) (by rfl)) (s_one (s_ret d_bl)) s_nil)
  (s_cons (s_if (t_cmp (op_neA hr.units) s_ne (d_lc rfl sc_is_stage.nd (i_tup (d_slice sl_tupA sl_T (d_var 0) (o_some d_int) o_none)) (blkOk_by (own := [("number", 3)]) (N := n_is_stage) (sc := defScope s_is_stage) (by decide +kernel)) (simG_name (by decide)) (fun _ _ _ _ _ => pg_name (i := 3) sc_is_stage.nd rfl (Or.inl rfl)) (fun _ _ _ _ _ => t_one (t_not (d_test (d_callH h_is_number (hr.mono (by omega)) (by rfl) (d_cons (d_var 3) d_nil))))) (fun _ _ _ _ _ => (d_var 3))) (d_lst d_nil) (nomark _)) (s_one (s_ret d_bl)) s_nil)
  (s_cons (s_if (t_cmp (op_eqA hr.units) s_eq (d_ix s_idx (d_var 0) d_int (fun _ _ => rfl)) d_str (nomark _)) (s_one (s_ret (d_and (d_chain op_le s_le op_le s_le d_int (d_ix s_idx (d_var 0) d_int (fun _ _ => rfl)) (d_globI (by rfl) g_MOST_WHEEL ⟨_, rfl⟩)) (d_one (d_chain op_le s_le op_lt s_lt d_int (d_ix s_idx (d_var 0) d_int (fun _ _ => rfl)) (d_ix s_idx (d_var 0) d_int (fun _ _ => rfl))))))) s_nil)
  (s_cons (s_kpair (i := 1) (j := 2) T.d_BOUNDS rfl sc_is_stage.nd rfl rfl (Or.inl rfl) (Or.inl rfl) (pe_glob (by rfl) T.g_BOUNDS rfl) (d_ix s_idx (d_var 0) d_int (fun _ _ => rfl)) (pe_tup (pa_cons pe_int (pa_cons pe_int pa_nil))) kpair_zero ⟨rfl, rfl, rfl, rfl⟩)
  (s_one (s_ret (d_or (d_notInK T.d_BOUNDS (d_ix s_idx (d_var 0) d_int (fun _ _ => rfl)) (pe_glob (by rfl) T.g_BOUNDS rfl) (by rfl)) (d_one (d_chain op_le s_le op_le s_le (d_var 1) (d_ix s_idx (d_var 0) d_int (fun _ _ => rfl)) (d_var 2)))))))))))), ?_⟩
    have nums : ∀ (l : List Int) (w : D) (Q : D → Wd → Prop), l.length ≤ 2 → Q (.bl false) W0 → ∀ p, W0 p = none → lcGo p (kName 3) (gTNot (gB (gCall sp_is_number XD0 (gCons (gVar 3) gNil)))) (gVar 3) [some w, none, none, none] (l.map D.int) (put W0 p (.lst []))
        fun W2 => ∃ acc, W2 p = some (.lst acc) ∧ fNe (.lst acc) (.lst []) (del W2 p) Q := fun l w Q hl q => nums_lc (by simp) (by omega) fun p hp => nil_ne hp q
    have fin : ∀ (x y k : Int), x ≤ k ∧ k ≤ y → (if x ≤ k then done Qd (.bl (decide (k ≤ y))) W0 else done Qd (.bl false) W0) := fun x y k h => by
      rw [if_pos h.1, decide_eq_true h.2]
      exact done.here q
    cases m with
    | op o =>
      cases o with
      | add n =>
        obtain ⟨t, hz⟩ := T.z ("add", 2) (by simp)
        walk_at "g"
        refine .inl ⟨2, ⟨t, hz⟩, ?_⟩
        walk_at "g"
        refine nums [n] _ _ (by simp) ?_
        walk_at "g"
        exact .inr ⟨T.b0 "add" (by simp), none, T.b0 "add" (by simp), done.here q⟩
      | times n =>
        obtain ⟨t, hz⟩ := T.z ("times", 2) (by simp)
        walk_at "g"
        refine .inl ⟨2, ⟨t, hz⟩, ?_⟩
        walk_at "g"
        refine nums [n] _ _ (by simp) ?_
        walk_at "g"
        exact .inr ⟨T.b0 "times" (by simp), none, T.b0 "times" (by simp), done.here q⟩
      | til n =>
        obtain ⟨t, hz⟩ := T.z ("until", 2) (by simp)
        walk_at "g"
        refine .inl ⟨2, ⟨t, hz⟩, ?_⟩
        walk_at "g"
        refine nums [n] _ _ (by simp) ?_
        walk_at "g"
        exact .inr ⟨T.b0 "until" (by simp), none, T.b0 "until" (by simp), done.here q⟩
      | unlike =>
        obtain ⟨t, hz⟩ := T.z ("unlike", 1) (by simp)
        walk_at "g"
        refine .inl ⟨1, ⟨t, hz⟩, ?_⟩
        walk_at "g"
        refine nums [] _ _ (by simp) ?_
        walk_at "g"
        refine .inr ⟨T.b0 "unlike" (by simp), none, T.b0 "unlike" (by simp), done.here q⟩
      | drop n =>
        obtain ⟨t, hz⟩ := T.z ("drop", 2) (by simp)
        obtain ⟨q0, hb, hs⟩ := T.b ("drop", 0, 100) (by simp)
        walk_at "g"
        refine .inl ⟨2, ⟨t, hz⟩, ?_⟩
        walk_at "g"
        refine nums [n] _ _ (by simp) ?_
        walk_at "g"
        exact .inl ⟨q0, hb, 0, 100, hs, _, hb, fin 0 100 n hp⟩
      | take n =>
        obtain ⟨t, hz⟩ := T.z ("take", 2) (by simp)
        obtain ⟨q0, hb, hs⟩ := T.b ("take", 0, 100) (by simp)
        walk_at "g"
        refine .inl ⟨2, ⟨t, hz⟩, ?_⟩
        walk_at "g"
        refine nums [n] _ _ (by simp) ?_
        walk_at "g"
        exact .inl ⟨q0, hb, 0, 100, hs, _, hb, fin 0 100 n hp⟩
      | each n =>
        obtain ⟨t, hz⟩ := T.z ("each", 2) (by simp)
        obtain ⟨q0, hb, hs⟩ := T.b ("each", 1, 10) (by simp)
        walk_at "g"
        refine .inl ⟨2, ⟨t, hz⟩, ?_⟩
        walk_at "g"
        refine nums [n] _ _ (by simp) ?_
        walk_at "g"
        exact .inl ⟨q0, hb, 1, 10, hs, _, hb, fin 1 10 n hp⟩
      | keep r k =>
        obtain ⟨t, hz⟩ := T.z ("keep", 3) (by simp)
        obtain ⟨h1, h2, h3, h4⟩ := hp
        walk_at "g"
        refine .inl ⟨3, ⟨t, hz⟩, ?_⟩
        walk_at "g"
        refine nums [r, k] _ _ (by simp) ?_
        walk_at "g"
        rw [if_pos h1, if_pos h2, if_pos h3, decide_eq_true h4]
        exact done.here q
    | both i =>
      obtain ⟨t, hz⟩ := T.z ("both", 2) (by simp)
      walk_at "g"
      refine .inl ⟨2, ⟨t, hz⟩, ?_⟩
      walk_at "g"
      exact done.here q
    | thn i =>
      obtain ⟨t, hz⟩ := T.z ("then", 2) (by simp)
      walk_at "g"
      refine .inl ⟨2, ⟨t, hz⟩, ?_⟩
      walk_at "g"
      exact done.here q
def sp_inner_of : DSp := fun ds W Q _ => ∃ ss, ds = [.tup (ss.map stgD)] ∧ ss.length ≤ 100 ∧ Q (.lst ((innOf ss).map chD)) W
theorem ok_inner_of {fd : FuncData} (F : Fun K "inner_of" "inner_of" s_inner_of a.inner_of fd) (T : Txt w K mg a) : FnOk P w K mg base CX0 1 a.inner_of fd ["stages"] (liftSp sp_inner_of) := by
  refine F.dok sc_inner_of (fun ds W Qd Ed h => ?_) (fun cdv A outer s H E W0 ds Qd Ed hr h => ?_)
  · obtain ⟨d, rfl, _⟩ := h; rfl
  · obtain ⟨ss, rfl, hl, q⟩ := h
    refine ⟨_, (s_one (s_ret (d_lc rfl sc_inner_of.nd (i_tup (d_var 0)) (blkOk_by (own := [("stage", 1)]) (N := n_inner_of) (sc := defScope s_inner_of) (by decide +kernel)) (simG_name (by decide)) (fun _ _ _ _ _ => pg_name (i := 1) sc_inner_of.nd rfl (Or.inl rfl)) (fun _ _ _ _ _ => t_one (t_cmp op_in_seq s_in (d_ix s_idx (d_var 1) d_int (fun _ _ => rfl)) (d_tup (d_cons d_str (d_cons d_str d_nil))) (by rfl))) (fun _ _ _ _ _ => (d_ix s_idx (d_var 1) d_int (fun _ _ => rfl)))))), ?_⟩
    walk_at "g"
    refine lc_done isInn innD (fun x hx W' Q' _ q' => ?_) (fun x hx hf W' Q' _ q' => ?_) (by rw [List.length_map]; omega) fun p hp => ⟨_, put_same, ?_⟩
    · obtain ⟨s, _, rfl⟩ := List.mem_map.mp hx
      cases s with
      | op o => rw [isInn_op] at q'; cases o <;> (walk_at "g"; exact q')
      | both i => rw [isInn_both] at q'; walk_at "g"; exact q'
      | thn i => rw [isInn_thn] at q'; walk_at "g"; exact q'
    · obtain ⟨s, _, rfl⟩ := List.mem_map.mp hx
      cases s with
      | op o => rw [isInn_op] at hf; cases hf
      | both i => walk_at "g"; exact q'
      | thn i => walk_at "g"; exact q'
    · rw [del_put hp, inn_filter]
      exact done.here q
end
end DL
end
section
set_option maxRecDepth 100000
set_option maxHeartbeats 4000000
namespace DL
open PySem PySem.Spec PyProof.Rows L2
abbrev s_is_chain : Stmt := top 18
abbrev n_is_chain : List Str := ["chain", "left", "counts", "here", "good", "stage"]
theorem sc_is_chain : FnScope n_is_chain ["chain"] (defScope s_is_chain) := ⟨rfl, rfl, rfl, by decide +kernel, rfl, by decide +kernel, by decide +kernel⟩
abbrev s_need_chain : Stmt := top 19
abbrev n_need_chain : List Str := ["chain"]
theorem sc_need_chain : FnScope n_need_chain ["chain"] (defScope s_need_chain) := ⟨rfl, rfl, rfl, by decide +kernel, rfl, by decide +kernel, by decide +kernel⟩
abbrev s_all_makers : Stmt := top 20
abbrev n_all_makers : List Str := ["chain", "found", "one"]
theorem sc_all_makers : FnScope n_all_makers ["chain"] (defScope s_all_makers) := ⟨rfl, rfl, rfl, by decide +kernel, rfl, by decide +kernel, by decide +kernel⟩
local macro_rules | `(tactic| walk_at "g") => `(tactic| simp only [hNext, hSeq, hDrop, hRet, hRetN, hIf, hAsg, hPar, kName, kNil, kCons, kTup, gVar, gC, gUn, gOp, gNil, gCons, gN, gTup, gLst, gB, gAnd, gOr, gNot, gTNot, gTAnd, gTOr, gIf, gChain, gCall, gMeth, gFld, hFld, gLc, gLcO, gYes, hFor, iTupG, iLst, iOwn, iR1, iR2, gOwn, fSl, gNone, gPart, rSlTup, rSlLst, rSlStr, gLM, mAppend, mExtend, mPop, mClear, gMake, hKPair, gKGetI, gNotInK, kSub, hRaise,
  fI, fI0, fU, fIsi, fIsi2, fLen, fLenS, fList, fListO, fTuple, fIdx, fCatL, fCatT, fCatO, fIn, fIntB, fMin2, seqOf_lst, seqOf_tup, seqOf_frz, seqOf_put, listOf_lst, listOf_put, wipeD, dstart, List.map_cons, List.map_nil, List.length_cons, List.length_nil, List.cons_append, List.nil_append, List.getElem?_cons_zero, List.getElem?_cons_succ, List.set_cons_zero, List.set_cons_succ, List.replicate_zero, List.replicate_succ, Nat.sub_self,
  fEq_int, fEq_str, fNe_int, fNe_str, fEq_bl, fNe_bl, str_beq, str_inj, String.reduceEq, decide_true, decide_false, Bool.not_true, Bool.not_false, Bool.true_and, Bool.and_true, Bool.false_and, Bool.and_false, Bool.or_true, Bool.true_or, Bool.or_false, Bool.false_or,
  atI_0, atI_1, atI_2, atI_3, cut_1, List.drop_succ_cons, List.drop_zero, Option.some.injEq, exists_eq_left', exists_eq_left, exists_eq_right, exists_eq_right', exists_eq, exists_eq', D.bl.injEq, D.int.injEq, D.str.injEq, D.ty.injEq, D.ref.injEq, D.tup.injEq, D.lst.injEq, D.frz.injEq, Ob.lst.injEq, Ob.ins.injEq, List.cons.injEq, and_true, true_and, and_assoc, exists_and_left, exists_and_right, exists_const, if_true, if_false, reduceIte, Bool.false_eq_true, reduceCtorEq, false_and, and_false, exists_false, false_or, or_false, ne_eq, not_false_eq_true, not_true_eq_false, implies_true, Nat.reduceLeDiff, Nat.reduceAdd, Nat.reduceSub, Nat.reduceEqDiff, sizeLine, Nat.reducePow, List.append_nil, List.length_append, put_put, put_same,
  kb_NoneType_int, kb_NoneType_bool, kb_NoneType_str, kb_NoneType_tuple, kb_NoneType_list, kb_bool_int, kb_bool_bool, kb_bool_str, kb_bool_tuple, kb_bool_list, kb_int_int, kb_int_bool, kb_int_str, kb_int_tuple, kb_int_list, kb_str_int, kb_str_bool, kb_str_str, kb_str_tuple, kb_str_list, kb_tuple_int, kb_tuple_bool, kb_tuple_str, kb_tuple_tuple, kb_tuple_list, kb_list_int, kb_list_bool, kb_list_str, kb_list_tuple, kb_list_list, kindOf_non, kindOf_bl, kindOf_int, kindOf_str, kindOf_tup, kindOf_lst, kindOf_frz, len_0, Int.cast_ofNat_Int, Int.natCast_add, Int.natCast_zero, Int.natCast_one, Int.reduceAdd, Int.reduceSub, Int.reduceLT, Int.reduceLE, Int.reduceBEq, Int.reduceEq, Int.reduceNe, beq_self_eq_true, beq_iff_eq, beq_eq_false_iff_ne, decide_eq_true_eq, decide_eq_false_iff_not, Bool.not_eq_true', Bool.not_eq_false', mkD_count, mkD_row, opD_add, opD_times, opD_keep, opD_drop, opD_take, opD_each, opD_til, opD_unlike, stgD_op, stgD_both, stgD_thn, List.map_map, List.any_cons, List.any_nil, List.all_cons, List.all_nil, inD, eqF, flatD, ixN_1_0, ixN_2_0, ixN_2_1, ixN_3_0, ixN_3_1, ixN_3_2, ixN_4_0, ixN_4_1, ixN_4_2, ixN_4_3, List.length_set, List.dropLast_concat])

section
variable {P : Program} {w : World} {K : PySem.W.Frag} {mg : Str → Option Value} {base : Heap} {a : Ads}
def sp_is_chain : DSp := fun ds W Q _ => ∃ c, ds = [chD c] ∧ Good c ∧ Q (.bl true) W
/-- ahead of a turn: the chains that are left, x makers and some stages counted -/
def ChInv (W0 : Wd) (p : Addr) (c : Ch) (x : Nat) (δ : Dt) (W : Wd) : Prop := ∃ (l : List Ch) (y : Nat) (x3 x4 x5 : Option D), δ = [some (chD c), some (.ref p), some (.lst [.int (x : Int), .int (y : Int)]), x3, x4, x5] ∧ W = put W0 p (.lst (l.map chD)) ∧ (∀ c ∈ l, okCh c) ∧ x + mksL l ≤ 4 ∧ y + nstL l ≤ 12
theorem ok_is_chain {fd : FuncData} (F : Fun K "is_chain" "is_chain" s_is_chain a.is_chain fd) (T : Txt w K mg a) (h_is_maker : Has P w K mg base CX0 2 "is_maker" a.is_maker ["maker"] sp_is_maker)
    (h_is_stage : Has P w K mg base CX0 2 "is_stage" a.is_stage ["stage"] sp_is_stage) (h_inner_of : Has P w K mg base CX0 1 "inner_of" a.inner_of ["stages"] sp_inner_of) : FnOk P w K mg base CX0 3 a.is_chain fd ["chain"] (liftSp sp_is_chain) := by
  refine F.dok sc_is_chain (fun ds W Qd Ed h => ?_) (fun cdv A outer s H E W0 ds Qd Ed hr h => ?_)
  · obtain ⟨d, rfl, _⟩ := h; rfl
  · obtain ⟨c, rfl, hg, q⟩ := h
    obtain ⟨_, g_MOST_MAKERS⟩ := T.g_MOST_MAKERS
    obtain ⟨_, g_MOST_STAGES⟩ := T.g_MOST_STAGES
    refine ⟨_, (s_cons (s_set (i := 1) sc_is_chain.nd rfl (Or.inl rfl) (d_own (d_cons (d_var 0) d_nil)))
  (s_cons (s_set (i := 2) sc_is_chain.nd rfl (Or.inl rfl) (d_lst (d_cons d_int (d_cons d_int d_nil))))
  (s_cons (s_while PassesOwn.never (t_cmp (op_neA hr.units) s_ne (d_var 1) (d_lst d_nil) (nomark _)) (s_cons (s_set (i := 3) sc_is_chain.nd rfl (Or.inl rfl) (d_lm0 PySem.F.plainAttrs_list PySem.F.slot_list_pop PySem.F.type_list_pop mt_pop m_pop (d_var 1)))
  (s_cons (s_set (i := 4) sc_is_chain.nd rfl (Or.inl rfl) (d_and (d_callB call_isi s_isi (by rfl) T.isinstance (by decide +kernel) (d_cons (d_var 3) (d_cons (d_ty (n := "tuple") (by rfl) T.tuple (by decide +kernel)) d_nil))) (d_and (d_cmp (op_eqA hr.units) s_eq (d_callB call_len_seq s_len (by rfl) T.len PySem.boot_len (d_cons (d_var 3) d_nil)) d_int (nomark _)) (d_and (d_callH h_is_maker (hr.mono (by omega)) (by rfl) (d_cons (d_ix s_idx (d_var 3) d_int (fun _ _ => rfl)) d_nil)) (d_one (d_callB call_isi s_isi (by rfl) T.isinstance (by decide +kernel) (d_cons (d_ix s_idx (d_var 3) d_int (fun _ _ => rfl)) (d_cons (d_ty (n := "tuple") (by rfl) T.tuple (by decide +kernel)) d_nil))))))))
  (s_cons (s_if (t_bool (w_or (t_not (d_test (d_var 4))) (w_or1 (t_cmp (op_neA hr.units) s_ne (d_lc rfl sc_is_chain.nd (i_tup (d_ix s_idx (d_var 3) d_int (fun _ _ => rfl))) (blkOk_by (own := [("stage", 5)]) (N := n_is_chain) (sc := defScope s_is_chain) (by decide +kernel)) (simG_name (by decide)) (fun _ _ _ _ _ => pg_name (i := 5) sc_is_chain.nd rfl (Or.inl rfl)) (fun _ _ _ _ _ => t_one (t_not (d_test (d_callH h_is_stage (hr.mono (by omega)) (by rfl) (d_cons (d_var 5) d_nil))))) (fun _ _ _ _ _ => (d_var 5))) (d_lst d_nil) (nomark _))))) (s_one (s_ret d_bl)) s_nil)
  (s_cons (s_set (i := 2) sc_is_chain.nd rfl (Or.inl rfl) (d_lst (d_cons (d_op op_add s_add (d_ix s_idx (d_var 2) d_int (fun _ _ => rfl)) d_int) (d_cons (d_op op_add s_add (d_ix s_idx (d_var 2) d_int (fun _ _ => rfl)) (d_callB call_len_seq s_len (by rfl) T.len PySem.boot_len (d_cons (d_ix s_idx (d_var 3) d_int (fun _ _ => rfl)) d_nil))) d_nil))))
  (s_cons (s_if (t_bool (w_or (t_cmp op_gt s_gt (d_ix s_idx (d_var 2) d_int (fun _ _ => rfl)) (d_globI (by rfl) g_MOST_MAKERS ⟨_, rfl⟩) (nomark _)) (w_or1 (t_cmp op_gt s_gt (d_ix s_idx (d_var 2) d_int (fun _ _ => rfl)) (d_globI (by rfl) g_MOST_STAGES ⟨_, rfl⟩) (nomark _))))) (s_one (s_ret d_bl)) s_nil)
  (s_one (s_expr (d_lm PySem.F.plainAttrs_list PySem.F.slot_list_extend PySem.F.type_list_extend mt_extend m_extend (d_var 1) (d_cons (d_callH h_inner_of (hr.mono (by omega)) (by rfl) (d_cons (d_ix s_idx (d_var 3) d_int (fun _ _ => rfl)) d_nil)) d_nil))))))))))
  (s_one (s_ret d_bl))))), ?_⟩
    walk_at "g"
    intro p hp
    have dep : ∀ c : Ch, c.mks.length ≤ 4 → Fine 60 (chD c) := fun c h => (fine_ch c).1.mono (by have := depth_lt c; omega)
    refine ⟨fun m δ W => ∃ x, ChInv W0 p c x δ W ∧ m = 4 - x, ⟨4, 0, ⟨[c], 0, none, none, none, rfl, rfl, by simpa using hg.ok, by rw [mksL_one]; have := hg.nm; omega, by rw [nstL_one]; have := hg.st; omega⟩, rfl⟩, ?_⟩
    rintro m δ W ⟨x, ⟨l, y, x3, x4, x5, rfl, rfl, hok, hm, hn⟩, rfl⟩
    have each : ∀ c ∈ l, c.mks.length ≤ 4 := fun c hc => by
      obtain ⟨s, t, rfl⟩ := List.append_of_mem hc
      rw [mksL_app, show c :: t = [c] ++ t from rfl, mksL_app, mksL_one] at hm
      omega
    walk_at "g"
    refine ne_owned put_same (fun d hd => ?_) ?_
    · obtain ⟨c, hc, rfl⟩ := List.mem_map.mp hd
      exact dep c (each c hc)
    rcases List.eq_nil_or_concat l with rfl | ⟨l', z, rfl⟩
    · walk_at "g"
      refine ⟨.bl true, W0, ?_, q⟩
      have h := Conv.drop (.bl true) (put W0 p (.lst [])) p
      rw [del_put hp] at h
      exact h
    · rw [List.concat_eq_append] at hok hm hn each ⊢
      have hz : okCh z := hok z (by simp)
      have hz2 := okCh_iff.mp hz
      have zm : z.mks.length ≤ 4 := each z (by simp)
      rw [mksL_app, mksL_one, mksL_inn] at hm
      rw [nstL_app, nstL_one, nst_inn] at hn
      have nonempty : ((l' ++ [z]).map chD).isEmpty = false := by simp
      rw [nonempty]
      walk_at "g"
      refine ⟨ChInv W0 p c (x + 1), ?_, chD z, ?_, ?_⟩
      · intro δ' W' e
        exact ⟨4 - (x + 1), by omega, x + 1, e, rfl⟩
      · simp
      · rw [chD_eq z]
        walk_at "g"
        rw [← chD_eq z]
        refine ⟨z.mk, rfl, hz2.1, ?_⟩
        walk_at "g"
        refine lc_done (fun _ => false) id (fun x hx W' Q' _ q' => ?_) (fun x hx hf => by cases hf) (by rw [List.length_map]; omega) fun p' hp' => ?_
        · obtain ⟨s, hs, rfl⟩ := List.mem_map.mp hx
          walk_at "g"
          exact ⟨s, rfl, hz2.2 s hs, true, rfl, q'⟩
        · rw [show (List.filter (fun _ => false) (z.stl.map stgD)).map id = [] from by simp]
          refine nil_ne hp' ?_
          walk_at "g"
          rw [if_neg (by omega), if_neg (by rw [List.length_map]; omega)]
          refine ⟨z.stl, rfl, by omega, ?_⟩
          walk_at "g"
          have h1 := innOf_le z.stl
          have h2 := len_mksL l'
          refine ⟨by rw [List.dropLast_eq_take]; simp only [List.length_take, List.length_map, List.length_append, List.length_singleton]; omega, l' ++ innOf z.stl, y + z.stl.length, some (chD z), some (.bl true), x5, by simp [List.length_map], by simp, ?_, ?_, ?_⟩
          · intro c hc
            rcases List.mem_append.mp hc with hc | hc
            · exact hok c (List.mem_append_left _ hc)
            · exact inn_ok hz2.2 c hc
          · rw [mksL_app]; omega
          · rw [nstL_app]; omega
theorem has_is_chain {fd : FuncData} (F : Fun K "is_chain" "is_chain" s_is_chain a.is_chain fd) (g : mg "is_chain" = some (.ref a.is_chain)) (T : Txt w K mg a) (h_is_maker : Has P w K mg base CX0 2 "is_maker" a.is_maker ["maker"] sp_is_maker)
    (h_is_stage : Has P w K mg base CX0 2 "is_stage" a.is_stage ["stage"] sp_is_stage) (h_inner_of : Has P w K mg base CX0 1 "inner_of" a.inner_of ["stages"] sp_inner_of) : Has P w K mg base CX0 3 "is_chain" a.is_chain ["chain"] sp_is_chain :=
  ⟨⟨fd, ok_is_chain F T h_is_maker h_is_stage h_inner_of, F.binds fun _ _ _ _ _ _ us hl => match us, hl with | [_], _ => rfl⟩, F.kp, g⟩
def sp_need_chain : DSp := fun ds W Q _ => ∃ c, ds = [chD c] ∧ Good c ∧ Q .non W
theorem has_need_chain {fd : FuncData} (F : Fun K "need_chain" "need_chain" s_need_chain a.need_chain fd) (g : mg "need_chain" = some (.ref a.need_chain)) (T : Txt w K mg a) (h_is_chain : Has P w K mg base CX0 3 "is_chain" a.is_chain ["chain"] sp_is_chain) :
    Has P w K mg base (L2.CX P w) 4 "need_chain" a.need_chain ["chain"] sp_need_chain := by
  refine ⟨⟨fd, ?_, F.binds fun _ _ _ _ _ _ us hl => match us, hl with | [_], _ => rfl⟩, F.kp, g⟩
  refine F.dokX sc_need_chain (fun ds W Qd Ed h => ?_) (fun cdv A outer s H E W0 ds Qd Ed hr fx h => ?_)
  · obtain ⟨d, rfl, _⟩ := h; rfl
  · obtain ⟨c, rfl, hg, q⟩ := h
    refine ⟨_, (s_one (s_if (t_not (d_test (d_callH h_is_chain (hr.mono (by omega)) (by rfl) (d_cons (d_var 0) d_nil)))) (s_one (s_raise rfl (takes_of rfl rfl rfl rfl) (pmk_own PySem.F.excBase_ValueError T.x_BadChain T.g_BadChain T.k_BadChain (raises_own T.b_BadChain T.t_BadChain) rfl) fx)) s_nil)), ?_⟩
    walk_at "g"
    refine ⟨c, rfl, hg, ?_⟩
    walk_at "g"
    exact done.here q
def sp_all_makers (n : Nat) : DSp := fun ds W Q _ => ∃ c, ds = [chD c] ∧ c.depth < n ∧ c.mks.length ≤ 4 ∧ c.nst ≤ 12 ∧ Q (.lst (c.mks.map mkD)) W
theorem has_all_makers {fd : FuncData} (F : Fun K "all_makers" "all_makers" s_all_makers a.all_makers fd) (g : mg "all_makers" = some (.ref a.all_makers)) (T : Txt w K mg a) (h_inner_of : Has P w K mg base CX0 1 "inner_of" a.inner_of ["stages"] sp_inner_of) :
    ∀ n, Has P w K mg base CX0 (n + 1) "all_makers" a.all_makers ["chain"] (sp_all_makers n) := by
  intro n
  induction n with
  | zero => exact ⟨⟨fd, FnOk.never fun _ _ _ _ ⟨_, _, h, _⟩ => Nat.not_lt_zero _ h, F.binds fun _ _ _ _ _ _ us hl => match us, hl with | [_], _ => rfl⟩, F.kp, g⟩
  | succ n h_all_makers =>
    refine ⟨⟨fd, ?_, F.binds fun _ _ _ _ _ _ us hl => match us, hl with | [_], _ => rfl⟩, F.kp, g⟩
    refine F.dok sc_all_makers (fun ds W Qd Ed h => ?_) (fun cdv A outer s H E W0 ds Qd Ed hr h => ?_)
    · obtain ⟨d, rfl, _⟩ := h; rfl
    · obtain ⟨c, rfl, hd, hm, hs, q⟩ := h
      refine ⟨_, (s_cons (s_set (i := 1) sc_all_makers.nd rfl (Or.inl rfl) (d_own (d_cons (d_ix s_idx (d_var 0) d_int (fun _ _ => rfl)) d_nil)))
  (s_cons (s_for PassesOwn.never rfl (i_lst (d_callH h_inner_of (hr.mono (by omega)) (by rfl) (d_cons (d_ix s_idx (d_var 0) d_int (fun _ _ => rfl)) d_nil))) (k_name (i := 2) sc_all_makers.nd rfl (Or.inl rfl)) (s_one (s_expr (d_lm PySem.F.plainAttrs_list PySem.F.slot_list_extend PySem.F.type_list_extend mt_extend m_extend (d_var 1) (d_cons (d_callH h_all_makers (hr.mono (by omega)) (by rfl) (d_cons (d_var 2) d_nil)) d_nil)))))
  (s_one (s_ret (d_var 1))))), ?_⟩
      rw [chD_eq]
      walk_at "g"
      intro p hp
      refine ⟨c.stl, rfl, by have := stl_le c; omega, ?_⟩
      walk_at "g"
      have main : ∀ (l : List Ch) (acc : List Maker) (x2 : Option D), (∀ i ∈ l, i.depth < n ∧ i.mks.length ≤ 4 ∧ i.nst ≤ 12) → acc.length + mksL l ≤ 4 → acc ++ l.flatMap Ch.mks = c.mks →
          forGo (kName 2) (hDrop (gLM mExtend (gVar 1) (gCons (gCall (sp_all_makers n) XD0 (gCons (gVar 2) gNil)) gNil))) (l.map chD) { nx := hRet (gVar 1) { nx := fun x W => done Qd .non W, rt := done Qd }, rt := done Qd }
            [some (.tup [mkD c.mk, .tup (c.stl.map stgD)]), some (.ref p), x2] (put W0 p (.lst (acc.map mkD))) := by
        intro l
        induction l with
        | nil =>
          intro acc x2 _ _ e
          rw [List.flatMap_nil, List.append_nil] at e
          subst e
          refine ⟨.ref p, rfl, .lst (c.mks.map mkD), _, Conv.lst put_same, ?_⟩
          rw [del_put hp]
          exact q
        | cons i l ih =>
          intro acc x2 hl ha e
          obtain ⟨h1, h2, h3⟩ := hl i List.mem_cons_self
          rw [show i :: l = [i] ++ l from rfl, mksL_app, mksL_one] at ha
          simp only [List.map_cons, forGo]
          walk_at "g"
          refine ⟨i, rfl, h1, h2, h3, ?_⟩
          walk_at "g"
          refine ⟨by simp only [List.length_map]; omega, ?_⟩
          rw [← List.map_append]
          refine ih (acc ++ i.mks) _ (fun j hj => hl j (List.mem_cons_of_mem _ hj)) (by rw [List.length_append]; omega) ?_
          rw [List.append_assoc, ← e, List.flatMap_cons]
      refine main (innOf c.stl) [c.mk] none (fun i hi => ?_) (by rw [List.length_singleton, ← mksL_inn]; exact hm) (by rw [mks_inn c]; rfl)
      have h1 := inn_depth hi
      have h2 := mem_mksL hi
      have h3 := mem_nstL hi
      have h4 := mksL_inn c
      have h5 := nst_inn c
      exact ⟨by omega, by omega, by omega⟩
end
end DL
end
section
set_option maxRecDepth 100000
set_option maxHeartbeats 4000000
namespace DL
open PySem PySem.Spec PyProof.Rows L2
abbrev s_Source_init : Stmt := inClass (top 27) 0
abbrev n_Source_init : List Str := ["self", "maker", "book"]
theorem sc_Source_init : FnScope n_Source_init ["self", "maker", "book"] (defScope s_Source_init) := ⟨rfl, rfl, rfl, by decide +kernel, rfl, by decide +kernel, by decide +kernel⟩
abbrev s_Source_draw : Stmt := inClass (top 27) 1
abbrev n_Source_draw : List Str := ["self"]
theorem sc_Source_draw : FnScope n_Source_draw ["self"] (defScope s_Source_draw) := ⟨rfl, rfl, rfl, by decide +kernel, rfl, by decide +kernel, by decide +kernel⟩
abbrev s_Link_init : Stmt := inClass (top 28) 0
abbrev n_Link_init : List Str := ["self", "stage", "ahead", "beside", "undone"]
theorem sc_Link_init : FnScope n_Link_init ["self", "stage", "ahead", "beside", "undone"] (defScope s_Link_init) := ⟨rfl, rfl, rfl, by decide +kernel, rfl, by decide +kernel, by decide +kernel⟩
abbrev s_Link_draw : Stmt := inClass (top 28) 1
abbrev n_Link_draw : List Str := ["self", "word", "number"]
theorem sc_Link_draw : FnScope n_Link_draw ["self"] (defScope s_Link_draw) := ⟨rfl, rfl, rfl, by decide +kernel, rfl, by decide +kernel, by decide +kernel⟩
abbrev s_Link_drawn_by : Stmt := inClass (top 28) 2
abbrev n_Link_drawn_by : List Str := ["self", "name", "word", "number"]
theorem sc_Link_drawn_by : FnScope n_Link_drawn_by ["self", "name"] (defScope s_Link_drawn_by) := ⟨rfl, rfl, rfl, by decide +kernel, rfl, by decide +kernel, by decide +kernel⟩
abbrev s_Link_sought : Stmt := inClass (top 28) 3
abbrev n_Link_sought : List Str := ["self", "name", "word", "number", "good"]
theorem sc_Link_sought : FnScope n_Link_sought ["self", "name"] (defScope s_Link_sought) := ⟨rfl, rfl, rfl, by decide +kernel, rfl, by decide +kernel, by decide +kernel⟩
abbrev s_Link_dropped : Stmt := inClass (top 28) 4
abbrev n_Link_dropped : List Str := ["self", "word", "number"]
theorem sc_Link_dropped : FnScope n_Link_dropped ["self"] (defScope s_Link_dropped) := ⟨rfl, rfl, rfl, by decide +kernel, rfl, by decide +kernel, by decide +kernel⟩
abbrev s_Link_told_again : Stmt := inClass (top 28) 5
abbrev n_Link_told_again : List Str := ["self", "word", "number"]
theorem sc_Link_told_again : FnScope n_Link_told_again ["self"] (defScope s_Link_told_again) := ⟨rfl, rfl, rfl, by decide +kernel, rfl, by decide +kernel, by decide +kernel⟩
abbrev s_Link_ended : Stmt := inClass (top 28) 6
abbrev n_Link_ended : List Str := ["self", "word", "number"]
theorem sc_Link_ended : FnScope n_Link_ended ["self"] (defScope s_Link_ended) := ⟨rfl, rfl, rfl, by decide +kernel, rfl, by decide +kernel, by decide +kernel⟩
abbrev s_Link_paired : Stmt := inClass (top 28) 7
abbrev n_Link_paired : List Str := ["self", "word", "number", "other", "more"]
theorem sc_Link_paired : FnScope n_Link_paired ["self"] (defScope s_Link_paired) := ⟨rfl, rfl, rfl, by decide +kernel, rfl, by decide +kernel, by decide +kernel⟩
abbrev s_Link_followed : Stmt := inClass (top 28) 8
abbrev n_Link_followed : List Str := ["self", "word", "number"]
theorem sc_Link_followed : FnScope n_Link_followed ["self"] (defScope s_Link_followed) := ⟨rfl, rfl, rfl, by decide +kernel, rfl, by decide +kernel, by decide +kernel⟩
local macro_rules | `(tactic| walk_at "g") => `(tactic| simp only [hNext, hSeq, hDrop, hRet, hRetN, hIf, hAsg, hPar, kName, kNil, kCons, kTup, gVar, gC, gUn, gOp, gNil, gCons, gN, gTup, gLst, gB, gAnd, gOr, gNot, gTNot, gTAnd, gTOr, gIf, gChain, gCall, gMeth, gFld, hFld, gLc, gLcO, gYes, hFor, iTupG, iLst, iOwn, iR1, iR2, gOwn, fSl, gNone, gPart, rSlTup, rSlLst, rSlStr, gLM, mAppend, mExtend, mPop, mClear, gMake, hKPair, gKGetI, gNotInK, kSub, hRaise,
  fI, fI0, fU, fIsi, fIsi2, fLen, fLenS, fList, fListO, fTuple, fIdx, fCatL, fCatT, fCatO, fIn, fIntB, fMin2, seqOf_lst, seqOf_tup, seqOf_frz, seqOf_put, listOf_lst, listOf_put, wipeD, dstart, List.map_cons, List.map_nil, List.length_cons, List.length_nil, List.cons_append, List.nil_append, List.getElem?_cons_zero, List.getElem?_cons_succ, List.set_cons_zero, List.set_cons_succ, List.replicate_zero, List.replicate_succ, Nat.sub_self,
  fEq_int, fEq_str, fNe_int, fNe_str, fEq_bl, fNe_bl, str_beq, str_inj, String.reduceEq, decide_true, decide_false, Bool.not_true, Bool.not_false, Bool.true_and, Bool.and_true, Bool.false_and, Bool.and_false, Bool.or_true, Bool.true_or, Bool.or_false, Bool.false_or,
  atI_0, atI_1, atI_2, atI_3, cut_1, List.drop_succ_cons, List.drop_zero, Option.some.injEq, exists_eq_left', exists_eq_left, exists_eq_right, exists_eq_right', exists_eq, exists_eq', D.bl.injEq, D.int.injEq, D.str.injEq, D.ty.injEq, D.ref.injEq, D.tup.injEq, D.lst.injEq, D.frz.injEq, Ob.lst.injEq, Ob.ins.injEq, List.cons.injEq, and_true, true_and, and_assoc, exists_and_left, exists_and_right, exists_const, if_true, if_false, reduceIte, Bool.false_eq_true, reduceCtorEq, false_and, and_false, exists_false, false_or, or_false, ne_eq, not_false_eq_true, not_true_eq_false, implies_true, Nat.reduceLeDiff, Nat.reduceAdd, Nat.reduceSub, Nat.reduceEqDiff, sizeLine, Nat.reducePow, List.append_nil, List.length_append, put_put, put_same,
  kb_NoneType_int, kb_NoneType_bool, kb_NoneType_str, kb_NoneType_tuple, kb_NoneType_list, kb_bool_int, kb_bool_bool, kb_bool_str, kb_bool_tuple, kb_bool_list, kb_int_int, kb_int_bool, kb_int_str, kb_int_tuple, kb_int_list, kb_str_int, kb_str_bool, kb_str_str, kb_str_tuple, kb_str_list, kb_tuple_int, kb_tuple_bool, kb_tuple_str, kb_tuple_tuple, kb_tuple_list, kb_list_int, kb_list_bool, kb_list_str, kb_list_tuple, kb_list_list, kindOf_non, kindOf_bl, kindOf_int, kindOf_str, kindOf_tup, kindOf_lst, kindOf_frz, len_0, Int.cast_ofNat_Int, Int.natCast_add, Int.natCast_zero, Int.natCast_one, Int.reduceAdd, Int.reduceSub, Int.reduceLT, Int.reduceLE, Int.reduceBEq, Int.reduceEq, Int.reduceNe, beq_self_eq_true, beq_iff_eq, beq_eq_false_iff_ne, decide_eq_true_eq, decide_eq_false_iff_not, Bool.not_eq_true', Bool.not_eq_false', mkD_count, mkD_row, opD_add, opD_times, opD_keep, opD_drop, opD_take, opD_each, opD_til, opD_unlike, stgD_op, stgD_both, stgD_thn, List.map_map, List.any_cons, List.any_nil, List.all_cons, List.all_nil, inD, eqF, flatD, ixN_1_0, ixN_2_0, ixN_2_1, ixN_3_0, ixN_3_1, ixN_3_2, ixN_4_0, ixN_4_1, ixN_4_2, ixN_4_3, List.length_set, List.dropLast_concat, sf_gives, sf_book, sf_given, sf_put, sf_put1, lp_told1, lp_left1, sf_len, Int.add_sub_cancel, sf_draw, lf_rule, lf_ahead, lf_beside, lf_lost, lf_over, lf_told, lf_last, lf_left, lf_len, lp_over, lp_told, lp_last, lp_left, lf_draw, lf_drawn_by, lf_sought, lf_dropped, lf_told_again, lf_ended, lf_paired, lf_followed, word_num, word_fin, word_long])

section
variable {P : Program} {w : World} {K : PySem.W.Frag} {mg : Str → Option Value} {base : Heap} {a : Ads}
theorem if_t {p q : Prop} (h : p) : if true = true then p else q := by rw [if_pos rfl]; exact h
def sp_Source_init (CS : Addr) : DSp := fun ds W Q _ => ∃ p m book, ds = [.ref p, mkD m, .ref book] ∧ W p = some (.ins CS []) ∧ Q .non (put W p (.ins CS (srcF m book 0)))
theorem ok_Source_init {fd : FuncData} (F : Fun K "__init__" "Source.__init__" s_Source_init a.Source_init fd) (T : Txt w K mg a) : FnOk P w K mg base CX0 1 a.Source_init fd ["self", "maker", "book"] (liftSp (sp_Source_init a.Source)) := by
  refine F.dok sc_Source_init (fun ds W Qd Ed h => ?_) (fun cdv A outer s H E W0 ds Qd Ed hr h => ?_)
  · obtain ⟨_, _, _, rfl, _⟩ := h; rfl
  · obtain ⟨p, m, book, rfl, hp, q⟩ := h
    refine ⟨_, (s_cons (s_fld (d_var 0) (d_var 1) T.cl_Source T.na_Source_gives)
  (s_cons (s_fld (d_var 0) (d_var 2) T.cl_Source T.na_Source_book)
  (s_one (s_fld (d_var 0) d_int T.cl_Source T.na_Source_given)))), ?_⟩
    walk_at "g"
    simp only [hp]
    walk_at "g"
    have e : putG (Str.ofString "given") (.int 0) (putG (Str.ofString "book") (.ref book) (putG (Str.ofString "gives") (mkD m) [])) = srcF m book 0 := by simp [srcF, putG, str_inj]
    rw [e]
    exact ⟨by decide, by simp [putG], by simp [putG, str_inj], done.here q⟩
theorem ok_Source_draw {fd : FuncData} (F : Fun K "draw" "Source.draw" s_Source_draw a.Source_draw fd) (T : Txt w K mg a) : FnOk P w K mg base CX0 1 a.Source_draw fd ["self"] (liftSp (sp_src a.Source a.Link)) := by
  refine F.dok sc_Source_draw (fun ds W Qd Ed h => ?_) (fun cdv A outer s H E W0 ds Qd Ed hr h => ?_)
  · obtain ⟨_, _, _, _, _, _, _, rfl, _⟩ := h; rfl
  · obtain ⟨c, d, p, fp, book, lost, M, rfl, hc, h, ok, q⟩ := h
    obtain ⟨_, g_END⟩ := T.g_END
    obtain ⟨_, g_LONG⟩ := T.g_LONG
    obtain ⟨_, g_NUMBER⟩ := T.g_NUMBER
    refine ⟨_, (s_cons (s_if (t_bool (w_and (t_cmp (op_eqA hr.units) s_eq (d_ix s_idx (d_fld (d_var 0) T.cl_Source T.na_Source_gives) d_int (fun _ _ => rfl)) d_str (nomark _)) (w_and1 (t_cmp (op_eqA hr.units) s_eq (d_fld (d_var 0) T.cl_Source T.na_Source_given) (d_callB call_len_seq s_len (by rfl) T.len PySem.boot_len (d_cons (d_ix s_idx (d_fld (d_var 0) T.cl_Source T.na_Source_gives) d_int (fun _ _ => rfl)) d_nil)) (nomark _))))) (s_one (s_ret (d_tup (d_cons (d_globS (by rfl) g_END ⟨_, rfl⟩) (d_cons d_int d_nil))))) s_nil)
  (s_cons (s_if (t_cmp (op_eqA hr.units) s_eq (d_ix s_idx (d_fld (d_var 0) T.cl_Source T.na_Source_book) d_int (fun _ _ => rfl)) d_int (nomark _)) (s_one (s_ret (d_tup (d_cons (d_globS (by rfl) g_LONG ⟨_, rfl⟩) (d_cons d_int d_nil))))) s_nil)
  (s_cons (s_asg (d_op op_sub s_sub (d_ix s_idx (d_fld (d_var 0) T.cl_Source T.na_Source_book) d_int (fun _ _ => rfl)) d_int) (k_sub (d_fld (d_var 0) T.cl_Source T.na_Source_book) d_int))
  (s_cons (s_fld (d_var 0) (d_op op_add s_add (d_fld (d_var 0) T.cl_Source T.na_Source_given) d_int) T.cl_Source T.na_Source_given)
  (s_cons (s_if (t_cmp (op_eqA hr.units) s_eq (d_ix s_idx (d_fld (d_var 0) T.cl_Source T.na_Source_gives) d_int (fun _ _ => rfl)) d_str (nomark _)) (s_one (s_ret (d_tup (d_cons (d_globS (by rfl) g_NUMBER ⟨_, rfl⟩) (d_cons (d_ix s_idx (d_ix s_idx (d_fld (d_var 0) T.cl_Source T.na_Source_gives) d_int (fun _ _ => rfl)) (d_op op_sub s_sub (d_fld (d_var 0) T.cl_Source T.na_Source_given) d_int) (fun _ _ => rfl)) d_nil))))) s_nil)
  (s_one (s_ret (d_tup (d_cons (d_globS (by rfl) g_NUMBER ⟨_, rfl⟩) (d_cons (d_op op_add s_add (d_ix s_idx (d_fld (d_var 0) T.cl_Source T.na_Source_gives) d_int (fun _ _ => rfl)) (d_op op_mulW s_mul (d_op op_sub s_sub (d_fld (d_var 0) T.cl_Source T.na_Source_given) d_int) (d_ix s_idx (d_fld (d_var 0) T.cl_Source T.na_Source_gives) d_int (fun _ _ => rfl)))) d_nil)))))))))), ?_⟩
    cases c with
    | src m =>
      obtain ⟨sd, b, ls⟩ := d
      cases sd with
      | src g =>
        obtain ⟨⟨rfl, hp⟩, nod, nb, nl, ne, bk, lsx⟩ := h
        have epb : book ≠ p := by simpa using nb
        have epl : lost ≠ p := by simpa using nl
        have ebp : ¬ book = p := epb
        have epb : ¬ p = book := Ne.symm epb
        have elb : ¬ lost = book := Ne.symm ne
        have elp : ¬ lost = p := epl
        have aft : ∀ (b' g' : Nat), After a.Source a.Link W0 (put (put W0 book (.lst [.int (b' : Int)])) p (.ins a.Source (srcF m book g'))) (.src m) ⟨.src g', b', ls⟩ p [p] book lost := fun b' g' =>
          ⟨⟨⟨rfl, put_same⟩, nod, nb, nl, ne, by rw [put_ne ebp, put_same], by rw [put_ne elp, put_ne elb]; exact lsx⟩, fun x x1 x2 x3 => by rw [put_ne (by simpa using x1), put_ne x2]⟩
        have h0 : Pre a.Source a.Link W0 (.src m) ⟨.src g, b, ls⟩ p [p] book lost := ⟨⟨rfl, hp⟩, nod, nb, nl, ne, bk, lsx⟩
        cases m with
        | row ns =>
          obtain ⟨f1, f2⟩ := ok.fit
          have sbk := seqOf_ref bk
          have e1 : ∀ ob, put W0 book ob p = _ := fun ob => (put_ne epb).trans hp
          walk_at "g"
          repeat (simp only [hp, bk, sbk]; try walk_at "g")
          by_cases hg : g = ns.length
          · subst hg
            have q1 := q W0 (by simp only [draw, drawSrc, if_true]; exact After.refl h0)
            simp only [draw, drawSrc, if_true, outD, wordOf] at q1
            rw [if_pos (by rw [List.length_map])]
            exact done.here q1
          · rw [if_neg (by rw [List.length_map]; omega)]
            by_cases hb : b = 0
            · subst hb
              have q1 := q W0 (by simp only [draw, drawSrc, if_neg hg, if_true]; exact After.refl h0)
              simp only [draw, drawSrc, if_neg hg, if_true, outD, wordOf] at q1
              try walk_at "g"
              exact done.here q1
            · rw [if_neg (by omega)]
              repeat (simp only [hp, bk, sbk, e1, put_same]; try walk_at "g")
              have hg2 : g < ns.length := by omega
              refine ⟨_, atI_nat (j := g) (by rw [List.getElem?_map, List.getElem?_eq_getElem hg2]; rfl), ?_⟩
              have q1 := q _ (by simp only [draw, drawSrc, if_neg hg, if_neg hb]; exact aft (b - 1) (g + 1))
              simp only [draw, drawSrc, if_neg hg, if_neg hb, outD, wordOf] at q1
              rw [show ns.getD g 0 = ns[g] by rw [List.getD_eq_getElem?_getD, List.getElem?_eq_getElem hg2]; rfl, show (((b - 1 : Nat) : Int)) = (b : Int) - 1 by omega] at q1
              exact done.here q1
        | count x y =>
          have sbk := seqOf_ref bk
          have e1 : ∀ ob, put W0 book ob p = _ := fun ob => (put_ne epb).trans hp
          walk_at "g"
          repeat (simp only [hp, bk, sbk]; try walk_at "g")
          by_cases hb : b = 0
          · subst hb
            have q1 := q W0 (by simp only [draw, drawSrc, if_true]; exact After.refl h0)
            simp only [draw, drawSrc, if_true, outD, wordOf] at q1
            try walk_at "g"
            exact done.here q1
          · rw [if_neg (by omega)]
            repeat (simp only [hp, bk, sbk, e1, put_same]; try walk_at "g")
            have q1 := q _ (by simp only [draw, drawSrc, if_neg hb]; exact aft (b - 1) (g + 1))
            simp only [draw, drawSrc, if_neg hb, outD, wordOf] at q1
            rw [show (((b - 1 : Nat) : Int)) = (b : Int) - 1 by omega] at q1
            refine ⟨?_, done.here q1⟩
            obtain ⟨n1, n2⟩ := ok.num
            have f1 : g + b ≤ M := ok.fit
            have m1 := ok.m
            exact wide_mul (a := 65) (b := 128) (by omega) n2 (by decide) (by decide) (by decide)
      | op _ _ => exact h.nd.elim
      | two _ _ _ => exact h.nd.elim
    | _ => exact hc.elim
def sp_Link_init (CS CL : Addr) : DSp := fun ds W Q _ => ∃ p q be lost st, ds = [.ref p, st, .ref q, be, .ref lost] ∧ W p = some (.ins CL []) ∧ Q .non (put W p (.ins CL (linkF st q be lost ⟨false, 0, none, 0⟩)))
theorem ok_Link_init {fd : FuncData} (F : Fun K "__init__" "Link.__init__" s_Link_init a.Link_init fd) (T : Txt w K mg a) : FnOk P w K mg base CX0 1 a.Link_init fd ["self", "stage", "ahead", "beside", "undone"] (liftSp (sp_Link_init a.Source a.Link)) := by
  refine F.dok sc_Link_init (fun ds W Qd Ed h => ?_) (fun cdv A outer s H E W0 ds Qd Ed hr h => ?_)
  · obtain ⟨_, _, _, _, _, rfl, _⟩ := h; rfl
  · obtain ⟨p, q, be, lost, st, rfl, hp, q⟩ := h
    refine ⟨_, (s_cons (s_fld (d_var 0) (d_var 1) T.cl_Link T.na_Link_rule)
  (s_cons (s_fld (d_var 0) (d_var 2) T.cl_Link T.na_Link_ahead)
  (s_cons (s_fld (d_var 0) (d_var 3) T.cl_Link T.na_Link_beside)
  (s_cons (s_fld (d_var 0) (d_var 4) T.cl_Link T.na_Link_lost)
  (s_cons (s_fld (d_var 0) d_bl T.cl_Link T.na_Link_over)
  (s_cons (s_fld (d_var 0) d_int T.cl_Link T.na_Link_told)
  (s_cons (s_fld (d_var 0) d_non T.cl_Link T.na_Link_last)
  (s_one (s_fld (d_var 0) d_int T.cl_Link T.na_Link_left))))))))), ?_⟩
    walk_at "g"
    simp only [hp]
    walk_at "g"
    simp only [putG, str_inj, str_beq, String.reduceEq, decide_false, Bool.false_eq_true, if_false]
    refine ⟨by decide, by simp, by simp, by simp, by simp, by simp, by simp, by simp, ?_⟩
    exact done.here q
end
end DL
end
section
set_option maxRecDepth 100000
set_option maxHeartbeats 4000000
namespace DL
open PySem PySem.Spec PyProof.Rows L2
local macro_rules | `(tactic| walk_at "g") => `(tactic| simp only [hNext, hSeq, hDrop, hRet, hRetN, hIf, hAsg, hPar, kName, kNil, kCons, kTup, gVar, gC, gUn, gOp, gNil, gCons, gN, gTup, gLst, gB, gAnd, gOr, gNot, gTNot, gTAnd, gTOr, gIf, gChain, gCall, gMeth, gFld, hFld, gLc, gLcO, gYes, hFor, iTupG, iLst, iOwn, iR1, iR2, gOwn, fSl, gNone, gPart, rSlTup, rSlLst, rSlStr, gLM, mAppend, mExtend, mPop, mClear, gMake, hKPair, gKGetI, gNotInK, kSub, hRaise,
  fI, fI0, fU, fIsi, fIsi2, fLen, fLenS, fList, fListO, fTuple, fIdx, fCatL, fCatT, fCatO, fIn, fIntB, fMin2, seqOf_lst, seqOf_tup, seqOf_frz, seqOf_put, listOf_lst, listOf_put, wipeD, dstart, List.map_cons, List.map_nil, List.length_cons, List.length_nil, List.cons_append, List.nil_append, List.getElem?_cons_zero, List.getElem?_cons_succ, List.set_cons_zero, List.set_cons_succ, List.replicate_zero, List.replicate_succ, Nat.sub_self,
  fEq_int, fEq_str, fNe_int, fNe_str, fEq_bl, fNe_bl, str_beq, str_inj, String.reduceEq, decide_true, decide_false, Bool.not_true, Bool.not_false, Bool.true_and, Bool.and_true, Bool.false_and, Bool.and_false, Bool.or_true, Bool.true_or, Bool.or_false, Bool.false_or,
  atI_0, atI_1, atI_2, atI_3, cut_1, List.drop_succ_cons, List.drop_zero, Option.some.injEq, exists_eq_left', exists_eq_left, exists_eq_right, exists_eq_right', exists_eq, exists_eq', D.bl.injEq, D.int.injEq, D.str.injEq, D.ty.injEq, D.ref.injEq, D.tup.injEq, D.lst.injEq, D.frz.injEq, Ob.lst.injEq, Ob.ins.injEq, List.cons.injEq, and_true, true_and, and_assoc, exists_and_left, exists_and_right, exists_const, if_true, if_false, reduceIte, Bool.false_eq_true, reduceCtorEq, false_and, and_false, exists_false, false_or, or_false, ne_eq, not_false_eq_true, not_true_eq_false, implies_true, Nat.reduceLeDiff, Nat.reduceAdd, Nat.reduceSub, Nat.reduceEqDiff, sizeLine, Nat.reducePow, List.append_nil, List.length_append, put_put, put_same,
  kb_NoneType_int, kb_NoneType_bool, kb_NoneType_str, kb_NoneType_tuple, kb_NoneType_list, kb_bool_int, kb_bool_bool, kb_bool_str, kb_bool_tuple, kb_bool_list, kb_int_int, kb_int_bool, kb_int_str, kb_int_tuple, kb_int_list, kb_str_int, kb_str_bool, kb_str_str, kb_str_tuple, kb_str_list, kb_tuple_int, kb_tuple_bool, kb_tuple_str, kb_tuple_tuple, kb_tuple_list, kb_list_int, kb_list_bool, kb_list_str, kb_list_tuple, kb_list_list, kindOf_non, kindOf_bl, kindOf_int, kindOf_str, kindOf_tup, kindOf_lst, kindOf_frz, len_0, Int.cast_ofNat_Int, Int.natCast_add, Int.natCast_zero, Int.natCast_one, Int.reduceAdd, Int.reduceSub, Int.reduceLT, Int.reduceLE, Int.reduceBEq, Int.reduceEq, Int.reduceNe, beq_self_eq_true, beq_iff_eq, beq_eq_false_iff_ne, decide_eq_true_eq, decide_eq_false_iff_not, Bool.not_eq_true', Bool.not_eq_false', mkD_count, mkD_row, opD_add, opD_times, opD_keep, opD_drop, opD_take, opD_each, opD_til, opD_unlike, stgD_op, stgD_both, stgD_thn, List.map_map, List.any_cons, List.any_nil, List.all_cons, List.all_nil, inD, eqF, flatD, ixN_1_0, ixN_2_0, ixN_2_1, ixN_3_0, ixN_3_1, ixN_3_2, ixN_4_0, ixN_4_1, ixN_4_2, ixN_4_3, List.length_set, List.dropLast_concat, sf_gives, sf_book, sf_given, sf_put, sf_put1, lp_told1, lp_left1, sf_len, Int.add_sub_cancel, sf_draw, lf_rule, lf_ahead, lf_beside, lf_lost, lf_over, lf_told, lf_last, lf_left, lf_len, lp_over, lp_told, lp_last, lp_left, lf_draw, lf_drawn_by, lf_sought, lf_dropped, lf_told_again, lf_ended, lf_paired, lf_followed, word_num, word_fin, word_long])

section
variable {P : Program} {w : World} {K : PySem.W.Frag} {mg : Str → Option Value} {base : Heap} {a : Ads} {n : Nat}
theorem ok_Link_ended {fd : FuncData} (F : Fun K "ended" "Link.ended" s_Link_ended a.Link_ended fd) (T : Txt w K mg a) (h_Source_draw : HasM P w K mg base CX0 1 a.Source "draw" a.Source_draw ["self"] (sp_src a.Source a.Link)) (h_Link_draw : HasM P w K mg base CX0 (3 * n + 1) a.Link "draw" a.Link_draw ["self"] (sp_link a.Source a.Link n)) : FnOk P w K mg base CX0 (3 * n + 2) a.Link_ended fd ["self"] (liftSp (sp_run a.Source a.Link (isTil n) (fun _ => []) byCh)) := by
  refine F.dok sc_Link_ended (fun ds W Qd Ed h => ?_) (fun cdv A outer s H E W0 ds Qd Ed hr h => ?_)
  · obtain ⟨_, _, _, _, _, _, _, rfl, _⟩ := h; rfl
  · obtain ⟨c, d, p, fp, book, lost, M, rfl, hc, h, ok, q⟩ := h
    obtain ⟨_, g_END⟩ := T.g_END
    obtain ⟨_, g_NUMBER⟩ := T.g_NUMBER
    refine ⟨_, (s_cons (s_asg (d_alt (d_methH0 h_Source_draw (d_fld (d_var 0) T.cl_Link T.na_Link_ahead) (hr.mono (by omega))) (d_methH0 h_Link_draw (d_fld (d_var 0) T.cl_Link T.na_Link_ahead) (hr.mono (by omega)))) (k_tup (n := 2) rfl (k_cons (k_name (i := 1) sc_Link_ended.nd rfl (Or.inl rfl)) (k_cons (k_name (i := 2) sc_Link_ended.nd rfl (Or.inl rfl)) k_nil))))
  (s_cons (s_if (t_bool (w_and (t_cmp (op_eqA hr.units) s_eq (d_var 1) (d_globS (by rfl) g_NUMBER ⟨_, rfl⟩) (nomark _)) (w_and1 (t_cmp op_ge s_ge (d_var 2) (d_ix s_idx (d_fld (d_var 0) T.cl_Link T.na_Link_rule) d_int (fun _ _ => rfl)) (nomark _))))) (s_cons (s_expr (d_lm PySem.F.plainAttrs_list PySem.F.slot_list_append PySem.F.type_list_append mt_append m_append (d_fld (d_var 0) T.cl_Link T.na_Link_lost) (d_cons (d_var 2) d_nil)))
  (s_one (s_ret (d_tup (d_cons (d_globS (by rfl) g_END ⟨_, rfl⟩) (d_cons d_int d_nil)))))) s_nil)
  (s_one (s_ret (d_tup (d_cons (d_var 1) (d_cons (d_var 2) d_nil))))))), ?_⟩
    match c, hc with
    | .op c (.til m), hc =>
      obtain ⟨sd, b, ls⟩ := d
      obtain ⟨n', s', q', fq, e, rfl, hp, n1, n2, n3, pr⟩ := h.opn
      simp only at e
      subst e
      have okc := ok.opn.1
      have b1 : byCh (.op c (.til m)) ⟨.op n' s', b, ls⟩ = byOp (.til m) (draw c) (capD c) s' ⟨n', b, ls⟩ := rfl
      rw [b1] at q
      simp only [byOp] at q
      simp only at pr okc
      walk_at "g"
      refine alt_draw (fun k hk => ?_) hc pr okc (fun W1 a1 kp ok1 => ?_)
      · walk_at "g"
        simp only [hp]
        walk_at "g"
        exact hk
      · generalize draw c ⟨n', b, ls⟩ = r1 at a1 kp ok1 q ⊢
        obtain ⟨w1, k1, sd1, b', ls1⟩ := r1
        have hp1 := (a1.rest p n1 n2 n3).trans hp
        simp only at q a1 kp ok1
        cases w1
        · simp only [outD, wordOf]
          walk_at "g"
          repeat (simp only [hp1]; try walk_at "g")
          have hl : W1 lost = some (.lst (ls1.map D.int)) := a1.pre.ls
          have hl2 : ls1.length ≤ 1000 := by have := ok1.ls; simp only at this; omega
          by_cases hm : m ≤ k1
          · rw [if_pos hm]
            have q1 := q (put W1 lost (.lst (ls1.map D.int ++ [.int k1]))) (by rw [if_pos ⟨rfl, hm⟩]; exact (a1.lose k1).op_same n1 n2 n3 hp)
            rw [if_pos ⟨rfl, hm⟩] at q1
            exact ⟨⟨_, hl⟩, _, hl, by rw [List.length_map]; omega, done.here q1⟩
          · rw [if_neg hm]
            have q1 := q W1 (by rw [if_neg fun z => hm z.2]; exact a1.op_same n1 n2 n3 hp)
            rw [if_neg fun z => hm z.2] at q1
            exact done.here q1
        all_goals
          simp only [outD, wordOf]
          walk_at "g"
          exact done.here (q W1 (a1.op_same n1 n2 n3 hp))
theorem ok_Link_told_again {fd : FuncData} (F : Fun K "told_again" "Link.told_again" s_Link_told_again a.Link_told_again fd) (T : Txt w K mg a) (h_Source_draw : HasM P w K mg base CX0 1 a.Source "draw" a.Source_draw ["self"] (sp_src a.Source a.Link)) (h_Link_draw : HasM P w K mg base CX0 (3 * n + 1) a.Link "draw" a.Link_draw ["self"] (sp_link a.Source a.Link n)) : FnOk P w K mg base CX0 (3 * n + 2) a.Link_told_again fd ["self"] (liftSp (sp_run a.Source a.Link (isEach n) (fun _ => []) byCh)) := by
  refine F.dok sc_Link_told_again (fun ds W Qd Ed h => ?_) (fun cdv A outer s H E W0 ds Qd Ed hr h => ?_)
  · obtain ⟨_, _, _, _, _, _, _, rfl, _⟩ := h; rfl
  · obtain ⟨c, d, p, fp, book, lost, M, rfl, hc, h, ok, q⟩ := h
    obtain ⟨_, g_END⟩ := T.g_END
    obtain ⟨_, g_NUMBER⟩ := T.g_NUMBER
    refine ⟨_, (s_cons (s_if (t_cmp (op_eqA hr.units) s_eq (d_fld (d_var 0) T.cl_Link T.na_Link_left) d_int (nomark _)) (s_cons (s_asg (d_alt (d_methH0 h_Source_draw (d_fld (d_var 0) T.cl_Link T.na_Link_ahead) (hr.mono (by omega))) (d_methH0 h_Link_draw (d_fld (d_var 0) T.cl_Link T.na_Link_ahead) (hr.mono (by omega)))) (k_tup (n := 2) rfl (k_cons (k_name (i := 1) sc_Link_told_again.nd rfl (Or.inl rfl)) (k_cons (k_name (i := 2) sc_Link_told_again.nd rfl (Or.inl rfl)) k_nil))))
  (s_cons (s_if (t_cmp (op_neA hr.units) s_ne (d_var 1) (d_globS (by rfl) g_NUMBER ⟨_, rfl⟩) (nomark _)) (s_one (s_ret (d_tup (d_cons (d_var 1) (d_cons (d_var 2) d_nil))))) s_nil)
  (s_cons (s_fld (d_var 0) (d_var 2) T.cl_Link T.na_Link_last)
  (s_one (s_fld (d_var 0) (d_ix s_idx (d_fld (d_var 0) T.cl_Link T.na_Link_rule) d_int (fun _ _ => rfl)) T.cl_Link T.na_Link_left))))) s_nil)
  (s_cons (s_fld (d_var 0) (d_op op_sub s_sub (d_fld (d_var 0) T.cl_Link T.na_Link_left) d_int) T.cl_Link T.na_Link_left)
  (s_one (s_ret (d_tup (d_cons (d_globS (by rfl) g_NUMBER ⟨_, rfl⟩) (d_cons (d_fld (d_var 0) T.cl_Link T.na_Link_last) d_nil))))))), ?_⟩
    match c, hc with
    | .op c (.each m), hc =>
      obtain ⟨sd, b, ls⟩ := d
      obtain ⟨n', s', q', fq, e, rfl, hp, n1, n2, n3, pr⟩ := h.opn
      simp only at e
      subst e
      have okc := ok.opn.1
      have b1 : byCh (.op c (.each m)) ⟨.op n' s', b, ls⟩ = byOp (.each m) (draw c) (capD c) s' ⟨n', b, ls⟩ := rfl
      rw [b1] at q
      simp only [byOp] at q
      simp only at pr okc
      have hm1 : 1 ≤ m := ok.opn.2
      obtain ⟨m, rfl⟩ : ∃ j : Nat, m = (j : Int) := ⟨m.toNat, by omega⟩
      have ls0 : s'.left ≠ 0 → s'.last ≠ none := ok.fit.2.2
      walk_at "g"
      repeat (simp only [hp]; try walk_at "g")
      by_cases hl : s'.left = 0
      · rw [if_pos (by omega)]
        simp only [if_pos hl] at q
        refine alt_draw (fun k hk => ?_) hc pr okc (fun W1 a1 kp ok1 => ?_)
        · walk_at "g"
          repeat (simp only [hp]; try walk_at "g")
          exact hk
        · generalize draw c ⟨n', b, ls⟩ = r1 at a1 kp ok1 q ⊢
          obtain ⟨w1, k1, sd1, b', ls1⟩ := r1
          have hp1 := (a1.rest p n1 n2 n3).trans hp
          simp only at q a1 kp ok1
          cases w1
          · simp only [outD, wordOf]
            walk_at "g"
            repeat (simp only [hp1]; try walk_at "g")
            rw [show (m : Int) - 1 = ((m - 1 : Nat) : Int) by omega]
            try walk_at "g"
            have q1 := q _ (a1.op (s' := { s' with last := some k1, left := m - 1 }) n1 n2 n3)
            exact done.here q1
          all_goals
            simp only [outD, wordOf]
            walk_at "g"
            exact done.here (q W1 (a1.op_same n1 n2 n3 hp))
      · rw [if_neg (by omega)]
        simp only [if_neg hl] at q
        rw [show (s'.left : Int) - 1 = ((s'.left - 1 : Nat) : Int) by omega]
        walk_at "g"
        repeat (simp only [hp]; try walk_at "g")
        have q1 := q _ ((After.refl pr).op (s' := { s' with left := s'.left - 1 }) n1 n2 n3)
        obtain ⟨ov, to, la, le⟩ := s'
        simp only at ls0 hl q1 ⊢
        cases la with
        | none => exact (ls0 hl rfl).elim
        | some v => exact done.here q1
theorem ok_Link_paired {fd : FuncData} (F : Fun K "paired" "Link.paired" s_Link_paired a.Link_paired fd) (T : Txt w K mg a) (h_Source_draw : HasM P w K mg base CX0 1 a.Source "draw" a.Source_draw ["self"] (sp_src a.Source a.Link)) (h_Link_draw : HasM P w K mg base CX0 (3 * n + 1) a.Link "draw" a.Link_draw ["self"] (sp_link a.Source a.Link n)) : FnOk P w K mg base CX0 (3 * n + 2) a.Link_paired fd ["self"] (liftSp (sp_run a.Source a.Link (isBoth n) (fun _ => []) byCh)) := by
  refine F.dok sc_Link_paired (fun ds W Qd Ed h => ?_) (fun cdv A outer s H E W0 ds Qd Ed hr h => ?_)
  · obtain ⟨_, _, _, _, _, _, _, rfl, _⟩ := h; rfl
  · obtain ⟨c, d, p, fp, book, lost, M, rfl, hc, h, ok, q⟩ := h
    obtain ⟨_, g_END⟩ := T.g_END
    obtain ⟨_, g_NUMBER⟩ := T.g_NUMBER
    refine ⟨_, (s_cons (s_asg (d_alt (d_methH0 h_Source_draw (d_fld (d_var 0) T.cl_Link T.na_Link_ahead) (hr.mono (by omega))) (d_methH0 h_Link_draw (d_fld (d_var 0) T.cl_Link T.na_Link_ahead) (hr.mono (by omega)))) (k_tup (n := 2) rfl (k_cons (k_name (i := 1) sc_Link_paired.nd rfl (Or.inl rfl)) (k_cons (k_name (i := 2) sc_Link_paired.nd rfl (Or.inl rfl)) k_nil))))
  (s_cons (s_if (t_cmp (op_neA hr.units) s_ne (d_var 1) (d_globS (by rfl) g_NUMBER ⟨_, rfl⟩) (nomark _)) (s_one (s_ret (d_tup (d_cons (d_var 1) (d_cons (d_var 2) d_nil))))) s_nil)
  (s_cons (s_asg (d_alt (d_methH0 h_Source_draw (d_fld (d_var 0) T.cl_Link T.na_Link_beside) (hr.mono (by omega))) (d_methH0 h_Link_draw (d_fld (d_var 0) T.cl_Link T.na_Link_beside) (hr.mono (by omega)))) (k_tup (n := 2) rfl (k_cons (k_name (i := 3) sc_Link_paired.nd rfl (Or.inl rfl)) (k_cons (k_name (i := 4) sc_Link_paired.nd rfl (Or.inl rfl)) k_nil))))
  (s_cons (s_if (t_cmp (op_eqA hr.units) s_eq (d_var 3) (d_globS (by rfl) g_END ⟨_, rfl⟩) (nomark _)) (s_one (s_expr (d_lm PySem.F.plainAttrs_list PySem.F.slot_list_append PySem.F.type_list_append mt_append m_append (d_fld (d_var 0) T.cl_Link T.na_Link_lost) (d_cons (d_var 2) d_nil)))) s_nil)
  (s_one (s_ret (d_tup (d_cons (d_var 3) (d_cons (d_op op_add s_add (d_var 2) (d_var 4)) d_nil))))))))), ?_⟩
    match c, hc with
    | .both c i, hc =>
      obtain ⟨sd, b, ls⟩ := d
      obtain ⟨n', j', s', q', fq, r', fr, e, rfl, t⟩ := h.both
      simp only at e
      subst e
      have okc := ok.both
      have n1 := t.parts.1
      have n2 := t.parts.2.2.2.2.2.1
      have n3 := t.parts.2.2.2.2.2.2.1
      have hp := t.at_
      have b1 : byCh (.both c i) ⟨.two n' j' s', b, ls⟩ = byBoth (draw c) (draw i) s' n' j' b ls := rfl
      rw [b1] at q
      simp only [byBoth] at q
      walk_at "g"
      refine alt_draw (fun k hk => ?_) hc.1 t.first okc.1 (fun W1 a1 kp ok1 => ?_)
      · walk_at "g"
        simp only [hp]
        walk_at "g"
        exact hk
      · obtain ⟨t1, fr1⟩ := t.draw1 a1
        have ok2 := okc.2 kp
        generalize draw c ⟨n', b, ls⟩ = r1 at a1 kp ok1 q t1 ok2 ⊢
        obtain ⟨w1, k1, sd1, b', ls1⟩ := r1
        have hp1 := t1.at_
        simp only at q a1 kp ok1 t1 ok2
        cases w1
        · simp only [outD, wordOf]
          walk_at "g"
          refine alt_draw (fun k hk => ?_) hc.2 t1.second ok2 (fun W2 a2 kp2 ok3 => ?_)
          · walk_at "g"
            simp only [hp1]
            walk_at "g"
            exact hk
          · obtain ⟨t2, fr2⟩ := t1.draw2 a2
            simp only [if_true] at q
            generalize draw i ⟨j', b', ls1⟩ = r2 at a2 kp2 ok3 q t2 ⊢
            obtain ⟨w2, k2, sd2, b2, ls2⟩ := r2
            have hp2 := t2.at_
            simp only at q a2 kp2 ok3 t2
            cases w2
            case fin =>
              simp only [outD, wordOf]
              walk_at "g"
              repeat (simp only [hp2]; try walk_at "g")
              have hl : W2 lost = some (.lst (ls2.map D.int)) := t2.lsx
              have hl2 : ls2.length ≤ 1000 := by have := ok3.ls; simp only at this; omega
              obtain ⟨t3, fr3⟩ := t2.lose k1
              have q1 := q _ ⟨t3.toBoth, fun x x1 x2 x3 => (fr3 x x1 x2 x3).trans ((fr2 x x1 x2 x3).trans (fr1 x x1 x2 x3))⟩
              exact ⟨⟨_, hl⟩, _, hl, by rw [List.length_map]; omega, done.here q1⟩
            all_goals
              simp only [outD, wordOf]
              walk_at "g"
              exact done.here (q W2 ⟨t2.toBoth, fun x x1 x2 x3 => (fr2 x x1 x2 x3).trans (fr1 x x1 x2 x3)⟩)
        all_goals
          simp only [outD, wordOf]
          walk_at "g"
          exact done.here (q W1 ⟨t1.toBoth, fr1⟩)
theorem ok_Link_followed {fd : FuncData} (F : Fun K "followed" "Link.followed" s_Link_followed a.Link_followed fd) (T : Txt w K mg a) (h_Source_draw : HasM P w K mg base CX0 1 a.Source "draw" a.Source_draw ["self"] (sp_src a.Source a.Link)) (h_Link_draw : HasM P w K mg base CX0 (3 * n + 1) a.Link "draw" a.Link_draw ["self"] (sp_link a.Source a.Link n)) : FnOk P w K mg base CX0 (3 * n + 2) a.Link_followed fd ["self"] (liftSp (sp_run a.Source a.Link (isThn n) (fun _ => []) byCh)) := by
  refine F.dok sc_Link_followed (fun ds W Qd Ed h => ?_) (fun cdv A outer s H E W0 ds Qd Ed hr h => ?_)
  · obtain ⟨_, _, _, _, _, _, _, rfl, _⟩ := h; rfl
  · obtain ⟨c, d, p, fp, book, lost, M, rfl, hc, h, ok, q⟩ := h
    obtain ⟨_, g_END⟩ := T.g_END
    obtain ⟨_, g_NUMBER⟩ := T.g_NUMBER
    refine ⟨_, (s_cons (s_if (t_cmp (op_eqA hr.units) s_eq (d_fld (d_var 0) T.cl_Link T.na_Link_left) d_int (nomark _)) (s_cons (s_asg (d_alt (d_methH0 h_Source_draw (d_fld (d_var 0) T.cl_Link T.na_Link_ahead) (hr.mono (by omega))) (d_methH0 h_Link_draw (d_fld (d_var 0) T.cl_Link T.na_Link_ahead) (hr.mono (by omega)))) (k_tup (n := 2) rfl (k_cons (k_name (i := 1) sc_Link_followed.nd rfl (Or.inl rfl)) (k_cons (k_name (i := 2) sc_Link_followed.nd rfl (Or.inl rfl)) k_nil))))
  (s_cons (s_if (t_cmp (op_neA hr.units) s_ne (d_var 1) (d_globS (by rfl) g_END ⟨_, rfl⟩) (nomark _)) (s_one (s_ret (d_tup (d_cons (d_var 1) (d_cons (d_var 2) d_nil))))) s_nil)
  (s_one (s_fld (d_var 0) d_int T.cl_Link T.na_Link_left)))) s_nil)
  (s_one (s_ret (d_alt (d_methH0 h_Source_draw (d_fld (d_var 0) T.cl_Link T.na_Link_beside) (hr.mono (by omega))) (d_methH0 h_Link_draw (d_fld (d_var 0) T.cl_Link T.na_Link_beside) (hr.mono (by omega))))))), ?_⟩
    match c, hc with
    | .thn c i, hc =>
      obtain ⟨sd, b, ls⟩ := d
      obtain ⟨n', j', s', q', fq, r', fr, e, rfl, t⟩ := h.thn
      simp only at e
      subst e
      have okc := ok.thn
      have n1 := t.parts.1
      have n2 := t.parts.2.2.2.2.2.1
      have n3 := t.parts.2.2.2.2.2.2.1
      have hp := t.at_
      have b1 : byCh (.thn c i) ⟨.two n' j' s', b, ls⟩ = byThen (draw c) (draw i) s' n' j' b ls := rfl
      rw [b1] at q
      simp only [byThen] at q
      walk_at "g"
      repeat (simp only [hp]; try walk_at "g")
      by_cases hl : s'.left = 0
      · rw [if_pos (by omega)]
        simp only [if_pos hl] at q
        refine alt_draw (fun k hk => ?_) hc.1 t.first okc.1 (fun W1 a1 kp ok1 => ?_)
        · walk_at "g"
          repeat (simp only [hp]; try walk_at "g")
          exact hk
        · obtain ⟨t1, fr1⟩ := t.draw1 a1
          have ok2 := okc.2.2 kp
          generalize draw c ⟨n', b, ls⟩ = r1 at a1 kp ok1 q t1 ok2 ⊢
          obtain ⟨w1, k1, sd1, b', ls1⟩ := r1
          have hp1 := t1.at_
          simp only at q a1 kp ok1 t1 ok2
          cases w1
          case fin =>
            simp only [outD, wordOf]
            walk_at "g"
            repeat (simp only [hp1]; try walk_at "g")
            obtain ⟨t3, fr3⟩ := t1.set (s' := { s' with left := 1 })
            rw [show putG (Str.ofString "left") (.int 1) (linkF (thenD i) q' (.ref r') lost s') = linkF (thenD i) q' (.ref r') lost { s' with left := 1 } from lp_left (n := 1)]
            have hp3 := t3.at_
            refine alt_draw (fun k hk => ?_) hc.2 t3.second ok2 (fun W2 a2 kp2 ok3 => ?_)
            · walk_at "g"
              repeat (simp only [hp3]; try walk_at "g")
              exact hk
            · obtain ⟨t2, fr2⟩ := t3.draw2 a2
              simp only [if_true] at q
              have q1 := q _ ⟨t2.toThn, fun x x1 x2 x3 => (fr2 x x1 x2 x3).trans ((fr3 x x1 x2 x3).trans (fr1 x x1 x2 x3))⟩
              exact done.here q1
          all_goals
            simp only [outD, wordOf]
            walk_at "g"
            exact done.here (q W1 ⟨t1.toThn, fr1⟩)
      · rw [if_neg (by omega)]
        simp only [if_neg hl] at q
        refine alt_draw (fun k hk => ?_) hc.2 t.second okc.2.1 (fun W2 a2 kp2 ok3 => ?_)
        · walk_at "g"
          repeat (simp only [hp]; try walk_at "g")
          exact hk
        · obtain ⟨t2, fr2⟩ := t.draw2 a2
          exact done.here (q _ ⟨t2.toThn, fr2⟩)
theorem ok_Link_sought {fd : FuncData} (F : Fun K "sought" "Link.sought" s_Link_sought a.Link_sought fd) (T : Txt w K mg a) (h_Source_draw : HasM P w K mg base CX0 1 a.Source "draw" a.Source_draw ["self"] (sp_src a.Source a.Link)) (h_Link_draw : HasM P w K mg base CX0 (3 * n + 1) a.Link "draw" a.Link_draw ["self"] (sp_link a.Source a.Link n)) : FnOk P w K mg base CX0 (3 * n + 2) a.Link_sought fd ["self", "name"] (liftSp (sp_run a.Source a.Link (isSeek n) (fun c => nmOf (nmCh c)) byCh)) := by
  refine F.dok sc_Link_sought (fun ds W Qd Ed h => ?_) (fun cdv A outer s H E W0 ds Qd Ed hr h => ?_)
  · obtain ⟨_, _, _, _, _, _, _, rfl, _⟩ := h; rfl
  · obtain ⟨c, d, p, fp, book, lost, M, rfl, hc, h, ok, q⟩ := h
    obtain ⟨_, g_END⟩ := T.g_END
    obtain ⟨_, g_NUMBER⟩ := T.g_NUMBER
    refine ⟨_, (s_one (s_while PassesOwn.never (d_test d_bl) (s_cons (s_asg (d_alt (d_methH0 h_Source_draw (d_fld (d_var 0) T.cl_Link T.na_Link_ahead) (hr.mono (by omega))) (d_methH0 h_Link_draw (d_fld (d_var 0) T.cl_Link T.na_Link_ahead) (hr.mono (by omega)))) (k_tup (n := 2) rfl (k_cons (k_name (i := 2) sc_Link_sought.nd rfl (Or.inl rfl)) (k_cons (k_name (i := 3) sc_Link_sought.nd rfl (Or.inl rfl)) k_nil))))
  (s_cons (s_if (t_cmp (op_neA hr.units) s_ne (d_var 2) (d_globS (by rfl) g_NUMBER ⟨_, rfl⟩) (nomark _)) (s_one (s_ret (d_tup (d_cons (d_var 2) (d_cons (d_var 3) d_nil))))) s_nil)
  (s_cons (s_if (t_cmp (op_eqA hr.units) s_eq (d_var 1) d_str (nomark _)) (s_one (s_set (i := 4) sc_Link_sought.nd rfl (Or.inl rfl) (d_cmp (op_eqA hr.units) s_eq (d_op op_mod s_mod (d_var 3) (d_ix s_idx (d_fld (d_var 0) T.cl_Link T.na_Link_rule) d_int (fun _ _ => rfl))) (d_ix s_idx (d_fld (d_var 0) T.cl_Link T.na_Link_rule) d_int (fun _ _ => rfl)) (nomark _)))) (s_one (s_set (i := 4) sc_Link_sought.nd rfl (Or.inl rfl) (d_or (d_cmp (op_eqA hr.units) s_eq (d_fld (d_var 0) T.cl_Link T.na_Link_told) d_int (nomark _)) (d_one (d_cmp (op_neA hr.units) s_ne (d_var 3) (d_fld (d_var 0) T.cl_Link T.na_Link_last) (nomark _)))))))
  (s_one (s_if (d_test (d_var 4)) (s_cons (s_fld (d_var 0) (d_var 3) T.cl_Link T.na_Link_last)
  (s_one (s_ret (d_tup (d_cons (d_var 2) (d_cons (d_var 3) d_nil)))))) s_nil))))))), ?_⟩
    match c, hc with
    | .op c (.keep x y), hc =>
      obtain ⟨sd, b, ls⟩ := d
      obtain ⟨n', s', q', fq, e, rfl, hp, n1, n2, n3, pr⟩ := h.opn
      simp only at e
      subst e
      have okc := ok.opn.1
      have okn := ok.opn.2
      have b1 : byCh (.op c (.keep x y)) ⟨.op n' s', b, ls⟩ = byOp (.keep x y) (draw c) (capD c) s' ⟨n', b, ls⟩ := rfl
      rw [b1] at q
      simp only [byOp] at q
      simp only at pr okc
      simp only [nmOf, nmCh, opNm]
      walk_at "g"
      refine ⟨SeekI a.Source a.Link W0 c p "keep" q' fq book lost M (fun k => k % y == x) ⟨n', b, ls⟩, ⟨_, ⟨n', b, ls⟩, none, none, none, rfl, rfl, After.refl pr, okc, rfl⟩, ?_⟩
      rintro m δ W ⟨d1, x2, x3, x4, rfl, rfl, ad, okd, es⟩
      refine ⟨true, rfl, if_t ?_⟩
      refine ⟨SeekN a.Source a.Link W0 c p "keep" q' fq book lost M (fun k => k % y == x) ⟨n', b, ls⟩ (capD c d1), fun _ _ h => h, ?_⟩
      walk_at "g"
      have se := seek_eq (draw_ok okd.m okd.num) (good := (fun k => k % y == x)) okd.fit
      refine alt_draw (fun k hk => ?_) hc ad.pre okd (fun W1 a1 kp ok1 => ?_)
      · walk_at "g"
        simp only [(ad.rest p n1 n2 n3).trans hp]
        walk_at "g"
        exact hk
      · have a1 := ad.trans a1
        rw [es] at se
        rw [se] at q
        simp only [outD]
        have dec := kp.dec
        generalize draw c d1 = r1 at a1 kp ok1 q se dec ⊢
        obtain ⟨w1, k1, sd1, b', ls1⟩ := r1
        have hp1 := (a1.rest p n1 n2 n3).trans hp
        simp only at q a1 kp ok1 se dec
        cases w1
        · simp only [wordOf]
          walk_at "g"
          repeat (simp only [hp1]; try walk_at "g")
          by_cases hg : (fun k => k % y == x) k1 = true
          · have hgf : ¬ (W3.num = W3.num ∧ (fun k => k % y == x) k1 = false) := fun z => by rw [hg] at z; cases z.2
            rw [if_neg hgf] at q
            simp only [if_true] at q
            have q1 := q _ (a1.op (s' := { s' with last := some k1 }) n1 n2 n3)
            refine ⟨okn, ?_⟩
            rw [if_pos (by simpa using hg)]
            exact done.here q1
          · have hgf : (W3.num = W3.num ∧ (fun k => k % y == x) k1 = false) := ⟨rfl, by simpa using hg⟩
            rw [if_pos hgf] at se
            have nx : ∀ x4, SeekN a.Source a.Link W0 c p "keep" q' fq book lost M (fun k => k % y == x) ⟨n', b, ls⟩ (capD c d1) [some (.ref p), some (.str (Str.ofString "keep")), some (.str (Str.ofString "number")), some (.int k1), x4] W1 := fun x4 => ⟨_, dec rfl, ⟨sd1, b', ls1⟩, _, _, _, rfl, rfl, a1, ok1, se.symm⟩
            refine ⟨okn, ?_⟩
            rw [if_neg (by simpa using hg)]
            exact nx _
        all_goals
          simp only [wordOf]
          walk_at "g"
          rw [if_neg (by simp)] at q
          exact done.here (q W1 (a1.op_same n1 n2 n3 hp))
    | .op c .unlike, hc =>
      obtain ⟨sd, b, ls⟩ := d
      obtain ⟨n', s', q', fq, e, rfl, hp, n1, n2, n3, pr⟩ := h.opn
      simp only at e
      subst e
      have okc := ok.opn.1
      have b1 : byCh (.op c .unlike) ⟨.op n' s', b, ls⟩ = byOp .unlike (draw c) (capD c) s' ⟨n', b, ls⟩ := rfl
      rw [b1] at q
      simp only [byOp] at q
      simp only at pr okc
      simp only [nmOf, nmCh, opNm]
      walk_at "g"
      refine ⟨SeekI a.Source a.Link W0 c p "unlike" q' fq book lost M (fun k => s'.told == 0 || s'.last != some k) ⟨n', b, ls⟩, ⟨_, ⟨n', b, ls⟩, none, none, none, rfl, rfl, After.refl pr, okc, rfl⟩, ?_⟩
      rintro m δ W ⟨d1, x2, x3, x4, rfl, rfl, ad, okd, es⟩
      refine ⟨true, rfl, if_t ?_⟩
      refine ⟨SeekN a.Source a.Link W0 c p "unlike" q' fq book lost M (fun k => s'.told == 0 || s'.last != some k) ⟨n', b, ls⟩ (capD c d1), fun _ _ h => h, ?_⟩
      walk_at "g"
      have se := seek_eq (draw_ok okd.m okd.num) (good := (fun k => s'.told == 0 || s'.last != some k)) okd.fit
      refine alt_draw (fun k hk => ?_) hc ad.pre okd (fun W1 a1 kp ok1 => ?_)
      · walk_at "g"
        simp only [(ad.rest p n1 n2 n3).trans hp]
        walk_at "g"
        exact hk
      · have a1 := ad.trans a1
        rw [es] at se
        rw [se] at q
        simp only [outD]
        have dec := kp.dec
        generalize draw c d1 = r1 at a1 kp ok1 q se dec ⊢
        obtain ⟨w1, k1, sd1, b', ls1⟩ := r1
        have hp1 := (a1.rest p n1 n2 n3).trans hp
        simp only at q a1 kp ok1 se dec
        cases w1
        · simp only [wordOf]
          walk_at "g"
          repeat (simp only [hp1]; try walk_at "g")
          by_cases hg : (fun k => s'.told == 0 || s'.last != some k) k1 = true
          · have hgf : ¬ (W3.num = W3.num ∧ (fun k => s'.told == 0 || s'.last != some k) k1 = false) := fun z => by rw [hg] at z; cases z.2
            rw [if_neg hgf] at q
            simp only [if_true] at q
            have q1 := q _ (a1.op (s' := { s' with last := some k1 }) n1 n2 n3)
            by_cases ht : s'.told = 0
            · rw [if_pos (by omega)]
              exact done.here q1
            · rw [if_neg (by omega)]
              obtain ⟨ov, to, la, le⟩ := s'
              simp only at ht hg q1 hp1 ⊢
              cases la with
              | none =>
                simp only [lastD, fNe_non]
                walk_at "g"
                repeat (simp only [hp1]; try walk_at "g")
                exact done.here q1
              | some v =>
                simp only [lastD]
                walk_at "g"
                have hv : ¬ k1 = v := by
                  rintro rfl
                  simp [ht] at hg
                rw [if_pos hv]
                repeat (simp only [hp1]; try walk_at "g")
                exact done.here q1
          · have hgf : (W3.num = W3.num ∧ (fun k => s'.told == 0 || s'.last != some k) k1 = false) := ⟨rfl, by simpa using hg⟩
            rw [if_pos hgf] at se
            have nx : ∀ x4, SeekN a.Source a.Link W0 c p "unlike" q' fq book lost M (fun k => s'.told == 0 || s'.last != some k) ⟨n', b, ls⟩ (capD c d1) [some (.ref p), some (.str (Str.ofString "unlike")), some (.str (Str.ofString "number")), some (.int k1), x4] W1 := fun x4 => ⟨_, dec rfl, ⟨sd1, b', ls1⟩, _, _, _, rfl, rfl, a1, ok1, se.symm⟩
            obtain ⟨ov, to, la, le⟩ := s'
            simp only at hg hp1 nx ⊢
            have ht : ¬ to = 0 := fun z => by simp [z] at hg
            rw [if_neg (by omega)]
            cases la with
            | none => simp at hg
            | some v =>
              simp only [lastD]
              walk_at "g"
              have hv : k1 = v := Decidable.byContradiction fun z => hg (by simp; exact .inr fun e => z e.symm)
              rw [if_neg fun z => z hv]
              exact nx _
        all_goals
          simp only [wordOf]
          walk_at "g"
          rw [if_neg (by simp)] at q
          exact done.here (q W1 (a1.op_same n1 n2 n3 hp))
theorem ok_Link_dropped {fd : FuncData} (F : Fun K "dropped" "Link.dropped" s_Link_dropped a.Link_dropped fd) (T : Txt w K mg a) (h_Source_draw : HasM P w K mg base CX0 1 a.Source "draw" a.Source_draw ["self"] (sp_src a.Source a.Link)) (h_Link_draw : HasM P w K mg base CX0 (3 * n + 1) a.Link "draw" a.Link_draw ["self"] (sp_link a.Source a.Link n)) : FnOk P w K mg base CX0 (3 * n + 2) a.Link_dropped fd ["self"] (liftSp (sp_run a.Source a.Link (isDrop n) (fun _ => []) byCh)) := by
  refine F.dok sc_Link_dropped (fun ds W Qd Ed h => ?_) (fun cdv A outer s H E W0 ds Qd Ed hr h => ?_)
  · obtain ⟨_, _, _, _, _, _, _, rfl, _⟩ := h; rfl
  · obtain ⟨c, d, p, fp, book, lost, M, rfl, hc, h, ok, q⟩ := h
    obtain ⟨_, g_END⟩ := T.g_END
    obtain ⟨_, g_NUMBER⟩ := T.g_NUMBER
    refine ⟨_, (s_cons (s_while PassesOwn.never (t_cmp op_lt s_lt (d_fld (d_var 0) T.cl_Link T.na_Link_left) (d_ix s_idx (d_fld (d_var 0) T.cl_Link T.na_Link_rule) d_int (fun _ _ => rfl)) (nomark _)) (s_cons (s_asg (d_alt (d_methH0 h_Source_draw (d_fld (d_var 0) T.cl_Link T.na_Link_ahead) (hr.mono (by omega))) (d_methH0 h_Link_draw (d_fld (d_var 0) T.cl_Link T.na_Link_ahead) (hr.mono (by omega)))) (k_tup (n := 2) rfl (k_cons (k_name (i := 1) sc_Link_dropped.nd rfl (Or.inl rfl)) (k_cons (k_name (i := 2) sc_Link_dropped.nd rfl (Or.inl rfl)) k_nil))))
  (s_cons (s_if (t_cmp (op_neA hr.units) s_ne (d_var 1) (d_globS (by rfl) g_NUMBER ⟨_, rfl⟩) (nomark _)) (s_one (s_ret (d_tup (d_cons (d_var 1) (d_cons (d_var 2) d_nil))))) s_nil)
  (s_one (s_fld (d_var 0) (d_op op_add s_add (d_fld (d_var 0) T.cl_Link T.na_Link_left) d_int) T.cl_Link T.na_Link_left)))))
  (s_one (s_ret (d_alt (d_methH0 h_Source_draw (d_fld (d_var 0) T.cl_Link T.na_Link_ahead) (hr.mono (by omega))) (d_methH0 h_Link_draw (d_fld (d_var 0) T.cl_Link T.na_Link_ahead) (hr.mono (by omega))))))), ?_⟩
    match c, hc with
    | .op c (.drop m), hc =>
      obtain ⟨sd, b, ls⟩ := d
      obtain ⟨n', s', q', fq, e, rfl, hp, n1, n2, n3, pr⟩ := h.opn
      simp only at e
      subst e
      have okc := ok.opn.1
      have b1 : byCh (.op c (.drop m)) ⟨.op n' s', b, ls⟩ = byOp (.drop m) (draw c) (capD c) s' ⟨n', b, ls⟩ := rfl
      rw [b1] at q
      simp only [byOp] at q
      simp only at pr okc
      walk_at "g"
      refine ⟨DropI a.Source a.Link W0 c m p q' fq book lost M s' ⟨n', b, ls⟩, ⟨_, s'.left, ⟨n', b, ls⟩, none, none, rfl, rfl, hp, (After.refl pr).op_same n1 n2 n3 hp, pr, okc, rfl⟩, ?_⟩
      rintro k δ W ⟨l, d1, x1, x2, rfl, rfl, hpl, ad, prl, okd, el⟩
      simp only [opD] at hpl
      walk_at "g"
      repeat (simp only [hpl]; try walk_at "g")
      rw [letGo] at el
      rw [← el] at q
      by_cases hl : (l : Int) < m
      · have hl2 : l < m.toNat := by omega
        rw [if_pos hl2] at q el
        rw [if_pos hl]
        refine ⟨DropN a.Source a.Link W0 c m p q' fq book lost M s' ⟨n', b, ls⟩ (m.toNat - l), fun _ _ h => h, ?_⟩
        refine alt_draw (fun k hk => ?_) hc prl okd (fun W1 a1 kp ok1 => ?_)
        · walk_at "g"
          simp only [hpl]
          walk_at "g"
          exact hk
        · generalize draw c d1 = r1 at a1 kp ok1 q el ⊢
          obtain ⟨w1, k1, sd1, b', ls1⟩ := r1
          have hp1 := (a1.rest p n1 n2 n3).trans hpl
          simp only at q a1 kp ok1 el
          cases w1
          · simp only [outD, wordOf]
            walk_at "g"
            repeat (simp only [hp1]; try walk_at "g")
            rw [if_pos rfl] at el
            have lp : putG (Str.ofString "left") (.int ((l : Int) + 1)) (linkF (opD (.drop m)) q' .non lost { s' with left := l }) = linkF (opD (.drop m)) q' .non lost { s' with left := l + 1 } := lp_left (n := l + 1)
            simp only [opD] at lp
            rw [lp]
            exact ⟨m.toNat - (l + 1), by omega, l + 1, ⟨sd1, b', ls1⟩, _, _, rfl, rfl, put_same, ad.trans (a1.op (o := .drop m) (s' := { s' with left := l + 1 }) n1 n2 n3), a1.pre.put_out n1 n2 n3, ok1, el⟩
          all_goals
            simp only [outD, wordOf]
            walk_at "g"
            rw [if_neg (by simp)] at q
            exact done.here (q W1 (ad.trans (a1.op_same n1 n2 n3 hpl)))
      · have hl2 : ¬ l < m.toNat := by omega
        rw [if_neg hl2] at q el
        rw [if_neg hl]
        refine alt_draw (fun k hk => ?_) hc prl okd (fun W1 a1 kp ok1 => ?_)
        · walk_at "g"
          simp only [hpl]
          walk_at "g"
          exact hk
        · exact done.here (q W1 (ad.trans (a1.op_same n1 n2 n3 hpl)))
end
end DL
end
section
set_option maxRecDepth 100000
set_option maxHeartbeats 4000000
namespace DL
open PySem PySem.Spec PyProof.Rows L2
local macro_rules | `(tactic| walk_at "g") => `(tactic| simp only [hNext, hSeq, hDrop, hRet, hRetN, hIf, hAsg, hPar, kName, kNil, kCons, kTup, gVar, gC, gUn, gOp, gNil, gCons, gN, gTup, gLst, gB, gAnd, gOr, gNot, gTNot, gTAnd, gTOr, gIf, gChain, gCall, gMeth, gFld, hFld, gLc, gLcO, gYes, hFor, iTupG, iLst, iOwn, iR1, iR2, gOwn, fSl, gNone, gPart, rSlTup, rSlLst, rSlStr, gLM, mAppend, mExtend, mPop, mClear, gMake, hKPair, gKGetI, gNotInK, kSub, hRaise,
  fI, fI0, fU, fIsi, fIsi2, fLen, fLenS, fList, fListO, fTuple, fIdx, fCatL, fCatT, fCatO, fIn, fIntB, fMin2, seqOf_lst, seqOf_tup, seqOf_frz, seqOf_put, listOf_lst, listOf_put, wipeD, dstart, List.map_cons, List.map_nil, List.length_cons, List.length_nil, List.cons_append, List.nil_append, List.getElem?_cons_zero, List.getElem?_cons_succ, List.set_cons_zero, List.set_cons_succ, List.replicate_zero, List.replicate_succ, Nat.sub_self,
  fEq_int, fEq_str, fNe_int, fNe_str, fEq_bl, fNe_bl, str_beq, str_inj, String.reduceEq, decide_true, decide_false, Bool.not_true, Bool.not_false, Bool.true_and, Bool.and_true, Bool.false_and, Bool.and_false, Bool.or_true, Bool.true_or, Bool.or_false, Bool.false_or,
  atI_0, atI_1, atI_2, atI_3, cut_1, List.drop_succ_cons, List.drop_zero, Option.some.injEq, exists_eq_left', exists_eq_left, exists_eq_right, exists_eq_right', exists_eq, exists_eq', D.bl.injEq, D.int.injEq, D.str.injEq, D.ty.injEq, D.ref.injEq, D.tup.injEq, D.lst.injEq, D.frz.injEq, Ob.lst.injEq, Ob.ins.injEq, List.cons.injEq, and_true, true_and, and_assoc, exists_and_left, exists_and_right, exists_const, if_true, if_false, reduceIte, Bool.false_eq_true, reduceCtorEq, false_and, and_false, exists_false, false_or, or_false, ne_eq, not_false_eq_true, not_true_eq_false, implies_true, Nat.reduceLeDiff, Nat.reduceAdd, Nat.reduceSub, Nat.reduceEqDiff, sizeLine, Nat.reducePow, List.append_nil, List.length_append, put_put, put_same,
  kb_NoneType_int, kb_NoneType_bool, kb_NoneType_str, kb_NoneType_tuple, kb_NoneType_list, kb_bool_int, kb_bool_bool, kb_bool_str, kb_bool_tuple, kb_bool_list, kb_int_int, kb_int_bool, kb_int_str, kb_int_tuple, kb_int_list, kb_str_int, kb_str_bool, kb_str_str, kb_str_tuple, kb_str_list, kb_tuple_int, kb_tuple_bool, kb_tuple_str, kb_tuple_tuple, kb_tuple_list, kb_list_int, kb_list_bool, kb_list_str, kb_list_tuple, kb_list_list, kindOf_non, kindOf_bl, kindOf_int, kindOf_str, kindOf_tup, kindOf_lst, kindOf_frz, len_0, Int.cast_ofNat_Int, Int.natCast_add, Int.natCast_zero, Int.natCast_one, Int.reduceAdd, Int.reduceSub, Int.reduceLT, Int.reduceLE, Int.reduceBEq, Int.reduceEq, Int.reduceNe, beq_self_eq_true, beq_iff_eq, beq_eq_false_iff_ne, decide_eq_true_eq, decide_eq_false_iff_not, Bool.not_eq_true', Bool.not_eq_false', mkD_count, mkD_row, opD_add, opD_times, opD_keep, opD_drop, opD_take, opD_each, opD_til, opD_unlike, stgD_op, stgD_both, stgD_thn, List.map_map, List.any_cons, List.any_nil, List.all_cons, List.all_nil, inD, eqF, flatD, ixN_1_0, ixN_2_0, ixN_2_1, ixN_3_0, ixN_3_1, ixN_3_2, ixN_4_0, ixN_4_1, ixN_4_2, ixN_4_3, List.length_set, List.dropLast_concat, sf_gives, sf_book, sf_given, sf_put, sf_put1, lp_told1, lp_left1, sf_len, Int.add_sub_cancel, sf_draw, lf_rule, lf_ahead, lf_beside, lf_lost, lf_over, lf_told, lf_last, lf_left, lf_len, lp_over, lp_told, lp_last, lp_left, lf_draw, lf_drawn_by, lf_sought, lf_dropped, lf_told_again, lf_ended, lf_paired, lf_followed, word_num, word_fin, word_long])

section
variable {P : Program} {w : World} {K : PySem.W.Frag} {mg : Str → Option Value} {base : Heap} {a : Ads} {n : Nat}
theorem ok_Link_drawn_by {fd : FuncData} (F : Fun K "drawn_by" "Link.drawn_by" s_Link_drawn_by a.Link_drawn_by fd) (T : Txt w K mg a) (h_Source_draw : HasM P w K mg base CX0 1 a.Source "draw" a.Source_draw ["self"] (sp_src a.Source a.Link)) (h_Link_draw : HasM P w K mg base CX0 (3 * n + 1) a.Link "draw" a.Link_draw ["self"] (sp_link a.Source a.Link n))
    (h_Link_sought : HasM P w K mg base CX0 (3 * n + 2) a.Link "sought" a.Link_sought ["self", "name"] (sp_run a.Source a.Link (isSeek n) (fun c => nmOf (nmCh c)) byCh))
    (h_Link_dropped : HasM P w K mg base CX0 (3 * n + 2) a.Link "dropped" a.Link_dropped ["self"] (sp_run a.Source a.Link (isDrop n) (fun _ => []) byCh))
    (h_Link_told_again : HasM P w K mg base CX0 (3 * n + 2) a.Link "told_again" a.Link_told_again ["self"] (sp_run a.Source a.Link (isEach n) (fun _ => []) byCh))
    (h_Link_ended : HasM P w K mg base CX0 (3 * n + 2) a.Link "ended" a.Link_ended ["self"] (sp_run a.Source a.Link (isTil n) (fun _ => []) byCh))
    (h_Link_paired : HasM P w K mg base CX0 (3 * n + 2) a.Link "paired" a.Link_paired ["self"] (sp_run a.Source a.Link (isBoth n) (fun _ => []) byCh))
    (h_Link_followed : HasM P w K mg base CX0 (3 * n + 2) a.Link "followed" a.Link_followed ["self"] (sp_run a.Source a.Link (isThn n) (fun _ => []) byCh)) :
    FnOk P w K mg base CX0 (3 * n + 3) a.Link_drawn_by fd ["self", "name"] (liftSp (sp_run a.Source a.Link (fun c => ¬ isSrc c ∧ c.size ≤ n + 1) (fun c => nmOf (nmCh c)) byCh)) := by
  refine F.dok sc_Link_drawn_by (fun ds W Qd Ed h => ?_) (fun cdv A outer s H E W0 ds Qd Ed hr h => ?_)
  · obtain ⟨_, _, _, _, _, _, _, rfl, _⟩ := h; rfl
  · obtain ⟨c, d, p, fp, book, lost, M, rfl, hc, h, ok, q⟩ := h
    obtain ⟨_, g_END⟩ := T.g_END
    refine ⟨_, (s_cons (s_if (t_cmp op_in_seq s_in (d_var 1) (d_tup (d_cons d_str (d_cons d_str d_nil))) (by rfl)) (s_cons (s_asg (d_alt (d_methH0 h_Source_draw (d_fld (d_var 0) T.cl_Link T.na_Link_ahead) (hr.mono (by omega))) (d_methH0 h_Link_draw (d_fld (d_var 0) T.cl_Link T.na_Link_ahead) (hr.mono (by omega)))) (k_tup (n := 2) rfl (k_cons (k_name (i := 2) sc_Link_drawn_by.nd rfl (Or.inl rfl)) (k_cons (k_name (i := 3) sc_Link_drawn_by.nd rfl (Or.inl rfl)) k_nil))))
  (s_one (s_ret (d_tup (d_cons (d_var 2) (d_cons (d_if (t_cmp (op_eqA hr.units) s_eq (d_var 1) d_str (nomark _)) (d_op op_add s_add (d_var 3) (d_ix s_idx (d_fld (d_var 0) T.cl_Link T.na_Link_rule) d_int (fun _ _ => rfl))) (d_op op_mulW s_mul (d_var 3) (d_ix s_idx (d_fld (d_var 0) T.cl_Link T.na_Link_rule) d_int (fun _ _ => rfl)))) d_nil)))))) s_nil)
  (s_cons (s_if (t_cmp op_in_seq s_in (d_var 1) (d_tup (d_cons d_str (d_cons d_str d_nil))) (by rfl)) (s_one (s_ret (d_methH h_Link_sought (d_var 0) (hr.mono (by omega)) (d_cons (d_var 1) d_nil)))) s_nil)
  (s_cons (s_if (t_cmp (op_eqA hr.units) s_eq (d_var 1) d_str (nomark _)) (s_one (s_ret (d_methH0 h_Link_dropped (d_var 0) (hr.mono (by omega))))) s_nil)
  (s_cons (s_if (t_cmp (op_eqA hr.units) s_eq (d_var 1) d_str (nomark _)) (s_one (s_ret (d_if (t_cmp op_lt s_lt (d_fld (d_var 0) T.cl_Link T.na_Link_told) (d_ix s_idx (d_fld (d_var 0) T.cl_Link T.na_Link_rule) d_int (fun _ _ => rfl)) (nomark _)) (d_alt (d_methH0 h_Source_draw (d_fld (d_var 0) T.cl_Link T.na_Link_ahead) (hr.mono (by omega))) (d_methH0 h_Link_draw (d_fld (d_var 0) T.cl_Link T.na_Link_ahead) (hr.mono (by omega)))) (d_tup (d_cons (d_globS (by rfl) g_END ⟨_, rfl⟩) (d_cons d_int d_nil)))))) s_nil)
  (s_cons (s_if (t_cmp (op_eqA hr.units) s_eq (d_var 1) d_str (nomark _)) (s_one (s_ret (d_methH0 h_Link_told_again (d_var 0) (hr.mono (by omega))))) s_nil)
  (s_cons (s_if (t_cmp (op_eqA hr.units) s_eq (d_var 1) d_str (nomark _)) (s_one (s_ret (d_methH0 h_Link_ended (d_var 0) (hr.mono (by omega))))) s_nil)
  (s_one (s_ret (d_if (t_cmp (op_eqA hr.units) s_eq (d_var 1) d_str (nomark _)) (d_methH0 h_Link_paired (d_var 0) (hr.mono (by omega))) (d_methH0 h_Link_followed (d_var 0) (hr.mono (by omega)))))))))))), ?_⟩
    cases c with
    | src m => exact (hc.1 trivial).elim
    | both c i =>
      obtain ⟨n', j', s', q', fq, r', fr, e, e2, t⟩ := h.both
      have hp := t.at_
      have hs := hc.2
      simp only [Ch.size] at hs
      simp only [nmOf, nmCh]
      walk_at "g"
      repeat (simp only [hp]; try walk_at "g")
      exact ⟨.both c i, d, _, _, _, _, _, rfl, ⟨by omega, by omega⟩, h, ok, fun W' a => done.here (q W' a)⟩
    | thn c i =>
      obtain ⟨n', j', s', q', fq, r', fr, e, e2, t⟩ := h.thn
      have hp := t.at_
      have hs := hc.2
      simp only [Ch.size] at hs
      simp only [nmOf, nmCh]
      walk_at "g"
      repeat (simp only [hp]; try walk_at "g")
      exact ⟨.thn c i, d, _, _, _, _, _, rfl, ⟨by omega, by omega⟩, h, ok, fun W' a => done.here (q W' a)⟩
    | op c o =>
      obtain ⟨sd, b, ls⟩ := d
      obtain ⟨n', s', q', fq, e, rfl, hp, n1, n2, n3, pr⟩ := h.opn
      simp only at e
      subst e
      have okc := ok.opn.1
      have okn := ok.opn.2
      have b1 : byCh (.op c o) ⟨.op n' s', b, ls⟩ = byOp o (draw c) (capD c) s' ⟨n', b, ls⟩ := rfl
      simp only at pr okc
      have hs : c.size ≤ n := by have := hc.2; simp only [Ch.size] at this; omega
      cases o with
      | keep x y =>
        simp only [nmOf, nmCh, opNm]
        walk_at "g"
        repeat (simp only [hp]; try walk_at "g")
        exact ⟨.op c (.keep x y), ⟨.op n' s', b, ls⟩, _, _, _, _, _, rfl, hs, h, ok, fun W' a => done.here (q W' a)⟩
      | unlike =>
        simp only [nmOf, nmCh, opNm]
        walk_at "g"
        repeat (simp only [hp]; try walk_at "g")
        exact ⟨.op c .unlike, ⟨.op n' s', b, ls⟩, _, _, _, _, _, rfl, hs, h, ok, fun W' a => done.here (q W' a)⟩
      | drop x =>
        simp only [nmOf, nmCh, opNm]
        walk_at "g"
        repeat (simp only [hp]; try walk_at "g")
        exact ⟨.op c (.drop x), ⟨.op n' s', b, ls⟩, _, _, _, _, _, rfl, hs, h, ok, fun W' a => done.here (q W' a)⟩
      | each x =>
        simp only [nmOf, nmCh, opNm]
        walk_at "g"
        repeat (simp only [hp]; try walk_at "g")
        exact ⟨.op c (.each x), ⟨.op n' s', b, ls⟩, _, _, _, _, _, rfl, hs, h, ok, fun W' a => done.here (q W' a)⟩
      | til x =>
        simp only [nmOf, nmCh, opNm]
        walk_at "g"
        repeat (simp only [hp]; try walk_at "g")
        exact ⟨.op c (.til x), ⟨.op n' s', b, ls⟩, _, _, _, _, _, rfl, hs, h, ok, fun W' a => done.here (q W' a)⟩
      | add x =>
        rw [b1] at q
        simp only [byOp] at q
        simp only [nmOf, nmCh, opNm]
        walk_at "g"
        refine alt_draw (fun k hk => ?_) hs pr okc (fun W1 a1 kp ok1 => ?_)
        · walk_at "g"
          repeat (simp only [hp]; try walk_at "g")
          exact hk
        · generalize draw c ⟨n', b, ls⟩ = r1 at a1 kp ok1 q ⊢
          obtain ⟨w1, k1, sd1, b', ls1⟩ := r1
          have hp1 := (a1.rest p n1 n2 n3).trans hp
          simp only at q a1 kp ok1
          simp only [outD]
          walk_at "g"
          repeat (simp only [hp1]; try walk_at "g")
          exact done.here (q W1 (a1.op_same n1 n2 n3 hp))
      | times x =>
        rw [b1] at q
        simp only [byOp] at q
        simp only [nmOf, nmCh, opNm]
        walk_at "g"
        refine alt_draw (fun k hk => ?_) hs pr okc (fun W1 a1 kp ok1 => ?_)
        · walk_at "g"
          repeat (simp only [hp]; try walk_at "g")
          exact hk
        · generalize draw c ⟨n', b, ls⟩ = r1 at a1 kp ok1 q ⊢
          obtain ⟨w1, k1, sd1, b', ls1⟩ := r1
          have hp1 := (a1.rest p n1 n2 n3).trans hp
          simp only at q a1 kp ok1
          simp only [outD]
          walk_at "g"
          repeat (simp only [hp1]; try walk_at "g")
          exact ⟨wide_mul kp.k okn (by have := bits_ge c; omega) (by decide) (by have := okc.bits; omega), done.here (q W1 (a1.op_same n1 n2 n3 hp))⟩
      | take x =>
        rw [b1] at q
        simp only [byOp] at q
        simp only [nmOf, nmCh, opNm]
        walk_at "g"
        repeat (simp only [hp]; try walk_at "g")
        by_cases ht : (s'.told : Int) < x
        · rw [if_pos ht] at q ⊢
          refine alt_draw (fun k hk => ?_) hs pr okc (fun W1 a1 kp ok1 => ?_)
          · walk_at "g"
            repeat (simp only [hp]; try walk_at "g")
            exact hk
          · exact done.here (q W1 (a1.op_same n1 n2 n3 hp))
        · rw [if_neg ht] at q ⊢
          exact done.here (q W0 ((After.refl pr).op_same n1 n2 n3 hp))
theorem ok_Link_draw {fd : FuncData} (F : Fun K "draw" "Link.draw" s_Link_draw a.Link_draw fd) (T : Txt w K mg a)
    (h_Link_drawn_by : HasM P w K mg base CX0 (3 * n + 3) a.Link "drawn_by" a.Link_drawn_by ["self", "name"] (sp_run a.Source a.Link (fun c => ¬ isSrc c ∧ c.size ≤ n + 1) (fun c => nmOf (nmCh c)) byCh)) :
    FnOk P w K mg base CX0 (3 * (n + 1) + 1) a.Link_draw fd ["self"] (liftSp (sp_link a.Source a.Link (n + 1))) := by
  refine F.dok sc_Link_draw (fun ds W Qd Ed h => ?_) (fun cdv A outer s H E W0 ds Qd Ed hr h => ?_)
  · obtain ⟨_, _, _, _, _, _, _, rfl, _⟩ := h; rfl
  · obtain ⟨c, d, p, fp, book, lost, M, rfl, hc, h, ok, q⟩ := h
    obtain ⟨_, g_END⟩ := T.g_END
    obtain ⟨_, g_NUMBER⟩ := T.g_NUMBER
    refine ⟨_, (s_cons (s_if (d_test (d_fld (d_var 0) T.cl_Link T.na_Link_over)) (s_one (s_ret (d_tup (d_cons (d_globS (by rfl) g_END ⟨_, rfl⟩) (d_cons d_int d_nil))))) s_nil)
  (s_cons (s_asg (d_methH h_Link_drawn_by (d_var 0) (hr.mono (by omega)) (d_cons (d_ix s_idx (d_fld (d_var 0) T.cl_Link T.na_Link_rule) d_int (fun _ _ => rfl)) d_nil)) (k_tup (n := 2) rfl (k_cons (k_name (i := 1) sc_Link_draw.nd rfl (Or.inl rfl)) (k_cons (k_name (i := 2) sc_Link_draw.nd rfl (Or.inl rfl)) k_nil))))
  (s_cons (s_if (t_cmp (op_eqA hr.units) s_eq (d_var 1) (d_globS (by rfl) g_END ⟨_, rfl⟩) (nomark _)) (s_one (s_fld (d_var 0) d_bl T.cl_Link T.na_Link_over)) s_nil)
  (s_cons (s_if (t_cmp (op_eqA hr.units) s_eq (d_var 1) (d_globS (by rfl) g_NUMBER ⟨_, rfl⟩) (nomark _)) (s_one (s_fld (d_var 0) (d_op op_add s_add (d_fld (d_var 0) T.cl_Link T.na_Link_told) d_int) T.cl_Link T.na_Link_told)) s_nil)
  (s_one (s_ret (d_tup (d_cons (d_var 1) (d_cons (d_var 2) d_nil))))))))), ?_⟩
    obtain ⟨r, q', be, hp⟩ := h.nd.link hc.1
    rw [draw_link hc.1] at q
    walk_at "g"
    repeat (simp only [hp]; try walk_at "g")
    by_cases ho : (stOf d.sd).over = true
    · rw [if_pos ho] at q ⊢
      exact done.here (q W0 (After.refl h))
    · rw [if_neg ho] at q ⊢
      refine ⟨c, d, p, fp, book, lost, M, rfl, hc, h, ok, fun W1 a1 => ?_⟩
      generalize byCh c d = r1 at a1 q ⊢
      obtain ⟨w1, k1, sd1, b', ls1⟩ := r1
      obtain ⟨r2, q2, be2, hp1⟩ := a1.pre.nd.link hc.1
      simp only at a1 hp1
      simp only [outD]
      cases w1 <;> simp only [wordOf]
      · walk_at "g"
        repeat (simp only [hp1]; try walk_at "g")
        have e : booked ⟨.num, k1, ⟨sd1, b', ls1⟩⟩ = ⟨.num, k1, ⟨setSt { stOf sd1 with told := (stOf sd1).told + 1 } sd1, b', ls1⟩⟩ := by
          rw [booked, show (W3.num == W3.fin) = false from rfl, if_pos rfl, Bool.or_false]
        rw [e] at q
        exact done.here (q _ (a1.set hc.1 hp1))
      · walk_at "g"
        repeat (simp only [hp1]; try walk_at "g")
        have e : booked ⟨.fin, k1, ⟨sd1, b', ls1⟩⟩ = ⟨.fin, k1, ⟨setSt { stOf sd1 with over := true } sd1, b', ls1⟩⟩ := by
          rw [booked, show (W3.fin == W3.fin) = true from rfl, if_neg (by simp), Bool.or_true]
          rfl
        rw [e] at q
        exact done.here (q _ (a1.set hc.1 hp1))
      · walk_at "g"
        have e : booked ⟨.long, k1, ⟨sd1, b', ls1⟩⟩ = ⟨.long, k1, ⟨sd1, b', ls1⟩⟩ := by
          rw [booked, show (W3.long == W3.fin) = false from rfl, if_neg (by simp), Bool.or_false]
          show (⟨.long, k1, ⟨setSt (stOf sd1) sd1, b', ls1⟩⟩ : R) = _
          rw [setSt_self]
        rw [e] at q
        exact done.here (q _ a1)
/-- the methods of a link, where they stand -/
structure LkM (K : PySem.W.Frag) (a : Ads) : Prop where
  F_Source_init : ∃ fd, Fun K "__init__" "Source.__init__" s_Source_init a.Source_init fd
  F_Source_draw : ∃ fd, Fun K "draw" "Source.draw" s_Source_draw a.Source_draw fd
  F_init : ∃ fd, Fun K "__init__" "Link.__init__" s_Link_init a.Link_init fd
  F_draw : ∃ fd, Fun K "draw" "Link.draw" s_Link_draw a.Link_draw fd
  F_drawn_by : ∃ fd, Fun K "drawn_by" "Link.drawn_by" s_Link_drawn_by a.Link_drawn_by fd
  F_sought : ∃ fd, Fun K "sought" "Link.sought" s_Link_sought a.Link_sought fd
  F_dropped : ∃ fd, Fun K "dropped" "Link.dropped" s_Link_dropped a.Link_dropped fd
  F_told_again : ∃ fd, Fun K "told_again" "Link.told_again" s_Link_told_again a.Link_told_again fd
  F_ended : ∃ fd, Fun K "ended" "Link.ended" s_Link_ended a.Link_ended fd
  F_paired : ∃ fd, Fun K "paired" "Link.paired" s_Link_paired a.Link_paired fd
  F_followed : ∃ fd, Fun K "followed" "Link.followed" s_Link_followed a.Link_followed fd
  M_Source_draw : Meth K a.Source "draw" a.Source_draw
  M_draw : Meth K a.Link "draw" a.Link_draw
  M_drawn_by : Meth K a.Link "drawn_by" a.Link_drawn_by
  M_sought : Meth K a.Link "sought" a.Link_sought
  M_dropped : Meth K a.Link "dropped" a.Link_dropped
  M_told_again : Meth K a.Link "told_again" a.Link_told_again
  M_ended : Meth K a.Link "ended" a.Link_ended
  M_paired : Meth K a.Link "paired" a.Link_paired
  M_followed : Meth K a.Link "followed" a.Link_followed
theorem has_Source_draw (L : LkM K a) (T : Txt w K mg a) : HasM P w K mg base CX0 1 a.Source "draw" a.Source_draw ["self"] (sp_src a.Source a.Link) := by
  obtain ⟨fd, F⟩ := L.F_Source_draw
  exact ⟨⟨fd, ok_Source_draw F T, F.binds fun _ _ _ _ _ _ us hl => match us, hl with | [_], _ => rfl⟩, L.M_Source_draw, T.cl_Source⟩
theorem has_Link_draw (L : LkM K a) (T : Txt w K mg a) : ∀ n, HasM P w K mg base CX0 (3 * n + 1) a.Link "draw" a.Link_draw ["self"] (sp_link a.Source a.Link n) := by
  intro n
  obtain ⟨fd, F⟩ := L.F_draw
  induction n with
  | zero =>
    refine ⟨⟨fd, FnOk.never fun ds W Qd Ed h => ?_, F.binds fun _ _ _ _ _ _ us hl => match us, hl with | [_], _ => rfl⟩, L.M_draw, T.cl_Link⟩
    obtain ⟨c, _, _, _, _, _, _, _, hc, _⟩ := h
    cases c with
    | src _ => exact hc.1 trivial
    | _ => have := hc.2; simp only [Ch.size] at this; omega
  | succ n ih =>
    have hs := has_Source_draw (P := P) (base := base) L T
    obtain ⟨_, F1⟩ := L.F_sought
    obtain ⟨_, F2⟩ := L.F_dropped
    obtain ⟨_, F3⟩ := L.F_told_again
    obtain ⟨_, F4⟩ := L.F_ended
    obtain ⟨_, F5⟩ := L.F_paired
    obtain ⟨_, F6⟩ := L.F_followed
    obtain ⟨_, F7⟩ := L.F_drawn_by
    have b1 : HasM P w K mg base CX0 (3 * n + 3) a.Link "drawn_by" a.Link_drawn_by ["self", "name"] (sp_run a.Source a.Link (fun c => ¬ isSrc c ∧ c.size ≤ n + 1) (fun c => nmOf (nmCh c)) byCh) :=
      ⟨⟨_, ok_Link_drawn_by F7 T hs ih
        ⟨⟨_, ok_Link_sought F1 T hs ih, F1.binds fun _ _ _ _ _ _ us hl => match us, hl with | [_, _], _ => rfl⟩, L.M_sought, T.cl_Link⟩
        ⟨⟨_, ok_Link_dropped F2 T hs ih, F2.binds fun _ _ _ _ _ _ us hl => match us, hl with | [_], _ => rfl⟩, L.M_dropped, T.cl_Link⟩
        ⟨⟨_, ok_Link_told_again F3 T hs ih, F3.binds fun _ _ _ _ _ _ us hl => match us, hl with | [_], _ => rfl⟩, L.M_told_again, T.cl_Link⟩
        ⟨⟨_, ok_Link_ended F4 T hs ih, F4.binds fun _ _ _ _ _ _ us hl => match us, hl with | [_], _ => rfl⟩, L.M_ended, T.cl_Link⟩
        ⟨⟨_, ok_Link_paired F5 T hs ih, F5.binds fun _ _ _ _ _ _ us hl => match us, hl with | [_], _ => rfl⟩, L.M_paired, T.cl_Link⟩
        ⟨⟨_, ok_Link_followed F6 T hs ih, F6.binds fun _ _ _ _ _ _ us hl => match us, hl with | [_], _ => rfl⟩, L.M_followed, T.cl_Link⟩,
        F7.binds fun _ _ _ _ _ _ us hl => match us, hl with | [_, _], _ => rfl⟩, L.M_drawn_by, T.cl_Link⟩
    exact ⟨⟨fd, ok_Link_draw F T b1, F.binds fun _ _ _ _ _ _ us hl => match us, hl with | [_], _ => rfl⟩, L.M_draw, T.cl_Link⟩
end
end DL
end
section
set_option maxRecDepth 100000
set_option maxHeartbeats 4000000
namespace DL
open PySem PySem.Spec PyProof.Rows L2
abbrev s_Drawer_init : Stmt := inClass (top 29) 0
abbrev n_Drawer_init : List Str := ["self", "chain", "maker"]
theorem sc_Drawer_init : FnScope n_Drawer_init ["self", "chain"] (defScope s_Drawer_init) := ⟨rfl, rfl, rfl, by decide +kernel, rfl, by decide +kernel, by decide +kernel⟩
abbrev s_Drawer_made : Stmt := inClass (top 29) 1
abbrev n_Drawer_made : List Str := ["self", "chain", "number", "found", "stage", "beside", "inner"]
theorem sc_Drawer_made : FnScope n_Drawer_made ["self", "chain", "number"] (defScope s_Drawer_made) := ⟨rfl, rfl, rfl, by decide +kernel, rfl, by decide +kernel, by decide +kernel⟩
abbrev s_Drawer_next : Stmt := inClass (top 29) 2
abbrev n_Drawer_next : List Str := ["self", "word", "number"]
theorem sc_Drawer_next : FnScope n_Drawer_next ["self"] (defScope s_Drawer_next) := ⟨rfl, rfl, rfl, by decide +kernel, rfl, by decide +kernel, by decide +kernel⟩
abbrev s_Drawer_drawn : Stmt := inClass (top 29) 3
abbrev n_Drawer_drawn : List Str := ["self", "source"]
theorem sc_Drawer_drawn : FnScope n_Drawer_drawn ["self"] (defScope s_Drawer_drawn) := ⟨rfl, rfl, rfl, by decide +kernel, rfl, by decide +kernel, by decide +kernel⟩
local macro_rules | `(tactic| walk_at "g") => `(tactic| simp only [hNext, hSeq, hDrop, hRet, hRetN, hIf, hAsg, hPar, kName, kNil, kCons, kTup, gVar, gC, gUn, gOp, gNil, gCons, gN, gTup, gLst, gB, gAnd, gOr, gNot, gTNot, gTAnd, gTOr, gIf, gChain, gCall, gMeth, gFld, hFld, gLc, gLcO, gYes, hFor, iTupG, iLst, iOwn, iR1, iR2, gOwn, fSl, gNone, gPart, rSlTup, rSlLst, rSlStr, gLM, mAppend, mExtend, mPop, mClear, gMake, hKPair, gKGetI, gNotInK, kSub, hRaise,
  fI, fI0, fU, fIsi, fIsi2, fLen, fLenS, fList, fListO, fTuple, fIdx, fCatL, fCatT, fCatO, fIn, fIntB, fMin2, seqOf_lst, seqOf_tup, seqOf_frz, seqOf_put, listOf_lst, listOf_put, wipeD, dstart, List.map_cons, List.map_nil, List.length_cons, List.length_nil, List.cons_append, List.nil_append, List.getElem?_cons_zero, List.getElem?_cons_succ, List.set_cons_zero, List.set_cons_succ, List.replicate_zero, List.replicate_succ, Nat.sub_self,
  fEq_int, fEq_str, fNe_int, fNe_str, fEq_bl, fNe_bl, str_beq, str_inj, String.reduceEq, decide_true, decide_false, Bool.not_true, Bool.not_false, Bool.true_and, Bool.and_true, Bool.false_and, Bool.and_false, Bool.or_true, Bool.true_or, Bool.or_false, Bool.false_or,
  atI_0, atI_1, atI_2, atI_3, cut_1, List.drop_succ_cons, List.drop_zero, Option.some.injEq, exists_eq_left', exists_eq_left, exists_eq_right, exists_eq_right', exists_eq, exists_eq', D.bl.injEq, D.int.injEq, D.str.injEq, D.ty.injEq, D.ref.injEq, D.tup.injEq, D.lst.injEq, D.frz.injEq, Ob.lst.injEq, Ob.ins.injEq, List.cons.injEq, and_true, true_and, and_assoc, exists_and_left, exists_and_right, exists_const, if_true, if_false, reduceIte, Bool.false_eq_true, reduceCtorEq, false_and, and_false, exists_false, false_or, or_false, ne_eq, not_false_eq_true, not_true_eq_false, implies_true, Nat.reduceLeDiff, Nat.reduceAdd, Nat.reduceSub, Nat.reduceEqDiff, sizeLine, Nat.reducePow, List.append_nil, List.length_append, put_put, put_same,
  kb_NoneType_int, kb_NoneType_bool, kb_NoneType_str, kb_NoneType_tuple, kb_NoneType_list, kb_bool_int, kb_bool_bool, kb_bool_str, kb_bool_tuple, kb_bool_list, kb_int_int, kb_int_bool, kb_int_str, kb_int_tuple, kb_int_list, kb_str_int, kb_str_bool, kb_str_str, kb_str_tuple, kb_str_list, kb_tuple_int, kb_tuple_bool, kb_tuple_str, kb_tuple_tuple, kb_tuple_list, kb_list_int, kb_list_bool, kb_list_str, kb_list_tuple, kb_list_list, kindOf_non, kindOf_bl, kindOf_int, kindOf_str, kindOf_tup, kindOf_lst, kindOf_frz, len_0, Int.cast_ofNat_Int, Int.natCast_add, Int.natCast_zero, Int.natCast_one, Int.reduceAdd, Int.reduceSub, Int.reduceLT, Int.reduceLE, Int.reduceBEq, Int.reduceEq, Int.reduceNe, beq_self_eq_true, beq_iff_eq, beq_eq_false_iff_ne, decide_eq_true_eq, decide_eq_false_iff_not, Bool.not_eq_true', Bool.not_eq_false', mkD_count, mkD_row, opD_add, opD_times, opD_keep, opD_drop, opD_take, opD_each, opD_til, opD_unlike, stgD_op, stgD_both, stgD_thn, List.map_map, List.any_cons, List.any_nil, List.all_cons, List.all_nil, inD, eqF, flatD, ixN_1_0, ixN_2_0, ixN_2_1, ixN_3_0, ixN_3_1, ixN_3_2, ixN_4_0, ixN_4_1, ixN_4_2, ixN_4_3, List.length_set, List.dropLast_concat, sf_gives, sf_book, sf_given, sf_put, sf_put1, lp_told1, lp_left1, sf_len, Int.add_sub_cancel, sf_draw, lf_rule, lf_ahead, lf_beside, lf_lost, lf_over, lf_told, lf_last, lf_left, lf_len, lp_over, lp_told, lp_last, lp_left, lf_draw, lf_drawn_by, lf_sought, lf_dropped, lf_told_again, lf_ended, lf_paired, lf_followed, word_num, word_fin, word_long])

section
variable {P : Program} {w : World} {K : PySem.W.Frag} {mg : Str → Option Value} {base : Heap} {a : Ads} {n : Nat}
def sp_made (CD CS CL : Addr) (n : Nat) : DSp := fun ds W Q _ => ∃ p c k lost book srcs, ds = [.ref p, chD c, .int ((k : Nat) : Int)] ∧ c.depth < n ∧ c.mks.length ≤ 4 ∧ c.nst ≤ 12 ∧ MadeP CD CS W p c k lost book srcs ∧ ∀ W' q fp, MadeQ CS CL W W' c k lost book srcs q fp → Q (.ref q) W'
def madeB (a : Ads) (n : Nat) : GS := hSeq (hAsg (gC D.non) (kName 5))
          (hSeq
            (hFor (iLst (gCall sp_inner_of XD0 (gCons (gTup (gCons (gVar 4) gNil)) gNil))) (kName 6)
              (hSeq
                (hAsg
                  (gMeth a.Drawer (Str.ofString "made") (sp_made a.Drawer a.Source a.Link n) XD0 (gVar 0)
                    (gCons (gVar 6) (gCons (gVar 2) gNil)))
                  (kName 5))
                (hAsg (gOp fAdd (gVar 2) (gN fLen (gCons (gCall (sp_all_makers 4) XD0 (gCons (gVar 6) gNil)) gNil)))
                  (kName 2))))
            (hAsg
              (gMake a.Link (sp_Link_init a.Source a.Link) XD0
                (gCons (gVar 4)
                  (gCons (gVar 3) (gCons (gVar 5) (gCons (gFld a.Drawer (Str.ofString "lost") (gVar 0)) gNil)))))
              (kName 3)))
theorem has_made {fd : FuncData} (F : Fun K "made" "Drawer.made" s_Drawer_made a.Drawer_made fd) (me : Meth K a.Drawer "made" a.Drawer_made) (T : Txt w K mg a)
    (h_Link : HasC P w K mg base CX0 1 "Link" a.Link a.Link_init ["self", "stage", "ahead", "beside", "undone"] (sp_Link_init a.Source a.Link)) (h_inner_of : Has P w K mg base CX0 1 "inner_of" a.inner_of ["stages"] sp_inner_of) (h_all_makers : Has P w K mg base CX0 5 "all_makers" a.all_makers ["chain"] (sp_all_makers 4)) :
    ∀ n, HasM P w K mg base CX0 (n + 8) a.Drawer "made" a.Drawer_made ["self", "chain", "number"] (sp_made a.Drawer a.Source a.Link n) := by
  intro n
  induction n with
  | zero => exact ⟨⟨fd, FnOk.never fun _ _ _ _ ⟨_, _, _, _, _, _, _, h, _⟩ => Nat.not_lt_zero _ h, F.binds fun _ _ _ _ _ _ us hl => match us, hl with | [_, _, _], _ => rfl⟩, me, T.cl_Drawer⟩
  | succ n h_Drawer_made =>
    refine ⟨⟨fd, ?_, F.binds fun _ _ _ _ _ _ us hl => match us, hl with | [_, _, _], _ => rfl⟩, me, T.cl_Drawer⟩
    refine F.dok sc_Drawer_made (fun ds W Qd Ed h => ?_) (fun cdv A outer s H E W0 ds Qd Ed hr h => ?_)
    · obtain ⟨_, _, _, _, _, _, rfl, _⟩ := h; rfl
    · obtain ⟨p, c, k, lost, book, srcs, rfl, hd, hm, hs, ⟨⟨fs, hp, l1, l2, l3⟩, nod, sa, rr, gl, hsa, sat, g0⟩, q⟩ := h
      refine ⟨_, (s_cons (s_set (i := 3) sc_Drawer_made.nd rfl (Or.inl rfl) (d_ix s_idx (d_fld (d_var 0) T.cl_Drawer T.na_Drawer_sources) (d_var 2) (fun _ _ => rfl)))
  (s_cons (s_set (i := 2) sc_Drawer_made.nd rfl (Or.inl rfl) (d_op op_add s_add (d_var 2) d_int))
  (s_cons (s_for PassesOwn.never rfl (i_tup (d_ix s_idx (d_var 1) d_int (fun _ _ => rfl))) (k_name (i := 4) sc_Drawer_made.nd rfl (Or.inl rfl)) (s_cons (s_set (i := 5) sc_Drawer_made.nd rfl (Or.inl rfl) d_non)
  (s_cons (s_for PassesOwn.never rfl (i_lst (d_callH h_inner_of (hr.mono (by omega)) (by rfl) (d_cons (d_tup (d_cons (d_var 4) d_nil)) d_nil))) (k_name (i := 6) sc_Drawer_made.nd rfl (Or.inl rfl)) (s_cons (s_set (i := 5) sc_Drawer_made.nd rfl (Or.inl rfl) (d_methH h_Drawer_made (d_var 0) (hr.mono (by omega)) (d_cons (d_var 6) (d_cons (d_var 2) d_nil))))
  (s_one (s_set (i := 2) sc_Drawer_made.nd rfl (Or.inl rfl) (d_op op_add s_add (d_var 2) (d_callB call_len_seq s_len (by rfl) T.len PySem.boot_len (d_cons (d_callH h_all_makers (hr.mono (by omega)) (by rfl) (d_cons (d_var 6) d_nil)) d_nil)))))))
  (s_one (s_set (i := 3) sc_Drawer_made.nd rfl (Or.inl rfl) (d_makeH h_Link (hr.mono (by omega)) (by rfl) (d_cons (d_var 4) (d_cons (d_var 3) (d_cons (d_var 5) (d_cons (d_fld (d_var 0) T.cl_Drawer T.na_Drawer_lost) d_nil))))))))))
  (s_one (s_ret (d_var 3)))))), ?_⟩
      rw [chD_eq]
      walk_at "g"
      repeat (simp only [hp, l1, l2, l3]; try walk_at "g")
      obtain ⟨x, r1, g, gl1, rfl, rfl, hx, sat1⟩ : ∃ x r1 g gl1, sa = x :: r1 ∧ gl = g :: gl1 ∧ W0 x = some (.ins a.Source (srcF c.mk book g)) ∧ SrcsAt a.Source book W0 r1 ((innOf c.stl).flatMap Ch.mks) gl1 := by
        have sat' := sat
        rw [mks_inn c] at sat'
        match sa, gl, sat' with
        | x :: r1, g :: gl1, ⟨h1, h2⟩ => exact ⟨x, r1, g, gl1, rfl, rfl, h1, h2⟩
      refine ⟨.ref x, atI_nat (by
        have := congrArg (fun l => l[0]?) hsa
        simp only [List.getElem?_drop, List.cons_append, List.getElem?_cons_zero, Nat.add_zero] at this
        rw [List.getElem?_map, this]; rfl), ?_⟩
      have g1 : g = 0 := g0 g List.mem_cons_self
      subst g1
      have main : ∀ (l : List Stg) (c1 : Ch) (q1 : Addr) (fp1 : List Addr) (W1 : Wd) (x4 x5 x6 : Option D), c.stl = c1.stl ++ l → c1.mk = c.mk → MInv a.Source a.Link book lost W0 W1 (x :: r1) c1 q1 fp1 l →
          forGo (kName 4) (madeB a n) (l.map stgD) { nx := hRet (gVar 3) { nx := fun x W => done Qd .non W, rt := done Qd }, rt := done Qd }
            [some (.ref p), some (.tup [mkD c.mk, .tup (c.stl.map stgD)]), some (.int ((k : Int) + c1.mks.length)), some (.ref q1), x4, x5, x6] W1 := by
        intro l
        induction l with
        | nil =>
          intro c1 q1 fp1 W1 x4 x5 x6 e1 e2 inv
          simp only [List.map_nil, forGo]
          walk_at "g"
          obtain ⟨nd, nodf, ⟨sa1, r1', gl1', e, si, fr, sat', g0'⟩, rest⟩ := inv
          have ec : c1 = c := by rw [← bld_stl c1, ← bld_stl c, e2, e1, List.append_nil]
          subst ec
          exact done.here (q W1 q1 fp1 ⟨nd, nodf, ⟨sa1, r1' ++ rr, by rw [hsa, e, List.append_assoc], si, fr⟩, rest⟩)
        | cons st l ih =>
          intro c1 q1 fp1 W1 x4 x5 x6 e1 e2 inv
          have hp1 := inv.rest _ _ hp
          simp only [List.map_cons, forGo, madeB]
          cases st with
          | op o =>
            walk_at "g"
            refine ⟨[.op o], rfl, by simp, ?_⟩
            walk_at "g"
            rw [show (innOf [Stg.op o]).map chD = [] from rfl, forGo_nil]
            walk_at "g"
            repeat (simp only [hp1, l1, l2, l3]; try walk_at "g")
            intro y hy
            refine ⟨y, q1, .non, lost, stgD (.op o), rfl, put_same, ?_⟩
            walk_at "g"
            exact ih (.op c1 o) y (y :: fp1) _ _ _ _ (by rw [e1, Ch.stl, List.append_assoc]; rfl) e2 (inv.op hy)
          | both i =>
            have hi : i ∈ innOf c.stl := by rw [e1, innOf_app]; exact List.mem_append_right _ List.mem_cons_self
            have d1 := inn_depth hi
            have d2 := mem_mksL hi
            have d3 := mem_nstL hi
            have d4 := mksL_inn c
            have d5 := nst_inn c
            have d6 := depth_lt c
            walk_at "g"
            refine ⟨[.both i], rfl, by simp, ?_⟩
            walk_at "g"
            rw [show (innOf [Stg.both i]).map chD = [chD i] from rfl, forGo_cons]
            walk_at "g"
            repeat (simp only [hp1, l1, l2, l3]; try walk_at "g")
            refine ⟨p, i, k + c1.mks.length, lost, book, srcs, by rw [Int.natCast_add], by omega, by omega, by omega, inv.pre rfl hsa ⟨fs, hp1, l1, l2, l3⟩ nod, fun W2 qi fpi mq => ?_⟩
            refine ⟨i, rfl, by omega, by omega, by omega, ?_⟩
            walk_at "g"
            rw [forGo_nil]
            have hp2 := mq.rest _ _ hp1
            walk_at "g"
            repeat (simp only [hp2, l1, l2, l3]; try walk_at "g")
            intro y hy
            refine ⟨y, q1, .ref qi, lost, stgD (.both i), rfl, put_same, ?_⟩
            walk_at "g"
            have fin := ih (.both c1 i) y (y :: (fp1 ++ fpi)) (put W2 y (.ins a.Link (linkF (bothD i) q1 (.ref qi) lost st0))) (some (stgD (.both i))) (some (.ref qi)) (some (chD i)) (by rw [e1, Ch.stl, List.append_assoc]; rfl) e2 (inv.two (.inl ⟨rfl, rfl⟩) rfl hsa nod sat mq hy)
            rw [show ((k : Int) + ((Ch.both c1 i).mks.length : Nat)) = (k : Int) + (c1.mks.length : Nat) + (i.mks.length : Nat) by rw [Ch.mks, List.length_append]; omega] at fin
            rw [List.length_map]
            exact fin
          | thn i =>
            have hi : i ∈ innOf c.stl := by rw [e1, innOf_app]; exact List.mem_append_right _ List.mem_cons_self
            have d1 := inn_depth hi
            have d2 := mem_mksL hi
            have d3 := mem_nstL hi
            have d4 := mksL_inn c
            have d5 := nst_inn c
            have d6 := depth_lt c
            walk_at "g"
            refine ⟨[.thn i], rfl, by simp, ?_⟩
            walk_at "g"
            rw [show (innOf [Stg.thn i]).map chD = [chD i] from rfl, forGo_cons]
            walk_at "g"
            repeat (simp only [hp1, l1, l2, l3]; try walk_at "g")
            refine ⟨p, i, k + c1.mks.length, lost, book, srcs, by rw [Int.natCast_add], by omega, by omega, by omega, inv.pre rfl hsa ⟨fs, hp1, l1, l2, l3⟩ nod, fun W2 qi fpi mq => ?_⟩
            refine ⟨i, rfl, by omega, by omega, by omega, ?_⟩
            walk_at "g"
            rw [forGo_nil]
            have hp2 := mq.rest _ _ hp1
            walk_at "g"
            repeat (simp only [hp2, l1, l2, l3]; try walk_at "g")
            intro y hy
            refine ⟨y, q1, .ref qi, lost, stgD (.thn i), rfl, put_same, ?_⟩
            walk_at "g"
            have fin := ih (.thn c1 i) y (y :: (fp1 ++ fpi)) (put W2 y (.ins a.Link (linkF (thenD i) q1 (.ref qi) lost st0))) (some (stgD (.thn i))) (some (.ref qi)) (some (chD i)) (by rw [e1, Ch.stl, List.append_assoc]; rfl) e2 (inv.two (.inr ⟨rfl, rfl⟩) rfl hsa nod sat mq hy)
            rw [show ((k : Int) + ((Ch.thn c1 i).mks.length : Nat)) = (k : Int) + (c1.mks.length : Nat) + (i.mks.length : Nat) by rw [Ch.mks, List.length_append]; omega] at fin
            rw [List.length_map]
            exact fin
      exact main c.stl (.src c.mk) x [x] W0 none none none rfl rfl ⟨⟨rfl, hx⟩, by simp, ⟨[x], r1, gl1, rfl, rfl, fun y hy => .inr hy, sat1, fun g hg => g0 g (List.mem_cons_of_mem _ hg)⟩, fun _ _ h => h⟩
end
end DL
end
section
set_option maxRecDepth 100000
set_option maxHeartbeats 4000000
namespace DL
open PySem PySem.Spec PyProof.Rows L2
local macro_rules | `(tactic| walk_at "g") => `(tactic| simp only [hNext, hSeq, hDrop, hRet, hRetN, hIf, hAsg, hPar, kName, kNil, kCons, kTup, gVar, gC, gUn, gOp, gNil, gCons, gN, gTup, gLst, gB, gAnd, gOr, gNot, gTNot, gTAnd, gTOr, gIf, gChain, gCall, gMeth, gFld, hFld, gLc, gLcO, gYes, hFor, iTupG, iLst, iOwn, iR1, iR2, gOwn, fSl, gNone, gPart, rSlTup, rSlLst, rSlStr, gLM, mAppend, mExtend, mPop, mClear, gMake, hKPair, gKGetI, gNotInK, kSub, hRaise,
  fI, fI0, fU, fIsi, fIsi2, fLen, fLenS, fList, fListO, fTuple, fIdx, fCatL, fCatT, fCatO, fIn, fIntB, fMin2, seqOf_lst, seqOf_tup, seqOf_frz, seqOf_put, listOf_lst, listOf_put, wipeD, dstart, List.map_cons, List.map_nil, List.length_cons, List.length_nil, List.cons_append, List.nil_append, List.getElem?_cons_zero, List.getElem?_cons_succ, List.set_cons_zero, List.set_cons_succ, List.replicate_zero, List.replicate_succ, Nat.sub_self,
  fEq_int, fEq_str, fNe_int, fNe_str, fEq_bl, fNe_bl, str_beq, str_inj, String.reduceEq, decide_true, decide_false, Bool.not_true, Bool.not_false, Bool.true_and, Bool.and_true, Bool.false_and, Bool.and_false, Bool.or_true, Bool.true_or, Bool.or_false, Bool.false_or,
  atI_0, atI_1, atI_2, atI_3, cut_1, List.drop_succ_cons, List.drop_zero, Option.some.injEq, exists_eq_left', exists_eq_left, exists_eq_right, exists_eq_right', exists_eq, exists_eq', D.bl.injEq, D.int.injEq, D.str.injEq, D.ty.injEq, D.ref.injEq, D.tup.injEq, D.lst.injEq, D.frz.injEq, Ob.lst.injEq, Ob.ins.injEq, List.cons.injEq, and_true, true_and, and_assoc, exists_and_left, exists_and_right, exists_const, if_true, if_false, reduceIte, Bool.false_eq_true, reduceCtorEq, false_and, and_false, exists_false, false_or, or_false, ne_eq, not_false_eq_true, not_true_eq_false, implies_true, Nat.reduceLeDiff, Nat.reduceAdd, Nat.reduceSub, Nat.reduceEqDiff, sizeLine, Nat.reducePow, List.append_nil, List.length_append, put_put, put_same,
  kb_NoneType_int, kb_NoneType_bool, kb_NoneType_str, kb_NoneType_tuple, kb_NoneType_list, kb_bool_int, kb_bool_bool, kb_bool_str, kb_bool_tuple, kb_bool_list, kb_int_int, kb_int_bool, kb_int_str, kb_int_tuple, kb_int_list, kb_str_int, kb_str_bool, kb_str_str, kb_str_tuple, kb_str_list, kb_tuple_int, kb_tuple_bool, kb_tuple_str, kb_tuple_tuple, kb_tuple_list, kb_list_int, kb_list_bool, kb_list_str, kb_list_tuple, kb_list_list, kindOf_non, kindOf_bl, kindOf_int, kindOf_str, kindOf_tup, kindOf_lst, kindOf_frz, len_0, Int.cast_ofNat_Int, Int.natCast_add, Int.natCast_zero, Int.natCast_one, Int.reduceAdd, Int.reduceSub, Int.reduceLT, Int.reduceLE, Int.reduceBEq, Int.reduceEq, Int.reduceNe, beq_self_eq_true, beq_iff_eq, beq_eq_false_iff_ne, decide_eq_true_eq, decide_eq_false_iff_not, Bool.not_eq_true', Bool.not_eq_false', mkD_count, mkD_row, opD_add, opD_times, opD_keep, opD_drop, opD_take, opD_each, opD_til, opD_unlike, stgD_op, stgD_both, stgD_thn, List.map_map, List.any_cons, List.any_nil, List.all_cons, List.all_nil, inD, eqF, flatD, ixN_1_0, ixN_2_0, ixN_2_1, ixN_3_0, ixN_3_1, ixN_3_2, ixN_4_0, ixN_4_1, ixN_4_2, ixN_4_3, List.length_set, List.dropLast_concat, sf_gives, sf_book, sf_given, sf_put, sf_put1, lp_told1, lp_left1, sf_len, Int.add_sub_cancel, sf_draw, lf_rule, lf_ahead, lf_beside, lf_lost, lf_over, lf_told, lf_last, lf_left, lf_len, lp_over, lp_told, lp_last, lp_left, lf_draw, lf_drawn_by, lf_sought, lf_dropped, lf_told_again, lf_ended, lf_paired, lf_followed, word_num, word_fin, word_long])

section
variable {P : Program} {w : World} {K : PySem.W.Frag} {mg : Str → Option Value} {base : Heap} {a : Ads} {n : Nat}
def sp_Drawer_init (CD CS CL : Addr) : DSp := fun ds W Q _ => ∃ p c, ds = [.ref p, chD c] ∧ Good c ∧ W p = some (.ins CD []) ∧ ∀ W' x, x.p = p → DrwAt CD CS CL W' c ⟨start c, 0, []⟩ [] false x → (∀ y ob, y ≠ p → W y = some ob → W' y = some ob) → (∀ y ∈ x.all, y ≠ p → W y = none) → Q .non W'
theorem ok_Drawer_init {fd : FuncData} (F : Fun K "__init__" "Drawer.__init__" s_Drawer_init a.Drawer_init fd) (T : Txt w K mg a)
    (h_need_chain : Has P w K mg base (L2.CX P w) 4 "need_chain" a.need_chain ["chain"] sp_need_chain) (h_all_makers : Has P w K mg base CX0 5 "all_makers" a.all_makers ["chain"] (sp_all_makers 4))
    (h_Source : HasC P w K mg base CX0 1 "Source" a.Source a.Source_init ["self", "maker", "book"] (sp_Source_init a.Source))
    (h_Drawer_made : HasM P w K mg base CX0 12 a.Drawer "made" a.Drawer_made ["self", "chain", "number"] (sp_made a.Drawer a.Source a.Link 4)) :
    FnOk P w K mg base (L2.CX P w) 13 a.Drawer_init fd ["self", "chain"] (liftSp (sp_Drawer_init a.Drawer a.Source a.Link)) := by
  refine F.dokX sc_Drawer_init (fun ds W Qd Ed h => ?_) (fun cdv A outer s H E W0 ds Qd Ed hr fx h => ?_)
  · obtain ⟨_, _, rfl, _⟩ := h; rfl
  · obtain ⟨p, c, rfl, gd, hp, q⟩ := h
    refine ⟨_, (s_cons (s_expr (d_callL h_need_chain (hr.mono (by omega)) (by rfl) (d_cons (d_var 1) d_nil)))
  (s_cons (s_fld (d_var 0) (d_own (d_cons d_int d_nil)) T.cl_Drawer T.na_Drawer_book)
  (s_cons (s_fld (d_var 0) (d_own d_nil) T.cl_Drawer T.na_Drawer_lost)
  (s_cons (s_fld (d_var 0) (d_own d_nil) T.cl_Drawer T.na_Drawer_back)
  (s_cons (s_fld (d_var 0) d_bl T.cl_Drawer T.na_Drawer_stuck)
  (s_cons (s_fld (d_var 0) (d_lc rfl sc_Drawer_init.nd (i_lst (d_callH h_all_makers (hr.mono (by omega)) (by rfl) (d_cons (d_var 1) d_nil))) (blkOk_by (own := [("maker", 2)]) (N := n_Drawer_init) (sc := defScope s_Drawer_init) (by decide +kernel)) (simG_name (by decide)) (fun _ _ _ _ _ => pg_name (i := 2) sc_Drawer_init.nd rfl (Or.inl rfl)) (fun _ _ _ _ _ => t_nil) (fun _ _ _ _ _ => (d_makeH h_Source (hr.mono (by omega)) (by rfl) (d_cons (d_var 2) (d_cons (d_fld (d_var 0) T.cl_Drawer T.na_Drawer_book) d_nil))))) T.cl_Drawer T.na_Drawer_sources)
  (s_one (s_fld (d_var 0) (d_methH h_Drawer_made (d_var 0) (hr.mono (by omega)) (d_cons (d_var 1) (d_cons d_int d_nil))) T.cl_Drawer T.na_Drawer_top)))))))), ?_⟩
    walk_at "g"
    refine ⟨c, rfl, gd, ?_⟩
    intro y1 h1
    refine ⟨_, fresh_at hp h1, by simp, ?_⟩
    generalize hW1 : put (put W0 y1 _) p _ = W1
    obtain ⟨p1, b1, n1, f1⟩ := fresh_any hp h1 hW1
    clear hW1
    intro y2 h2
    refine ⟨_, fresh_at p1 h2, by simp [putG], ?_⟩
    generalize hW2 : put (put W1 y2 _) p _ = W2
    obtain ⟨p2, b2, n2, f2⟩ := fresh_any p1 h2 hW2
    clear hW2
    intro y3 h3
    refine ⟨_, fresh_at p2 h3, by simp [putG, str_inj], by simp [putG, str_inj], ?_⟩
    have eF : putG (Str.ofString "stuck") (.bl false) (putG (Str.ofString "back") (.ref y3) (putG (Str.ofString "lost") (.ref y2) (putG (Str.ofString "book") (.ref y1) []))) = [(Str.ofString "book", .ref y1), (Str.ofString "lost", .ref y2), (Str.ofString "back", .ref y3), (Str.ofString "stuck", .bl false)] := by simp [putG, str_inj]
    rw [eF]
    generalize hW3 : put (put W2 y3 _) p _ = W3
    obtain ⟨p3, b3, n3, f3⟩ := fresh_any p2 h3 hW3
    clear hW3 eF p2 p1
    have dl := depth_lt c
    have nm := gd.nm
    refine ⟨c, rfl, by omega, gd.nm, gd.st, ?_⟩
    walk_at "g"
    intro y4 h4
    have n4 : p ≠ y4 := fun z => by rw [← z, p3] at h4; cases h4
    refine lc_srcs (CD := a.Drawer) (CS := a.Source) (book := y1) (fs := [(Str.ofString "book", .ref y1), (Str.ofString "lost", .ref y2), (Str.ofString "back", .ref y3), (Str.ofString "stuck", .bl false)]) n4 (fun m W' hp' Q' hq => ?_) c.mks [] _ _ (fresh_at p3 h4) put_same (by rw [List.length_nil]; omega) (fun W4 sa gl k1 k2 k3 k4 k5 k6 => ?_)
    · walk_at "g"
      repeat (simp only [hp', List.lookup_cons]; try walk_at "g")
      intro x hx
      refine ⟨x, m, y1, rfl, put_same, ?_⟩
      walk_at "g"
      exact hq x hx
    · have hsa4 : ∀ z ∈ sa, z ≠ y4 ∧ W3 z = none := fun z hz => by
        have h := k5 z hz
        have n' : z ≠ y4 := fun e => by rw [e, put_same] at h; cases h
        rw [put_ne n'] at h
        exact ⟨n', h⟩
      refine ⟨_, k1, ?_⟩
      have kd : ∀ z, z ≠ y4 → del W4 y4 z = W4 z := fun z n => del_ne n
      generalize del W4 y4 = V4 at kd ⊢
      have k2' : SrcsAt a.Source y1 V4 sa c.mks gl := k2.frameM fun x hx => kd x (hsa4 x hx).1
      have p4 : V4 p = _ := (kd p n4).trans (k4 p _ n4 (fresh_at p3 h4))
      have kf : ∀ z o, z ≠ y4 → W3 z = some o → V4 z = some o := fun z o n e => (kd z n).trans (k4 z o n (fresh_at e h4))
      simp only [p4]
      walk_at "g"
      have e5 : putG (Str.ofString "sources") (.lst (sa.map D.ref)) [(Str.ofString "book", .ref y1), (Str.ofString "lost", .ref y2), (Str.ofString "back", .ref y3), (Str.ofString "stuck", .bl false)] = [(Str.ofString "book", .ref y1), (Str.ofString "lost", .ref y2), (Str.ofString "back", .ref y3), (Str.ofString "stuck", .bl false), (Str.ofString "sources", .lst (sa.map D.ref))] := by simp [putG, str_inj]
      rw [e5]
      generalize hW5 : put V4 p _ = W5
      obtain ⟨p5, f5⟩ := set_fld hW5
      clear hW5 e5
      have psa : p ∉ sa := fun z => by
        have := k5 p z
        rw [fresh_at p3 h4] at this
        cases this
      have nsa : ∀ z ∈ sa, z ≠ p := fun z hz e => psa (by rw [← e]; exact hz)
      refine ⟨by decide, by simp [List.lookup, str_beq], p, c, 0, y2, y1, sa, rfl, by omega, gd.nm, gd.st, ⟨⟨_, p5, by simp [List.lookup, str_beq], by simp [List.lookup, str_beq], by simp [List.lookup, str_beq]⟩, k6, ⟨sa, [], gl, by simp, k2'.frameM fun x hx => f5 x (nsa x hx), k3⟩⟩, fun W6 q6 fp6 mq => ?_⟩
      have p6 := mq.rest _ _ p5
      refine ⟨_, p6, by simp, ?_⟩
      have e7 : putG (Str.ofString "top") (.ref q6) [(Str.ofString "book", .ref y1), (Str.ofString "lost", .ref y2), (Str.ofString "back", .ref y3), (Str.ofString "stuck", .bl false), (Str.ofString "sources", .lst (sa.map D.ref))] = drwF y1 y2 y3 sa q6 false := by simp [putG, str_inj, drwF]
      rw [e7]
      generalize hW7 : put W6 p _ = W7
      obtain ⟨p7, f7⟩ := set_fld hW7
      clear hW7 e7
      -- what stands, stands on
      have t3 : ∀ z o, z ≠ p → W3 z = some o → W7 z = some o := fun z o n e => by
        have n4' : z ≠ y4 := fun e2 => by rw [e2, h4] at e; cases e
        rw [f7 z n]
        exact mq.rest z o (by rw [f5 z n]; exact kf z o n4' e)
      have t2 : ∀ z o, z ≠ p → W2 z = some o → W7 z = some o := fun z o n e => t3 z o n (f3 z o n e)
      have t1 : ∀ z o, z ≠ p → W1 z = some o → W7 z = some o := fun z o n e => t2 z o n (f2 z o n e)
      have t0 : ∀ z o, z ≠ p → W0 z = some o → W7 z = some o := fun z o n e => t1 z o n (f1 z o n e)
      have w1 := t1 _ _ n1 b1
      have w2 := t2 _ _ n2 b2
      have w3 := t3 _ _ n3 b3
      obtain ⟨sa', r', esa, si, frs⟩ := mq.src
      have esa2 : sa' = sa := by
        have l1 : sa'.length = c.mks.length := si.len ⟨_, rfl, mq.nd.len⟩
        have l2 : sa.length = c.mks.length := by
          have : ∀ {s : List Addr} {m : List Maker} {g : List Nat}, SrcsAt a.Source y1 W4 s m g → s.length = m.length := by
            intro s
            induction s with
            | nil => intro m g h; cases m with
              | nil => rfl
              | cons _ _ => exact h.elim
            | cons x s ih => intro m g h; cases m with
              | nil => exact h.elim
              | cons _ _ => cases g with
                | nil => exact h.elim
                | cons _ _ => rw [List.length_cons, List.length_cons, ih h.2]
          exact this k2
        rw [List.drop_zero] at esa
        exact (List.append_inj (show sa' ++ r' = sa ++ [] by rw [← esa, List.append_nil]) (by omega)).1
      subst esa2
      have d12 : y1 ≠ y2 := fun e => by rw [← e, b1] at h2; cases h2
      have d13 : y1 ≠ y3 := fun e => by rw [← e, f2 _ _ n1 b1] at h3; cases h3
      have d23 : y2 ≠ y3 := fun e => by rw [← e, b2] at h3; cases h3
      -- what is new
      have q5 : ∀ x ∈ fp6, x ≠ p ∧ W3 x = none := fun x hx => by
        rcases frs x hx with z | z
        · have n : x ≠ p := fun e => by rw [e, p5] at z; cases z
          rw [f5 x n] at z
          by_cases n' : x = y4
          · exact ⟨n, by rw [n']; exact h4⟩
          refine ⟨n, ?_⟩
          cases e : W3 x with
          | none => rfl
          | some o => rw [kf x o n' e] at z; cases z
        · exact ⟨nsa x z, (hsa4 x z).2⟩
      have no3 : ∀ x, x ≠ p → W3 x = none → W0 x = none := fun x n h => by
        cases e : W0 x with
        | none => rfl
        | some o => rw [f3 _ _ n (f2 _ _ n (f1 _ _ n e))] at h; cases h
      have no2 : ∀ x, x ≠ p → W2 x = none → W0 x = none := fun x n h => by
        cases e : W0 x with
        | none => rfl
        | some o => rw [f2 _ _ n (f1 _ _ n e)] at h; cases h
      have no1 : ∀ x, x ≠ p → W1 x = none → W0 x = none := fun x n h => by
        cases e : W0 x with
        | none => rfl
        | some o => rw [f1 _ _ n e] at h; cases h
      have o1 : y1 ∉ fp6 := fun z => by have := (q5 _ z).2; rw [f3 _ _ n1 (f2 _ _ n1 b1)] at this; cases this
      have o2 : y2 ∉ fp6 := fun z => by have := (q5 _ z).2; rw [f3 _ _ n2 b2] at this; cases this
      have o3 : y3 ∉ fp6 := fun z => by have := (q5 _ z).2; rw [b3] at this; cases this
      have op : p ∉ fp6 := fun z => (q5 _ z).1 rfl
      refine done.here (q W7 ⟨p, y1, y2, y3, q6, fp6, sa'⟩ rfl ⟨p7, ⟨mq.nd.frame fun x hx => f7 x (q5 x hx).1, mq.nod, o1, o2, d12, w1, w2⟩, w3, si, ?_⟩ t0 fun y hy n => ?_)
      · simp only [DA5.all, List.nodup_cons, List.mem_cons, not_or]
        exact ⟨⟨Ne.symm n3, Ne.symm n1, Ne.symm n2, op⟩, ⟨Ne.symm d13, Ne.symm d23, o3⟩, ⟨d12, o1⟩, o2, mq.nod⟩
      · simp only [DA5.all, List.mem_cons] at hy
        rcases hy with rfl | rfl | rfl | rfl | hy
        · exact (n rfl).elim
        · exact no2 _ n h3
        · exact h1
        · exact no1 _ n h2
        · exact no3 _ n (q5 _ hy).2
end
end DL
end
section
set_option maxRecDepth 100000
set_option maxHeartbeats 4000000
namespace DL
open PySem PySem.Spec PyProof.Rows L2
local macro_rules | `(tactic| walk_at "g") => `(tactic| simp only [hNext, hSeq, hDrop, hRet, hRetN, hIf, hAsg, hPar, kName, kNil, kCons, kTup, gVar, gC, gUn, gOp, gNil, gCons, gN, gTup, gLst, gB, gAnd, gOr, gNot, gTNot, gTAnd, gTOr, gIf, gChain, gCall, gMeth, gFld, hFld, gLc, gLcO, gYes, hFor, iTupG, iLst, iOwn, iR1, iR2, gOwn, fSl, gNone, gPart, rSlTup, rSlLst, rSlStr, gLM, mAppend, mExtend, mPop, mClear, gMake, hKPair, gKGetI, gNotInK, kSub, hRaise,
  fI, fI0, fU, fIsi, fIsi2, fLen, fLenS, fList, fListO, fTuple, fIdx, fCatL, fCatT, fCatO, fIn, fIntB, fMin2, seqOf_lst, seqOf_tup, seqOf_frz, seqOf_put, listOf_lst, listOf_put, wipeD, dstart, List.map_cons, List.map_nil, List.length_cons, List.length_nil, List.cons_append, List.nil_append, List.getElem?_cons_zero, List.getElem?_cons_succ, List.set_cons_zero, List.set_cons_succ, List.replicate_zero, List.replicate_succ, Nat.sub_self,
  fEq_int, fEq_str, fNe_int, fNe_str, fEq_bl, fNe_bl, str_beq, str_inj, String.reduceEq, decide_true, decide_false, Bool.not_true, Bool.not_false, Bool.true_and, Bool.and_true, Bool.false_and, Bool.and_false, Bool.or_true, Bool.true_or, Bool.or_false, Bool.false_or,
  atI_0, atI_1, atI_2, atI_3, cut_1, List.drop_succ_cons, List.drop_zero, Option.some.injEq, exists_eq_left', exists_eq_left, exists_eq_right, exists_eq_right', exists_eq, exists_eq', D.bl.injEq, D.int.injEq, D.str.injEq, D.ty.injEq, D.ref.injEq, D.tup.injEq, D.lst.injEq, D.frz.injEq, Ob.lst.injEq, Ob.ins.injEq, List.cons.injEq, and_true, true_and, and_assoc, exists_and_left, exists_and_right, exists_const, if_true, if_false, reduceIte, Bool.false_eq_true, reduceCtorEq, false_and, and_false, exists_false, false_or, or_false, ne_eq, not_false_eq_true, not_true_eq_false, implies_true, Nat.reduceLeDiff, Nat.reduceAdd, Nat.reduceSub, Nat.reduceEqDiff, sizeLine, Nat.reducePow, List.append_nil, List.length_append, put_put, put_same,
  kb_NoneType_int, kb_NoneType_bool, kb_NoneType_str, kb_NoneType_tuple, kb_NoneType_list, kb_bool_int, kb_bool_bool, kb_bool_str, kb_bool_tuple, kb_bool_list, kb_int_int, kb_int_bool, kb_int_str, kb_int_tuple, kb_int_list, kb_str_int, kb_str_bool, kb_str_str, kb_str_tuple, kb_str_list, kb_tuple_int, kb_tuple_bool, kb_tuple_str, kb_tuple_tuple, kb_tuple_list, kb_list_int, kb_list_bool, kb_list_str, kb_list_tuple, kb_list_list, kindOf_non, kindOf_bl, kindOf_int, kindOf_str, kindOf_tup, kindOf_lst, kindOf_frz, len_0, Int.cast_ofNat_Int, Int.natCast_add, Int.natCast_zero, Int.natCast_one, Int.reduceAdd, Int.reduceSub, Int.reduceLT, Int.reduceLE, Int.reduceBEq, Int.reduceEq, Int.reduceNe, beq_self_eq_true, beq_iff_eq, beq_eq_false_iff_ne, decide_eq_true_eq, decide_eq_false_iff_not, Bool.not_eq_true', Bool.not_eq_false', mkD_count, mkD_row, opD_add, opD_times, opD_keep, opD_drop, opD_take, opD_each, opD_til, opD_unlike, stgD_op, stgD_both, stgD_thn, List.map_map, List.any_cons, List.any_nil, List.all_cons, List.all_nil, inD, eqF, flatD, ixN_1_0, ixN_2_0, ixN_2_1, ixN_3_0, ixN_3_1, ixN_3_2, ixN_4_0, ixN_4_1, ixN_4_2, ixN_4_3, List.length_set, List.dropLast_concat, sf_gives, sf_book, sf_given, sf_put, sf_put1, lp_told1, lp_left1, sf_len, Int.add_sub_cancel, sf_draw, lf_rule, lf_ahead, lf_beside, lf_lost, lf_over, lf_told, lf_last, lf_left, lf_len, lp_over, lp_told, lp_last, lp_left, lf_draw, lf_drawn_by, lf_sought, lf_dropped, lf_told_again, lf_ended, lf_paired, lf_followed, word_num, word_fin, word_long, df_book, df_lost, df_back, df_stuck, df_sources, df_top, df_next, df_drawn, df_undone, df_put_back, df_len, dp_stuck])

section
variable {P : Program} {w : World} {K : PySem.W.Frag} {mg : Str → Option Value} {base : Heap} {a : Ads} {n : Nat}
def sp_next (CD CS CL : Addr) : DSp := fun ds W Q _ => ∃ c x y n, ds = [.ref y.p] ∧ c.size ≤ 20 ∧ OkD (n + 1) c x ∧ DwAt CD CS CL W c x y ∧ ∀ W', DwAt CD CS CL W' c (next c x).2 y → Same W W' y.all → Q (tellD (next c x).1.1 (next c x).1.2) W'
theorem ok_Drawer_next {fd : FuncData} (F : Fun K "next" "Drawer.next" s_Drawer_next a.Drawer_next fd) (T : Txt w K mg a) (h_Source_draw : HasM P w K mg base CX0 1 a.Source "draw" a.Source_draw ["self"] (sp_src a.Source a.Link)) (h_Link_draw : HasM P w K mg base CX0 61 a.Link "draw" a.Link_draw ["self"] (sp_link a.Source a.Link 20)) :
    FnOk P w K mg base CX0 62 a.Drawer_next fd ["self"] (liftSp (sp_next a.Drawer a.Source a.Link)) := by
  refine F.dok sc_Drawer_next (fun ds W Qd Ed h => ?_) (fun cdv A outer s H E W0 ds Qd Ed hr h => ?_)
  · obtain ⟨_, _, _, _, rfl, _⟩ := h; rfl
  · obtain ⟨c, x, y, n, rfl, hs, ok, h, q⟩ := h
    obtain ⟨_, g_LONG⟩ := T.g_LONG
    obtain ⟨_, g_NUMBER⟩ := T.g_NUMBER
    obtain ⟨_, g_PATIENCE⟩ := T.g_PATIENCE
    refine ⟨_, (s_cons (s_if (t_cmp (op_neA hr.units) s_ne (d_fld (d_var 0) T.cl_Drawer T.na_Drawer_back) (d_lst d_nil) (nomark _)) (s_one (s_ret (d_tup (d_cons (d_globS (by rfl) g_NUMBER ⟨_, rfl⟩) (d_cons (d_lm0 PySem.F.plainAttrs_list PySem.F.slot_list_pop PySem.F.type_list_pop mt_pop m_pop (d_fld (d_var 0) T.cl_Drawer T.na_Drawer_back)) d_nil))))) s_nil)
  (s_cons (s_if (d_test (d_fld (d_var 0) T.cl_Drawer T.na_Drawer_stuck)) (s_one (s_ret (d_tup (d_cons (d_globS (by rfl) g_LONG ⟨_, rfl⟩) d_nil)))) s_nil)
  (s_cons (s_asg (d_globI (by rfl) g_PATIENCE ⟨_, rfl⟩) (k_sub (d_fld (d_var 0) T.cl_Drawer T.na_Drawer_book) d_int))
  (s_cons (s_asg (d_alt (d_methH0 h_Source_draw (d_fld (d_var 0) T.cl_Drawer T.na_Drawer_top) (hr.mono (by omega))) (d_methH0 h_Link_draw (d_fld (d_var 0) T.cl_Drawer T.na_Drawer_top) (hr.mono (by omega)))) (k_tup (n := 2) rfl (k_cons (k_name (i := 1) sc_Drawer_next.nd rfl (Or.inl rfl)) (k_cons (k_name (i := 2) sc_Drawer_next.nd rfl (Or.inl rfl)) k_nil))))
  (s_cons (s_fld (d_var 0) (d_cmp (op_eqA hr.units) s_eq (d_var 1) (d_globS (by rfl) g_LONG ⟨_, rfl⟩) (nomark _)) T.cl_Drawer T.na_Drawer_stuck)
  (s_one (s_ret (d_if (t_cmp (op_eqA hr.units) s_eq (d_var 1) (d_globS (by rfl) g_NUMBER ⟨_, rfl⟩) (nomark _)) (d_tup (d_cons (d_var 1) (d_cons (d_var 2) d_nil))) (d_tup (d_cons (d_var 1) d_nil)))))))))), ?_⟩
    have hp := h.at_
    have hbk := h.bk
    have hbook := h.pre.bk
    have len := ok.back
    walk_at "g"
    repeat (simp only [hp, hbk, hbook]; try walk_at "g")
    refine ne_owned hbk (fun d hd => ?_) ?_
    · obtain ⟨i, _, rfl⟩ := List.mem_map.mp hd
      exact fine_int
    · rcases List.eq_nil_or_concat x.back with e | ⟨l, k, e⟩
      · have en : next c x = if x.stuck = true then ((.long, 0), x) else (((draw c ⟨x.d.sd, 200, x.d.ls⟩).w, (draw c ⟨x.d.sd, 200, x.d.ls⟩).k), ⟨(draw c ⟨x.d.sd, 200, x.d.ls⟩).d, x.back, (draw c ⟨x.d.sd, 200, x.d.ls⟩).w == .long⟩) := by
          unfold next
          rw [e]
          rfl
        rw [en] at q
        rw [e]
        rw [show (!List.isEmpty (List.map D.int [])) = false from rfl]
        walk_at "g"
        repeat (simp only [hp, hbk, hbook]; try walk_at "g")
        by_cases hst : x.stuck = true
        · rw [if_pos hst] at q ⊢
          exact done.here (q W0 h (Same.refl _ _))
        · rw [if_neg hst] at q ⊢
          obtain ⟨M, hM, okc⟩ := ok.go
          have h2 : DrwAt a.Drawer a.Source a.Link (put W0 y.book (.lst [.int 200])) c ⟨x.d.sd, 200, x.d.ls⟩ x.back x.stuck y := h.setBook (b := 200)
          have sm : Same W0 (put W0 y.book (.lst [.int 200])) y.all := Same.put (by simp [DA5.all])
          refine alt_draw (fun k hk => ?_) hs h2.pre okc (fun W1 a1 kp ok1 => ?_)
          · walk_at "g"
            repeat (simp only [h2.at_]; try walk_at "g")
            exact hk
          · obtain ⟨h3, sm3⟩ := h2.after a1
            generalize draw c ⟨x.d.sd, 200, x.d.ls⟩ = r1 at a1 kp ok1 q h3 ⊢
            obtain ⟨w1, k1, d1⟩ := r1
            simp only at h3 q
            have hp1 := h3.at_
            have fin : ∀ st : Bool, st = (w1 == .long) → Qd (tellD w1 k1) (put W1 y.p (.ins a.Drawer (drwF y.book y.lost y.bk y.sa y.top st))) := fun st e => by
              subst e
              exact q _ h3.setStuck (sm.trans (sm3.trans (Same.put (by simp [DA5.all]))))
            cases w1 <;> simp only [outD, wordOf] <;> walk_at "g" <;> repeat (simp only [hp1]; try walk_at "g")
            · exact done.here (fin false rfl)
            · exact done.here (fin false rfl)
            · exact done.here (fin true rfl)
      · have en : next c x = ((.num, k), ⟨x.d, l, x.stuck⟩) := by
          unfold next
          rw [e, List.concat_eq_append, List.getLast?_concat, List.dropLast_concat]
        rw [en] at q
        rw [e, List.concat_eq_append] at hbk ⊢
        rw [show (!List.isEmpty (List.map D.int (l ++ [k]))) = true by simp]
        walk_at "g"
        repeat (simp only [hp, hbk, hbook]; try walk_at "g")
        rw [List.map_append]
        refine ⟨.int k, by simp, ?_⟩
        rw [List.map_cons, List.map_nil, List.dropLast_concat]
        exact done.here (q _ h.setBack (Same.put (by simp [DA5.all])))
def givenD (W : Wd) : D → D
  | .ref z => match W z with
    | some (.ins _ fs) => (fs.lookup (Str.ofString "given")).getD .non
    | _ => .non
  | _ => .non
theorem given_all {CS book : Addr} {W : Wd} : ∀ {sa : List Addr} {ms : List Maker} {gl : List Nat}, SrcsAt CS book W sa ms gl → (sa.map D.ref).map (givenD W) = gl.map fun (g : Nat) => D.int (g : Int)
  | [], [], [], _ => rfl
  | x :: sa, m :: ms, g :: gl, ⟨h1, h2⟩ => by
    rw [List.map_cons, List.map_cons, List.map_cons, given_all h2]
    simp only [givenD, h1, sf_given]
    rfl
theorem SrcsAt.len {CS book : Addr} {W : Wd} : ∀ {sa : List Addr} {ms : List Maker} {gl : List Nat}, SrcsAt CS book W sa ms gl → sa.length = ms.length ∧ gl.length = ms.length
  | [], [], [], _ => ⟨rfl, rfl⟩
  | x :: sa, m :: ms, g :: gl, ⟨h1, h2⟩ => by
    obtain ⟨k1, k2⟩ := SrcsAt.len h2
    simp only [List.length_cons, k1, k2, and_self]
def sp_drawn (CD CS CL : Addr) : DSp := fun ds W Q _ => ∃ c x y, ds = [.ref y.p] ∧ c.mks.length ≤ 1000 ∧ DwAt CD CS CL W c x y ∧ Q (gsD x.d) W
theorem ok_Drawer_drawn {fd : FuncData} (F : Fun K "drawn" "Drawer.drawn" s_Drawer_drawn a.Drawer_drawn fd) (T : Txt w K mg a) :
    FnOk P w K mg base CX0 1 a.Drawer_drawn fd ["self"] (liftSp (sp_drawn a.Drawer a.Source a.Link)) := by
  refine F.dok sc_Drawer_drawn (fun ds W Qd Ed h => ?_) (fun cdv A outer s H E W0 ds Qd Ed hr h => ?_)
  · obtain ⟨_, _, _, rfl, _⟩ := h; rfl
  · obtain ⟨c, x, y, rfl, hl, h, q⟩ := h
    refine ⟨_, (s_one (s_ret (d_lc rfl sc_Drawer_drawn.nd (i_lst (d_fld (d_var 0) T.cl_Drawer T.na_Drawer_sources)) (blkOk_by (own := [("source", 1)]) (N := n_Drawer_drawn) (sc := defScope s_Drawer_drawn) (by decide +kernel)) (simG_name (by decide)) (fun _ _ _ _ _ => pg_name (i := 1) sc_Drawer_drawn.nd rfl (Or.inl rfl)) (fun _ _ _ _ _ => t_nil) (fun _ _ _ _ _ => (d_fld (d_var 1) T.cl_Source T.na_Source_given))))), ?_⟩
    have hp := h.at_
    have st := h.pre.nd.srcs h.si
    walk_at "g"
    repeat (simp only [hp]; try walk_at "g")
    refine lc_done (fun _ => true) (givenD W0) (fun x _ W' Q' _ q => q) (fun z hz _ W' Q' ag q' => ?_) (by rw [List.length_map, st.len.1]; omega) (fun p hp' => ?_)
    · obtain ⟨u, hu, rfl⟩ := List.mem_map.mp hz
      obtain ⟨m, g, e⟩ := st.get u hu
      have e' := ag _ _ e
      walk_at "g"
      repeat (simp only [e']; try walk_at "g")
      simpa only [givenD, e, sf_given, Option.getD_some] using q'
    · refine ⟨_, put_same, ?_⟩
      rw [del_put hp', List.filter_eq_self.mpr (fun _ _ => rfl), given_all st]
      exact done.here q
end
end DL
end
section
set_option maxRecDepth 100000
set_option maxHeartbeats 4000000
namespace DL
open PySem PySem.Spec PyProof.Rows L2
abbrev s_first : Stmt := top 32
abbrev n_first : List Str := ["chain", "many", "drawer", "found", "turn", "told"]
theorem sc_first : FnScope n_first ["chain", "many"] (defScope s_first) := ⟨rfl, rfl, rfl, by decide +kernel, rfl, by decide +kernel, by decide +kernel⟩
local macro_rules | `(tactic| walk_at "g") => `(tactic| simp only [hNext, hSeq, hDrop, hRet, hRetN, hIf, hAsg, hPar, kName, kNil, kCons, kTup, gVar, gC, gUn, gOp, gNil, gCons, gN, gTup, gLst, gB, gAnd, gOr, gNot, gTNot, gTAnd, gTOr, gIf, gChain, gCall, gMeth, gFld, hFld, gLc, gLcO, gYes, hFor, iTupG, iLst, iOwn, iR1, iR2, gOwn, fSl, gNone, gPart, rSlTup, rSlLst, rSlStr, gLM, mAppend, mExtend, mPop, mClear, gMake, hKPair, gKGetI, gNotInK, kSub, hRaise,
  fI, fI0, fU, fIsi, fIsi2, fLen, fLenS, fList, fListO, fTuple, fIdx, fCatL, fCatT, fCatO, fIn, fIntB, fMin2, seqOf_lst, seqOf_tup, seqOf_frz, seqOf_put, listOf_lst, listOf_put, wipeD, dstart, List.map_cons, List.map_nil, List.length_cons, List.length_nil, List.cons_append, List.nil_append, List.getElem?_cons_zero, List.getElem?_cons_succ, List.set_cons_zero, List.set_cons_succ, List.replicate_zero, List.replicate_succ, Nat.sub_self,
  fEq_int, fEq_str, fNe_int, fNe_str, fEq_bl, fNe_bl, str_beq, str_inj, String.reduceEq, decide_true, decide_false, Bool.not_true, Bool.not_false, Bool.true_and, Bool.and_true, Bool.false_and, Bool.and_false, Bool.or_true, Bool.true_or, Bool.or_false, Bool.false_or,
  atI_0, atI_1, atI_2, atI_3, cut_1, List.drop_succ_cons, List.drop_zero, Option.some.injEq, exists_eq_left', exists_eq_left, exists_eq_right, exists_eq_right', exists_eq, exists_eq', D.bl.injEq, D.int.injEq, D.str.injEq, D.ty.injEq, D.ref.injEq, D.tup.injEq, D.lst.injEq, D.frz.injEq, Ob.lst.injEq, Ob.ins.injEq, List.cons.injEq, and_true, true_and, and_assoc, exists_and_left, exists_and_right, exists_const, if_true, if_false, reduceIte, Bool.false_eq_true, reduceCtorEq, false_and, and_false, exists_false, false_or, or_false, ne_eq, not_false_eq_true, not_true_eq_false, implies_true, Nat.reduceLeDiff, Nat.reduceAdd, Nat.reduceSub, Nat.reduceEqDiff, sizeLine, Nat.reducePow, List.append_nil, List.length_append, put_put, put_same,
  kb_NoneType_int, kb_NoneType_bool, kb_NoneType_str, kb_NoneType_tuple, kb_NoneType_list, kb_bool_int, kb_bool_bool, kb_bool_str, kb_bool_tuple, kb_bool_list, kb_int_int, kb_int_bool, kb_int_str, kb_int_tuple, kb_int_list, kb_str_int, kb_str_bool, kb_str_str, kb_str_tuple, kb_str_list, kb_tuple_int, kb_tuple_bool, kb_tuple_str, kb_tuple_tuple, kb_tuple_list, kb_list_int, kb_list_bool, kb_list_str, kb_list_tuple, kb_list_list, kindOf_non, kindOf_bl, kindOf_int, kindOf_str, kindOf_tup, kindOf_lst, kindOf_frz, len_0, Int.cast_ofNat_Int, Int.natCast_add, Int.natCast_zero, Int.natCast_one, Int.reduceAdd, Int.reduceSub, Int.reduceLT, Int.reduceLE, Int.reduceBEq, Int.reduceEq, Int.reduceNe, beq_self_eq_true, beq_iff_eq, beq_eq_false_iff_ne, decide_eq_true_eq, decide_eq_false_iff_not, Bool.not_eq_true', Bool.not_eq_false', mkD_count, mkD_row, opD_add, opD_times, opD_keep, opD_drop, opD_take, opD_each, opD_til, opD_unlike, stgD_op, stgD_both, stgD_thn, List.map_map, List.any_cons, List.any_nil, List.all_cons, List.all_nil, inD, eqF, flatD, ixN_1_0, ixN_2_0, ixN_2_1, ixN_3_0, ixN_3_1, ixN_3_2, ixN_4_0, ixN_4_1, ixN_4_2, ixN_4_3, List.length_set, List.dropLast_concat, sf_gives, sf_book, sf_given, sf_put, sf_put1, lp_told1, lp_left1, sf_len, Int.add_sub_cancel, sf_draw, lf_rule, lf_ahead, lf_beside, lf_lost, lf_over, lf_told, lf_last, lf_left, lf_len, lp_over, lp_told, lp_last, lp_left, lf_draw, lf_drawn_by, lf_sought, lf_dropped, lf_told_again, lf_ended, lf_paired, lf_followed, word_num, word_fin, word_long, df_book, df_lost, df_back, df_stuck, df_sources, df_top, df_next, df_drawn, df_undone, df_put_back, df_len, dp_stuck])

section
variable {P : Program} {w : World} {K : PySem.W.Frag} {mg : Str → Option Value} {base : Heap} {a : Ads} {n : Nat}
def sp_first : DSp := fun ds W Q _ => ∃ (c : Ch) (n : Nat), ds = [chD c, .int ((n : Nat) : Int)] ∧ Good c ∧ NumB c ∧ n ≤ 1000 ∧ Q (firstD c n) W
theorem ok_first {fd : FuncData} (F : Fun K "first" "first" s_first a.first fd) (T : Txt w K mg a)
    (h_need_chain : Has P w K mg base (L2.CX P w) 4 "need_chain" a.need_chain ["chain"] sp_need_chain)
    (h_Drawer : HasC P w K mg base (L2.CX P w) 13 "Drawer" a.Drawer a.Drawer_init ["self", "chain"] (sp_Drawer_init a.Drawer a.Source a.Link))
    (h_Drawer_next : HasM P w K mg base CX0 62 a.Drawer "next" a.Drawer_next ["self"] (sp_next a.Drawer a.Source a.Link))
    (h_Drawer_drawn : HasM P w K mg base CX0 1 a.Drawer "drawn" a.Drawer_drawn ["self"] (sp_drawn a.Drawer a.Source a.Link)) :
    FnOk P w K mg base (L2.CX P w) 63 a.first fd ["chain", "many"] (liftSp sp_first) := by
  refine F.dokX sc_first (fun ds W Qd Ed h => ?_) (fun cdv A outer s H E W0 ds Qd Ed hr fx h => ?_)
  · obtain ⟨_, _, rfl, _⟩ := h; rfl
  · obtain ⟨c, n, rfl, gd, nb, hn, q⟩ := h
    obtain ⟨_, g_NUMBER⟩ := T.g_NUMBER
    obtain ⟨_, g_MOST_MANY⟩ := T.g_MOST_MANY
    refine ⟨_, (s_cons (s_expr (d_callL h_need_chain (hr.mono (by omega)) (by rfl) (d_cons (d_var 0) d_nil)))
  (s_cons (s_if (t_not (t_chain op_le s_le op_le s_le d_int (d_var 1) (d_globI (by rfl) g_MOST_MANY ⟨_, rfl⟩))) (s_one (s_raise rfl (takes_of rfl rfl rfl rfl) (pmk_own PySem.F.excBase_ValueError T.x_BadMany T.g_BadMany T.k_BadMany (raises_own T.b_BadMany T.t_BadMany) rfl) fx)) s_nil)
  (s_cons (s_set (i := 2) sc_first.nd rfl (Or.inl rfl) (d_makeL h_Drawer (hr.mono (by omega)) (by rfl) (d_cons (d_var 0) d_nil)))
  (s_cons (s_set (i := 3) sc_first.nd rfl (Or.inl rfl) (d_own d_nil))
  (s_cons (s_for (passes_of rfl) rfl (i_r1 (by rfl) T.range (d_cons (d_var 1) d_nil)) (k_name (i := 4) sc_first.nd rfl (Or.inl rfl)) (s_cons (s_set (i := 5) sc_first.nd rfl (Or.inl rfl) (d_methH0 h_Drawer_next (d_var 2) (hr.mono (by omega))))
  (s_cons (s_if (t_cmp (op_neA hr.units) s_ne (d_ix s_idx (d_var 5) d_int (fun _ _ => rfl)) (d_globS (by rfl) g_NUMBER ⟨_, rfl⟩) (nomark _)) (s_one (s_ret (d_tup (d_cons (d_var 3) (d_cons (d_ix s_idx (d_var 5) d_int (fun _ _ => rfl)) (d_cons (d_methH0 h_Drawer_drawn (d_var 2) (hr.mono (by omega))) d_nil)))))) s_nil)
  (s_one (s_expr (d_lm PySem.F.plainAttrs_list PySem.F.slot_list_append PySem.F.type_list_append mt_append m_append (d_var 3) (d_cons (d_ix s_idx (d_var 5) d_int (fun _ _ => rfl)) d_nil)))))))
  (s_one (s_ret (d_tup (d_cons (d_var 3) (d_cons d_str (d_cons (d_methH0 h_Drawer_drawn (d_var 2) (hr.mono (by omega))) d_nil))))))))))), ?_⟩
    walk_at "g"
    refine ⟨c, rfl, gd, ?_⟩
    walk_at "g"
    rw [if_pos (by omega), if_neg (by omega)]
    intro x hx
    refine ⟨x, c, rfl, gd, put_same, fun W1 y ey da rest fresh => ⟨rfl, fun pf hpf => ⟨by omega, by omega, ?_⟩⟩⟩
    subst ey
    have sub0 : ∀ u ob, W0 u = some ob → W1 u = some ob := fun u ob e => by
      have n : u ≠ y.p := fun z => by rw [z, hx] at e; cases e
      exact rest u ob n (by rw [put_ne n]; exact e)
    have out : ∀ u, W0 u ≠ none → u ∉ y.all := fun u hu hm => by
      by_cases n : u = y.p
      · exact hu (by rw [n]; exact hx)
      · have := fresh u hm n
        rw [put_ne n] at this
        exact hu this
    have pfn : pf ∉ y.all := fun z => da.known pf z hpf
    have pf0 : W0 pf = none := none_of sub0 hpf
    have sz := size_nst c
    have g1 := gd.nm
    have g2 := gd.st
    have fin : ∀ (acc : List Int) (wd : Option W3) (z : Dw) (W2 : Wd), W2 pf = some (.lst (acc.map D.int)) → (∀ u ob, W0 u = some ob → W2 u = some ob) → Qd (.tup [.lst (acc.map D.int), .str (endS wd), gsD z.d]) W0 → done Qd (.tup [.ref pf, .str (endS wd), gsD z.d]) W2 := fun acc wd z W2 h1 h2 q2 => by
      refine ⟨_, W0, (Conv.tup (ConvL.head _ (Conv.lst h1))).trans (Conv.shrink fun u ob e => ?_), q2⟩
      rw [del_ne fun z => by rw [z, pf0] at e; cases e]
      exact h2 u ob e
    have main : ∀ (l : List Nat) (acc : List Int) (z : Dw) (W2 : Wd) (x4 x5 : Option D), OkD l.length c z → DwAt a.Drawer a.Source a.Link W2 c z y → W2 pf = some (.lst (acc.map D.int)) → (∀ u ob, W0 u = some ob → W2 u = some ob) → acc.length + l.length ≤ 1000 →
        Qd (.tup [.lst ((acc ++ (run c l.length z).1).map D.int), .str (endS (run c l.length z).2.1), gsD (run c l.length z).2.2.d]) W0 →
        forGo (kName 4)
                              (hSeq
                                (hAsg
                                  (gMeth a.Drawer (Str.ofString "next") (sp_next a.Drawer a.Source a.Link) XD0 (gVar 2)
                                    gNil)
                                  (kName 5))
                                (hSeq
                                  (hIf
                                    (gB
                                      (gOp fNe (gOp fIdx (gVar 5) (gC (D.int 0))) (gC (D.str (Str.ofString "number")))))
                                    (hRet
                                      (gTup
                                        (gCons (gVar 3)
                                          (gCons (gOp fIdx (gVar 5) (gC (D.int 0)))
                                            (gCons
                                              (gMeth a.Drawer (Str.ofString "drawn") (sp_drawn a.Drawer a.Source a.Link)
                                                XD0 (gVar 2) gNil)
                                              gNil)))))
                                    hNext)
                                  (hDrop (gLM mAppend (gVar 3) (gCons (gOp fIdx (gVar 5) (gC (D.int 1))) gNil)))))
                              (l.map (fun (k : Nat) => D.int (k : Int)))
                              {
                                nx :=
                                  hRet
                                    (gTup
                                      (gCons (gVar 3)
                                        (gCons (gC (D.str (Str.ofString "more")))
                                          (gCons
                                            (gMeth a.Drawer (Str.ofString "drawn") (sp_drawn a.Drawer a.Source a.Link)
                                              XD0 (gVar 2) gNil)
                                            gNil))))
                                    { nx := fun x W => done Qd D.non W, rt := done Qd },
                                rt := done Qd }
                              [some (chD c), some (D.int ↑n), some (D.ref y.p), some (D.ref pf), x4, x5] W2 := by
      intro l
      induction l with
      | nil =>
        intro acc z W2 x4 x5 okd dz hpf2 sub hl q2
        simp only [List.map_nil, forGo]
        walk_at "g"
        refine ⟨_, dz.at_, df_drawn, c, z, y, rfl, by omega, dz, ?_⟩
        walk_at "g"
        simp only [List.length_nil, run, List.append_nil] at q2
        exact fin acc none z W2 hpf2 sub q2
      | cons k l ih =>
        intro acc z W2 x4 x5 okd dz hpf2 sub hl q2
        rw [List.length_cons] at okd hl q2
        simp only [List.map_cons, forGo]
        walk_at "g"
        refine ⟨_, dz.at_, df_next, c, z, y, l.length, rfl, by omega, okd, dz, fun W3' d3 sm => ?_⟩
        have ok3 := okd.next
        rw [run] at q2
        generalize next c z = r at d3 q2 ok3 ⊢
        obtain ⟨⟨w1, k1⟩, z1⟩ := r
        simp only at d3 q2 ok3
        have hpf3 : W3' pf = some (.lst (acc.map D.int)) := (sm pf pfn).trans hpf2
        have sub3 : ∀ u ob, W0 u = some ob → W3' u = some ob := fun u ob e => (sm u (out u (by rw [e]; simp))).trans (sub u ob e)
        cases w1
        · simp only [tellD]
          walk_at "g"
          repeat (simp only [hpf3]; try walk_at "g")
          rw [if_pos rfl] at q2
          have e1 : acc.map D.int ++ [.int k1] = (acc ++ [k1]).map D.int := by rw [List.map_append]; rfl
          rw [e1, List.length_map]
          refine ⟨by omega, ?_⟩
          refine ih (acc ++ [k1]) z1 _ _ _ ok3 ?_ put_same (fun u ob e => ?_) (by rw [List.length_append, List.length_singleton]; omega) (by simpa using q2)
          · exact d3.out pfn
          · rw [put_ne fun z => by rw [z, pf0] at e; cases e]
            exact sub3 u ob e
        · simp only [tellD, wordOf]
          walk_at "g"
          refine ⟨_, d3.at_, df_drawn, c, z1, y, rfl, by omega, d3, ?_⟩
          walk_at "g"
          exact fin acc (some .fin) z1 W3' hpf3 sub3 (by simpa using q2)
        · simp only [tellD, wordOf]
          walk_at "g"
          refine ⟨_, d3.at_, df_drawn, c, z1, y, rfl, by omega, d3, ?_⟩
          walk_at "g"
          exact fin acc (some .long) z1 W3' hpf3 sub3 (by simpa using q2)
    rw [show ((n : Nat) : Int).toNat = n from rfl]
    refine main (List.range n) [] (dw0 c) _ _ _ (by rw [List.length_range]; exact OkD.start gd nb (by omega)) (da.out pfn) put_same (fun u ob e => ?_) (by rw [List.length_range]; simp; omega) (by rw [List.length_range]; exact q)
    rw [put_ne fun z => by rw [z, pf0] at e; cases e]
    exact sub0 u ob e
theorem has_first {fd : FuncData} (F : Fun K "first" "first" s_first a.first fd) (g : mg "first" = some (.ref a.first)) (T : Txt w K mg a)
    (h_need_chain : Has P w K mg base (L2.CX P w) 4 "need_chain" a.need_chain ["chain"] sp_need_chain)
    (h_Drawer : HasC P w K mg base (L2.CX P w) 13 "Drawer" a.Drawer a.Drawer_init ["self", "chain"] (sp_Drawer_init a.Drawer a.Source a.Link))
    (h_Drawer_next : HasM P w K mg base CX0 62 a.Drawer "next" a.Drawer_next ["self"] (sp_next a.Drawer a.Source a.Link))
    (h_Drawer_drawn : HasM P w K mg base CX0 1 a.Drawer "drawn" a.Drawer_drawn ["self"] (sp_drawn a.Drawer a.Source a.Link)) :
    Has P w K mg base (L2.CX P w) 63 "first" a.first ["chain", "many"] sp_first :=
  ⟨⟨fd, ok_first F T h_need_chain h_Drawer h_Drawer_next h_Drawer_drawn, F.binds fun _ _ _ _ _ _ us hl => match us, hl with | [_, _], _ => rfl⟩, F.kp, g⟩
end
end DL
end
section
set_option maxRecDepth 100000
set_option maxHeartbeats 4000000
namespace DL
open PySem PySem.Spec PyProof.Rows L2
abbrev s__law_start : Stmt := top 46
abbrev n__law_start : List Str := ["_law_script", "_law_mixed", "_law_cell"]
theorem sc__law_start : FnScope n__law_start ["_law_script"] (defScope s__law_start) := ⟨rfl, rfl, rfl, by decide +kernel, rfl, by decide +kernel, by decide +kernel⟩
abbrev s__law_drawn : Stmt := top 47
abbrev n__law_drawn : List Str := ["_law_state", "_law_many", "_law_found", "_law_cell"]
theorem sc__law_drawn : FnScope n__law_drawn ["_law_state", "_law_many"] (defScope s__law_drawn) := ⟨rfl, rfl, rfl, by decide +kernel, rfl, by decide +kernel, by decide +kernel⟩
abbrev s__law_number : Stmt := top 50
abbrev n__law_number : List Str := ["_law_state", "_law_far"]
theorem sc__law_number : FnScope n__law_number ["_law_state"] (defScope s__law_number) := ⟨rfl, rfl, rfl, by decide +kernel, rfl, by decide +kernel, by decide +kernel⟩
abbrev s__law_maker : Stmt := top 51
abbrev n__law_maker : List Str := ["_law_state", "_law_rows", "_law_many", "_law_few", "_law_k"]
theorem sc__law_maker : FnScope n__law_maker ["_law_state", "_law_rows"] (defScope s__law_maker) := ⟨rfl, rfl, rfl, by decide +kernel, rfl, by decide +kernel, by decide +kernel⟩
abbrev s__law_stage : Stmt := top 52
abbrev n__law_stage : List Str := ["_law_state", "_law_room", "_law_rows", "_law_way", "_law_many", "_law_wheel", "_law_some", "_law_stage_here"]
theorem sc__law_stage : FnScope n__law_stage ["_law_state", "_law_room", "_law_rows"] (defScope s__law_stage) := ⟨rfl, rfl, rfl, by decide +kernel, rfl, by decide +kernel, by decide +kernel⟩
abbrev s__law_chain : Stmt := top 53
abbrev n__law_chain : List Str := ["_law_state", "_law_room", "_law_rows", "_law_maker_here", "_law_stages", "_law_k"]
theorem sc__law_chain : FnScope n__law_chain ["_law_state", "_law_room", "_law_rows"] (defScope s__law_chain) := ⟨rfl, rfl, rfl, by decide +kernel, rfl, by decide +kernel, by decide +kernel⟩
local macro_rules | `(tactic| walk_at "g") => `(tactic| simp only [hNext, hSeq, hDrop, hRet, hRetN, hIf, hAsg, hPar, kName, kNil, kCons, kTup, gVar, gC, gUn, gOp, gNil, gCons, gN, gTup, gLst, gB, gAnd, gOr, gNot, gTNot, gTAnd, gTOr, gIf, gChain, gCall, gMeth, gFld, hFld, gLc, gLcO, gYes, hFor, iTupG, iLst, iOwn, iR1, iR2, gOwn, fSl, gNone, gPart, rSlTup, rSlLst, rSlStr, gLM, mAppend, mExtend, mPop, mClear, gMake, hKPair, gKGetI, gNotInK, kSub, hRaise,
  fI, fI0, fU, fIsi, fIsi2, fLen, fLenS, fList, fListO, fTuple, fIdx, fCatL, fCatT, fCatO, fIn, fIntB, fMin2, seqOf_lst, seqOf_tup, seqOf_frz, seqOf_put, listOf_lst, listOf_put, wipeD, dstart, List.map_cons, List.map_nil, List.length_cons, List.length_nil, List.cons_append, List.nil_append, List.getElem?_cons_zero, List.getElem?_cons_succ, List.set_cons_zero, List.set_cons_succ, List.replicate_zero, List.replicate_succ, Nat.sub_self,
  fEq_int, fEq_str, fNe_int, fNe_str, fEq_bl, fNe_bl, str_beq, str_inj, String.reduceEq, decide_true, decide_false, Bool.not_true, Bool.not_false, Bool.true_and, Bool.and_true, Bool.false_and, Bool.and_false, Bool.or_true, Bool.true_or, Bool.or_false, Bool.false_or,
  atI_0, atI_1, atI_2, atI_3, cut_1, List.drop_succ_cons, List.drop_zero, Option.some.injEq, exists_eq_left', exists_eq_left, exists_eq_right, exists_eq_right', exists_eq, exists_eq', D.bl.injEq, D.int.injEq, D.str.injEq, D.ty.injEq, D.ref.injEq, D.tup.injEq, D.lst.injEq, D.frz.injEq, Ob.lst.injEq, Ob.ins.injEq, List.cons.injEq, and_true, true_and, and_assoc, exists_and_left, exists_and_right, exists_const, if_true, if_false, reduceIte, Bool.false_eq_true, reduceCtorEq, false_and, and_false, exists_false, false_or, or_false, ne_eq, not_false_eq_true, not_true_eq_false, implies_true, Nat.reduceLeDiff, Nat.reduceAdd, Nat.reduceSub, Nat.reduceEqDiff, sizeLine, Nat.reducePow, List.append_nil, List.length_append, put_put, put_same,
  kb_NoneType_int, kb_NoneType_bool, kb_NoneType_str, kb_NoneType_tuple, kb_NoneType_list, kb_bool_int, kb_bool_bool, kb_bool_str, kb_bool_tuple, kb_bool_list, kb_int_int, kb_int_bool, kb_int_str, kb_int_tuple, kb_int_list, kb_str_int, kb_str_bool, kb_str_str, kb_str_tuple, kb_str_list, kb_tuple_int, kb_tuple_bool, kb_tuple_str, kb_tuple_tuple, kb_tuple_list, kb_list_int, kb_list_bool, kb_list_str, kb_list_tuple, kb_list_list, kindOf_non, kindOf_bl, kindOf_int, kindOf_str, kindOf_tup, kindOf_lst, kindOf_frz, len_0, Int.cast_ofNat_Int, Int.natCast_add, Int.natCast_zero, Int.natCast_one, Int.reduceAdd, Int.reduceSub, Int.reduceLT, Int.reduceLE, Int.reduceBEq, Int.reduceEq, Int.reduceNe, beq_self_eq_true, beq_iff_eq, beq_eq_false_iff_ne, decide_eq_true_eq, decide_eq_false_iff_not, Bool.not_eq_true', Bool.not_eq_false', mkD_count, mkD_row, opD_add, opD_times, opD_keep, opD_drop, opD_take, opD_each, opD_til, opD_unlike, stgD_op, stgD_both, stgD_thn, List.map_map, List.any_cons, List.any_nil, List.all_cons, List.all_nil, inD, eqF, flatD, ixN_1_0, ixN_2_0, ixN_2_1, ixN_3_0, ixN_3_1, ixN_3_2, ixN_4_0, ixN_4_1, ixN_4_2, ixN_4_3, List.length_set, List.dropLast_concat, sf_gives, sf_book, sf_given, sf_put, sf_put1, lp_told1, lp_left1, sf_len, Int.add_sub_cancel, sf_draw, lf_rule, lf_ahead, lf_beside, lf_lost, lf_over, lf_told, lf_last, lf_left, lf_len, lp_over, lp_told, lp_last, lp_left, lf_draw, lf_drawn_by, lf_sought, lf_dropped, lf_told_again, lf_ended, lf_paired, lf_followed, word_num, word_fin, word_long, df_book, df_lost, df_back, df_stuck, df_sources, df_top, df_next, df_drawn, df_undone, df_put_back, df_len, dp_stuck])

structure LawAds where
  (start drawn number maker stage chain : Addr)
section
variable {P : Program} {w : World} {K : PySem.W.Frag} {mg : Str → Option Value} {base : Heap} {a : Ads} {b : LawAds} {n : Nat}
theorem atI_mem {l : List D} {k : Int} (h0 : 0 ≤ k) (h1 : k < l.length) : ∃ d, atI l k = some d ∧ d ∈ l := by
  obtain ⟨j, rfl⟩ : ∃ j : Nat, k = (j : Int) := ⟨k.toNat, by omega⟩
  have hj : j < l.length := by omega
  exact ⟨l[j], atI_nat (by rw [List.getElem?_eq_getElem hj]), List.getElem_mem hj⟩
def stD (ns : List Int) (p m r : Int) : List D := [.frz (ns.map D.int), .int p, .int m, .int r]
/-- where drawing stands -/
def StOb (o : Ob) : Prop := ∃ ns p m r, o = .lst (stD ns p m r) ∧ ns.length ≤ 63 ∧ 0 ≤ p ∧ 0 ≤ m ∧ m < 2147483647
def sp_start : DSp := fun ds W Q _ => ∃ ns : List Int, ds = [.frz (ns.map D.int)] ∧ ns.length ≤ 63 ∧ ∀ s o, W s = none → StOb o → Q (.ref s) (put W s o)
theorem has_start {fd : FuncData} (F : Fun K "_law_start" "_law_start" s__law_start b.start fd) (g : mg "_law_start" = some (.ref b.start)) (T : Txt w K mg a) :
    Has P w K mg base CX0 1 "_law_start" b.start ["_law_script"] sp_start := by
  refine ⟨⟨fd, ?_, F.binds fun _ _ _ _ _ _ us hl => match us, hl with | [_], _ => rfl⟩, F.kp, g⟩
  refine F.dok sc__law_start (fun ds W Qd Ed h => ?_) (fun cdv A outer s H E W0 ds Qd Ed hr h => ?_)
  · obtain ⟨_, rfl, _⟩ := h; rfl
  · obtain ⟨ns, rfl, hl, q⟩ := h
    refine ⟨_, (s_cons (s_set (i := 1) sc__law_start.nd rfl (Or.inl rfl) d_int)
  (s_cons (s_for PassesOwn.never rfl (i_lst (d_var 0)) (k_name (i := 2) sc__law_start.nd rfl (Or.inl rfl)) (s_one (s_set (i := 1) sc__law_start.nd rfl (Or.inl rfl) (d_op op_mod s_mod (d_op op_add s_add (d_op op_add s_add (d_op op_mulW s_mul (d_var 1) d_int) (d_var 2)) d_int) d_int))))
  (s_one (s_ret (d_own (d_cons (d_var 0) (d_cons d_int (d_cons (d_var 1) (d_cons d_int d_nil))))))))), ?_⟩
    walk_at "g"
    have main : ∀ (l : List Int) (m : Int) (x2 : Option D), 0 ≤ m → m < 2147483647 → 
        forGo (kName 2)
          (hAsg
            (gOp fMod (gOp fAdd (gOp fAdd (gOp fMul (gVar 1) (gC (D.int 48271))) (gVar 2)) (gC (D.int 7)))
              (gC (D.int 2147483647)))
            (kName 1))
          (l.map D.int)
          {
            nx :=
              hRet (gOwn (gCons (gVar 0) (gCons (gC (D.int 0)) (gCons (gVar 1) (gCons (gC (D.int 0)) gNil)))))
                { nx := fun x W => done Qd D.non W, rt := done Qd },
            rt := done Qd }
          [some (D.frz (List.map D.int ns)), some (D.int m), x2] W0 := by
      intro l
      induction l with
      | nil =>
        intro m x2 h1 h2
        simp only [List.map_nil, forGo]
        walk_at "g"
        intro s hs
        exact done.here (q s _ hs ⟨ns, 0, m, 0, rfl, hl, by omega, h1, h2⟩)
      | cons k l ih =>
        intro m x2 h1 h2
        simp only [List.map_cons, forGo]
        walk_at "g"
        exact ⟨wide_mul (a := 40) (b := 40) (by omega) (by decide) (by decide) (by decide) (by decide), ih _ _ (by omega) (by omega)⟩
    exact main ns 1 none (by omega) (by omega)
def sp_lawdrawn : DSp := fun ds W Q _ => ∃ (s : Addr) (o : Ob) (many : Int), ds = [.ref s, .int many] ∧ W s = some o ∧ StOb o ∧ 1 ≤ many ∧ many < 2 ^ 100 ∧ ∀ k o', 0 ≤ k → k < many → StOb o' → Q (.int k) (put W s o')
theorem has_lawdrawn {fd : FuncData} (F : Fun K "_law_drawn" "_law_drawn" s__law_drawn b.drawn fd) (g : mg "_law_drawn" = some (.ref b.drawn)) (T : Txt w K mg a) :
    Has P w K mg base CX0 1 "_law_drawn" b.drawn ["_law_state", "_law_many"] sp_lawdrawn := by
  refine ⟨⟨fd, ?_, F.binds fun _ _ _ _ _ _ us hl => match us, hl with | [_, _], _ => rfl⟩, F.kp, g⟩
  refine F.dok sc__law_drawn (fun ds W Qd Ed h => ?_) (fun cdv A outer s H E W0 ds Qd Ed hr h => ?_)
  · obtain ⟨_, _, _, rfl, _⟩ := h; rfl
  · obtain ⟨s, o, many, rfl, hs, ⟨ns, p, m, r, rfl, hl, hp, hm, hm2⟩, h1, h2, q⟩ := h
    refine ⟨_, (s_cons (s_if (t_cmp op_gt s_gt (d_ix s_idx (d_var 0) d_int (fun _ _ => rfl)) d_int (nomark _)) (s_cons (s_set (i := 2) sc__law_drawn.nd rfl (Or.inl rfl) (d_op op_mod s_mod (d_ix s_idx (d_var 0) d_int (fun _ _ => rfl)) (d_var 1)))
  (s_cons (s_asg (d_op op_fdivW s_div (d_ix s_idx (d_var 0) d_int (fun _ _ => rfl)) (d_var 1)) (k_sub (d_var 0) d_int))
  (s_one (s_ret (d_var 2))))) s_nil)
  (s_cons (s_asg (d_op op_add s_add (d_ix s_idx (d_var 0) d_int (fun _ _ => rfl)) d_int) (k_sub (d_var 0) d_int))
  (s_cons (s_if (t_cmp op_le s_le (d_ix s_idx (d_var 0) d_int (fun _ _ => rfl)) (d_callB call_len_seq s_len (by rfl) T.len PySem.boot_len (d_cons (d_ix s_idx (d_var 0) d_int (fun _ _ => rfl)) d_nil)) (nomark _)) (s_cons (s_set (i := 3) sc__law_drawn.nd rfl (Or.inl rfl) (d_ix s_idx (d_ix s_idx (d_var 0) d_int (fun _ _ => rfl)) (d_op op_sub s_sub (d_ix s_idx (d_var 0) d_int (fun _ _ => rfl)) d_int) (fun _ _ => rfl)))
  (s_cons (s_asg (d_if (t_cmp op_ge s_ge (d_var 3) (d_op op_pow s_pow d_int d_int) (nomark _)) (d_op op_fdivW s_div (d_var 3) (d_var 1)) d_int) (k_sub (d_var 0) d_int))
  (s_one (s_ret (d_op op_mod s_mod (d_var 3) (d_var 1)))))) s_nil)
  (s_cons (s_asg (d_op op_mod s_mod (d_op op_add s_add (d_op op_mulW s_mul (d_ix s_idx (d_var 0) d_int (fun _ _ => rfl)) d_int) d_int) d_int) (k_sub (d_var 0) d_int))
  (s_one (s_ret (d_op op_mod s_mod (d_op op_fdivW s_div (d_ix s_idx (d_var 0) d_int (fun _ _ => rfl)) d_int) (d_var 1)))))))), ?_⟩
    have ss := seqOf_ref hs
    simp only [stD] at hs ss
    walk_at "g"
    repeat (simp only [hs, ss]; try walk_at "g")
    have dv : CDivW r many := wide_div (b := 100) (by omega) (by omega) (by decide) (by decide)
    have dv' : ∀ i : Int, CDivW i many := fun i => wide_div (b := 100) (by omega) (by omega) (by decide) (by decide)
    have m1 : ∀ i : Int, 0 ≤ i % many := fun i => Int.emod_nonneg _ (by omega)
    have m2 : ∀ i : Int, i % many < many := fun i => Int.emod_lt_of_pos _ (by omega)
    by_cases hr0 : 0 < r
    · rw [if_pos hr0]
      exact ⟨by omega, dv, done.here (q _ _ (m1 r) (m2 r) ⟨ns, p, m, _, rfl, hl, hp, hm, hm2⟩)⟩
    · rw [if_neg hr0]
      by_cases hp1 : p + 1 ≤ ((ns.map D.int).length : Int)
      · rw [if_pos hp1]
        rw [List.length_map] at hp1
        obtain ⟨j, rfl⟩ : ∃ j : Nat, p = (j : Int) := ⟨p.toNat, by omega⟩
        have hj : j < ns.length := by omega
        refine ⟨.int ns[j], atI_nat (by rw [List.getElem?_map, List.getElem?_eq_getElem hj]; rfl), ⟨by decide, by decide, by decide⟩, _, rfl, ?_⟩
        split
        · exact ⟨_, rfl, dv' _, _, rfl, by omega, done.here (q _ _ (m1 _) (m2 _) ⟨ns, _, m, _, rfl, hl, by omega, hm, hm2⟩)⟩
        · exact ⟨_, rfl, by omega, done.here (q _ _ (m1 _) (m2 _) ⟨ns, _, m, _, rfl, hl, by omega, hm, hm2⟩)⟩
      · rw [if_neg hp1]
        exact ⟨wide_mul (a := 40) (b := 40) (by omega) (by decide) (by decide) (by decide) (by decide), ⟨by decide, by decide⟩, by omega, done.here (q _ _ (m1 _) (m2 _) ⟨ns, _, _, _, rfl, hl, by omega, by omega, by omega⟩)⟩
def sp_lawnumber : DSp := fun ds W Q _ => ∃ (s : Addr) (o : Ob), ds = [.ref s] ∧ W s = some o ∧ StOb o ∧ ∀ (k : Int) o', k.natAbs < 2 ^ 70 → StOb o' → Q (.int k) (put W s o')
theorem has_lawnumber {fd : FuncData} (F : Fun K "_law_number" "_law_number" s__law_number b.number fd) (g : mg "_law_number" = some (.ref b.number)) (T : Txt w K mg a)
    (h__law_drawn : Has P w K mg base CX0 1 "_law_drawn" b.drawn ["_law_state", "_law_many"] sp_lawdrawn) :
    Has P w K mg base CX0 2 "_law_number" b.number ["_law_state"] sp_lawnumber := by
  refine ⟨⟨fd, ?_, F.binds fun _ _ _ _ _ _ us hl => match us, hl with | [_], _ => rfl⟩, F.kp, g⟩
  refine F.dok sc__law_number (fun ds W Qd Ed h => ?_) (fun cdv A outer s H E W0 ds Qd Ed hr h => ?_)
  · obtain ⟨_, _, rfl, _⟩ := h; rfl
  · obtain ⟨s, o, rfl, hs, so, q⟩ := h
    refine ⟨_, (s_cons (s_set (i := 1) sc__law_number.nd rfl (Or.inl rfl) (d_ix s_idx (d_lst (d_cons d_int (d_cons d_int (d_cons (d_op op_pow s_pow d_int d_int) d_nil)))) (d_op op_fdivW s_div (d_callH h__law_drawn (hr.mono (by omega)) (by rfl) (d_cons (d_var 0) (d_cons d_int d_nil))) d_int) (fun _ _ => rfl)))
  (s_one (s_ret (d_op op_sub s_sub (d_callH h__law_drawn (hr.mono (by omega)) (by rfl) (d_cons (d_var 0) (d_cons (d_var 1) d_nil))) (d_op op_mulW s_mul (d_callH h__law_drawn (hr.mono (by omega)) (by rfl) (d_cons (d_var 0) (d_cons d_int d_nil))) (d_var 1)))))), ?_⟩
    walk_at "g"
    refine ⟨⟨by decide, by decide, by decide⟩, s, o, 12, rfl, hs, so, by decide, by decide, fun k1 o1 a1 b1 so1 => ?_⟩
    walk_at "g"
    obtain ⟨d, e, hd⟩ := atI_mem (l := [D.int 4, D.int 30, D.int (10 ^ Int.toNat 20)]) (k := k1 / 5) (by omega) (by simp only [List.length_cons, List.length_nil]; omega)
    obtain ⟨far, rfl, f1, f2⟩ : ∃ far : Int, d = .int far ∧ 1 ≤ far ∧ far ≤ 10 ^ 20 := by
      simp only [List.mem_cons, List.not_mem_nil, or_false] at hd
      rcases hd with rfl | rfl | rfl
      · exact ⟨_, rfl, by decide, by decide⟩
      · exact ⟨_, rfl, by decide, by decide⟩
      · exact ⟨_, rfl, by decide, by decide⟩
    refine ⟨⟨by decide, by decide⟩, _, e, s, o1, far, rfl, put_same, so1, f1, by omega, fun k2 o2 a2 b2 so2 => ?_⟩
    walk_at "g"
    refine ⟨s, o2, 2, rfl, put_same, so2, by decide, by decide, fun k3 o3 a3 b3 so3 => ?_⟩
    walk_at "g"
    refine ⟨wide_mul (a := 2) (b := 70) (by omega) (by omega) (by decide) (by decide) (by decide), ?_⟩
    refine done.here (q _ _ ?_ so3)
    rcases (by omega : k3 = 0 ∨ k3 = 1) with rfl | rfl <;> omega
def RowM (rows : Bool) (m : Maker) : Prop := rows = true → ∃ ns, m = .row ns
/-- all makers are rows, if that is asked -/
def RowC (rows : Bool) (c : Ch) : Prop := ∀ m ∈ c.mks, RowM rows m
def RowS (rows : Bool) : Stg → Prop
  | .op _ => True
  | .both i => RowC rows i
  | .thn i => RowC rows i
def sp_lawmaker : DSp := fun ds W Q _ => ∃ (s : Addr) (o : Ob) (rows : Bool), ds = [.ref s, .bl rows] ∧ W s = some o ∧ StOb o ∧ ∀ (m : Maker) o', okMk m → NumB (.src m) ∧ RowM rows m → StOb o' → Q (mkD m) (put W s o')
theorem has_lawmaker {fd : FuncData} (F : Fun K "_law_maker" "_law_maker" s__law_maker b.maker fd) (g : mg "_law_maker" = some (.ref b.maker)) (T : Txt w K mg a)
    (h__law_drawn : Has P w K mg base CX0 1 "_law_drawn" b.drawn ["_law_state", "_law_many"] sp_lawdrawn) (h__law_number : Has P w K mg base CX0 2 "_law_number" b.number ["_law_state"] sp_lawnumber) :
    Has P w K mg base CX0 3 "_law_maker" b.maker ["_law_state", "_law_rows"] sp_lawmaker := by
  refine ⟨⟨fd, ?_, F.binds fun _ _ _ _ _ _ us hl => match us, hl with | [_, _], _ => rfl⟩, F.kp, g⟩
  refine F.dok sc__law_maker (fun ds W Qd Ed h => ?_) (fun cdv A outer s H E W0 ds Qd Ed hr h => ?_)
  · obtain ⟨_, _, _, rfl, _⟩ := h; rfl
  · obtain ⟨s, o, rows, rfl, hs, so, q⟩ := h
    refine ⟨_, (s_cons (s_if (t_bool (w_and (t_not (d_test (d_var 1))) (w_and1 (t_cmp (op_eqA hr.units) s_eq (d_callH h__law_drawn (hr.mono (by omega)) (by rfl) (d_cons (d_var 0) (d_cons d_int d_nil))) d_int (nomark _))))) (s_one (s_ret (d_tup (d_cons d_str (d_cons (d_callH h__law_number (hr.mono (by omega)) (by rfl) (d_cons (d_var 0) d_nil)) (d_cons (d_ix s_idx (d_lst (d_cons d_int (d_cons d_int (d_cons d_int (d_cons d_int (d_cons (d_op op_sub s_sub d_int d_int) (d_cons (d_callH h__law_number (hr.mono (by omega)) (by rfl) (d_cons (d_var 0) d_nil)) d_nil))))))) (d_callH h__law_drawn (hr.mono (by omega)) (by rfl) (d_cons (d_var 0) (d_cons d_int d_nil))) (fun _ _ => rfl)) d_nil)))))) s_nil)
  (s_cons (s_set (i := 2) sc__law_maker.nd rfl (Or.inl rfl) (d_callH h__law_drawn (hr.mono (by omega)) (by rfl) (d_cons (d_var 0) (d_cons (d_ix s_idx (d_lst (d_cons d_int (d_cons d_int (d_cons d_int d_nil)))) (d_callH h__law_drawn (hr.mono (by omega)) (by rfl) (d_cons (d_var 0) (d_cons d_int d_nil))) (fun _ _ => rfl)) d_nil))))
  (s_cons (s_set (i := 3) sc__law_maker.nd rfl (Or.inr rfl) (d_callH h__law_drawn (hr.mono (by omega)) (by rfl) (d_cons (d_var 0) (d_cons d_int d_nil))))
  (s_one (s_ret (d_tup (d_cons d_str (d_cons (d_callTy call_tuple_of s_tuple (by rfl) T.tuple (by decide +kernel) (d_cons (d_lc rfl sc__law_maker.nd (i_r1 (by rfl) T.range (d_cons (d_var 2) d_nil)) (blkOk_by (own := [("_law_k", 4)]) (N := n__law_maker) (sc := defScope s__law_maker) (by decide +kernel)) (simG_name (by decide)) (fun _ _ _ _ _ => pg_name (i := 4) sc__law_maker.nd rfl (Or.inl rfl)) (fun _ _ _ _ _ => t_nil) (fun _ _ _ _ _ => (d_ix s_idx (d_lst (d_cons (d_callH h__law_drawn (hr.mono (by omega)) (by rfl) (d_cons (d_var 0) (d_cons d_int d_nil))) (d_cons (d_callH h__law_number (hr.mono (by omega)) (by rfl) (d_cons (d_var 0) d_nil)) (d_cons (d_var 4) d_nil)))) (d_var 3) (fun _ _ => rfl)))) d_nil)) d_nil)))))))), ?_⟩
    have row : ∀ (o1 : Ob), StOb o1 → sp_lawdrawn [.ref s, .int 3] (put W0 s o1)
                  (fun y W2 =>
                    ∃ x,
                      y = D.int x ∧
                        ∃ x_1,
                          atI [D.int 4, D.int 12, D.int 101] x = some x_1 ∧
                            sp_lawdrawn [D.ref s, x_1] W2
                              (fun d W1 =>
                                sp_lawdrawn [D.ref s, D.int 3] W1
                                  (fun d_1 W1 =>
                                    ∃ j,
                                      d = D.int j ∧
                                        -2 ^ 62 ≤ j ∧
                                          j < 2 ^ 62 ∧
                                            ∀ (p : Addr),
                                              W1 p = none →
                                                lcGo p (kName 4) gYes
                                                  (gOp fIdx
                                                    (gLst
                                                      (gCons
                                                        (gCall sp_lawdrawn XD0
                                                          (gCons (gVar 0) (gCons (gC (D.int 3)) gNil)))
                                                        (gCons (gCall sp_lawnumber XD0 (gCons (gVar 0) gNil))
                                                          (gCons (gVar 4) gNil))))
                                                    (gVar 3))
                                                  [some (D.ref s), some (D.bl rows), some d, some d_1, none]
                                                  (List.map (fun (k : Nat) => D.int (k : Int)) (List.range j.toNat))
                                                  (put W1 p (Ob.lst [])) fun W2 =>
                                                  ∃ acc,
                                                    W2 p = some (Ob.lst acc) ∧
                                                      done Qd (D.tup [D.str (Str.ofString "row"), D.tup acc])
                                                        (del W2 p))
                                  XD0)
                              XD0)
                  XD0 := by
      intro o1 so1
      refine ⟨s, o1, 3, rfl, put_same, so1, by decide, by decide, fun k1 o2 a1 b1 so2 => ?_⟩
      walk_at "g"
      obtain ⟨d, e, hd⟩ := atI_mem (l := [D.int 4, D.int 12, D.int 101]) (k := k1) a1 b1
      obtain ⟨many, rfl, f1, f2⟩ : ∃ many : Int, d = .int many ∧ 1 ≤ many ∧ many ≤ 101 := by
        simp only [List.mem_cons, List.not_mem_nil, or_false] at hd
        rcases hd with rfl | rfl | rfl
        · exact ⟨_, rfl, by decide, by decide⟩
        · exact ⟨_, rfl, by decide, by decide⟩
        · exact ⟨_, rfl, by decide, by decide⟩
      refine ⟨_, e, s, o2, many, rfl, put_same, so2, f1, by omega, fun j o3 a3 b3 so3 => ?_⟩
      walk_at "g"
      refine ⟨s, o3, 3, rfl, put_same, so3, by decide, by decide, fun few o4 a4 b4 so4 => ?_⟩
      walk_at "g"
      refine ⟨by omega, by omega, fun p hp => ?_⟩
      have nsp : s ≠ p := fun z => by rw [← z, put_same] at hp; cases hp
      have hp0 : W0 p = none := by rw [put_ne (Ne.symm nsp)] at hp; exact hp
      have go : ∀ (l : List Nat) (acc : List Int) (o5 : Ob), StOb o5 → (∀ k ∈ l, k < 200) → acc.length + l.length ≤ 100 → (∀ k ∈ acc, k.natAbs < 2 ^ 150) → lcGo p (kName 4) gYes
                                                  (gOp fIdx
                                                    (gLst
                                                      (gCons
                                                        (gCall sp_lawdrawn XD0
                                                          (gCons (gVar 0) (gCons (gC (D.int 3)) gNil)))
                                                        (gCons (gCall sp_lawnumber XD0 (gCons (gVar 0) gNil))
                                                          (gCons (gVar 4) gNil))))
                                                    (gVar 3))
                                                  [some (D.ref s), some (D.bl rows), some (.int j), some (.int few), none]
                                                  (l.map (fun (k : Nat) => D.int (k : Int)))
                                                  (put (put W0 s o5) p (Ob.lst (acc.map D.int))) fun W2 =>
                                                  ∃ acc,
                                                    W2 p = some (Ob.lst acc) ∧
                                                      done Qd (D.tup [D.str (Str.ofString "row"), D.tup acc])
                                                        (del W2 p) := by
        intro l
        induction l with
        | nil =>
          intro acc o5 so5 _ hl ha
          refine ⟨_, put_same, ?_⟩
          rw [del_put (by rw [put_ne (Ne.symm nsp)]; exact hp0)]
          exact done.here (q (.row acc) o5 (by simp only [okMk]; rw [List.length_nil] at hl; omega) ⟨ha, fun _ => ⟨_, rfl⟩⟩ so5)
        | cons k l ih =>
          intro acc o5 so5 hk hl ha
          rw [List.length_cons] at hl
          have hs5 : put (put W0 s o5) p (.lst (acc.map D.int)) s = some o5 := by rw [put_ne nsp, put_same]
          simp only [List.map_cons, lcGo]
          walk_at "g"
          refine ⟨s, o5, 3, rfl, hs5, so5, by decide, by decide, fun k5 o6 a6 b6 so6 => ?_⟩
          walk_at "g"
          refine ⟨s, o6, rfl, put_same, so6, fun k7 o7 a7 so7 => ?_⟩
          walk_at "g"
          obtain ⟨d, e, hd⟩ := atI_mem (l := [D.int k5, D.int k7, D.int (k : Int)]) (k := few) a4 b4
          obtain ⟨v, rfl, fv⟩ : ∃ v : Int, d = .int v ∧ v.natAbs < 2 ^ 150 := by
            have := hk k List.mem_cons_self
            simp only [List.mem_cons, List.not_mem_nil, or_false] at hd
            rcases hd with rfl | rfl | rfl
            · exact ⟨_, rfl, by omega⟩
            · exact ⟨_, rfl, by omega⟩
            · exact ⟨_, rfl, by omega⟩
          rw [put_comm nsp.symm, put_put]
          have fin := ih (acc ++ [v]) o7 so7 (fun x hx => hk x (List.mem_cons_of_mem _ hx)) (by rw [List.length_append, List.length_singleton]; omega) (fun x hx => by
            rcases List.mem_append.mp hx with hx | hx
            · exact ha x hx
            · rw [List.mem_singleton.mp hx]; exact fv)
          rw [List.map_append] at fin
          refine ⟨_, e, _, put_same, by rw [List.length_map]; omega, ?_⟩
          rw [put_put]
          exact fin
      exact go (List.range j.toNat) [] o4 so4 (fun k hk => by have := List.mem_range.mp hk; omega) (by rw [List.length_range, List.length_nil]; omega) (by simp)
    walk_at "g"
    cases rows
    · rw [if_pos rfl]
      refine ⟨s, o, 2, rfl, hs, so, by decide, by decide, fun k1 o1 a1 b1 so1 => ?_⟩
      walk_at "g"
      by_cases hk : k1 = 1
      · rw [if_pos hk]
        refine ⟨s, o1, rfl, put_same, so1, fun k2 o2 b2 so2 => ?_⟩
        walk_at "g"
        refine ⟨s, o2, rfl, put_same, so2, fun k3 o3 b3 so3 => ?_⟩
        walk_at "g"
        refine ⟨s, o3, 6, rfl, put_same, so3, by decide, by decide, fun k4 o4 a4 b4 so4 => ?_⟩
        walk_at "g"
        obtain ⟨d, e, hd⟩ := atI_mem (l := [D.int 0, D.int 1, D.int 1, D.int 2, D.int (-1), D.int k3]) (k := k4) a4 b4
        obtain ⟨v, rfl, fv⟩ : ∃ v : Int, d = .int v ∧ v.natAbs < 2 ^ 128 := by
          simp only [List.mem_cons, List.not_mem_nil, or_false] at hd
          rcases hd with rfl | rfl | rfl | rfl | rfl | rfl <;> exact ⟨_, rfl, by omega⟩
        exact ⟨_, e, done.here (q (.count k2 v) o4 trivial ⟨⟨by omega, fv⟩, fun h => by cases h⟩ so4)⟩
      · rw [if_neg hk]
        exact row o1 so1
    · rw [if_neg (by simp)]
      have r := row o so
      rw [put_self hs] at r
      exact r
theorem ite_two {p q A B : Prop} [Decidable p] [Decidable q] (h : ¬ (p ∧ q)) : (if p then if q then A else B else B) = B := by
  by_cases hp : p
  · rw [if_pos hp, if_neg fun z => h ⟨hp, z⟩]
  · rw [if_neg hp]
def RmOb (a b c : Int) : Ob := .lst [.int a, .int b, .int c]
def numStg : Stg → Prop
  | .op o => numOp o
  | .both i => NumB i
  | .thn i => NumB i
structure Rm (x y : Nat) (a b c a' b' c' : Int) : Prop where
  a : (x : Int) + a' = a
  b : (y : Int) + b' = b
  a0 : 0 ≤ a'
  b0 : 0 ≤ b'
  c1 : 1 ≤ c'
  c2 : c' ≤ 60
def sp_lawstage (n : Nat) : DSp := fun ds W Q _ => ∃ (s r : Addr) (o : Ob) (rows : Bool) (a b c : Int), ds = [.ref s, .ref r, .bl rows] ∧ W s = some o ∧ StOb o ∧ W r = some (RmOb a b c) ∧ s ≠ r ∧ 0 ≤ a ∧ a ≤ n ∧ 0 ≤ b ∧ b ≤ 1000 ∧ 1 ≤ c ∧ c ≤ 60 ∧
  ∀ st o' a' b' c', okStg st → numStg st ∧ RowS rows st → Rm (mksL (innOf [st])) (nstL (innOf [st])) a b c a' b' c' → StOb o' → Q (stgD st) (put (put W s o') r (RmOb a' b' c'))
def sp_lawchain (n : Nat) : DSp := fun ds W Q _ => ∃ (s r : Addr) (o : Ob) (rows : Bool) (a b c : Int), ds = [.ref s, .ref r, .bl rows] ∧ W s = some o ∧ StOb o ∧ W r = some (RmOb a b c) ∧ s ≠ r ∧ 1 ≤ a ∧ a ≤ n ∧ 0 ≤ b ∧ b ≤ 1000 ∧ 1 ≤ c ∧ c ≤ 60 ∧
  ∀ ch o' a' b' c', okCh ch → NumB ch ∧ RowC rows ch → Rm ch.mks.length ch.nst a b c a' b' c' → StOb o' → Q (chD ch) (put (put W s o') r (RmOb a' b' c'))
theorem ok_lawstage {fd : FuncData} (F : Fun K "_law_stage" "_law_stage" s__law_stage b.stage fd) (T : Txt w K mg a)
    (h__law_drawn : Has P w K mg base CX0 1 "_law_drawn" b.drawn ["_law_state", "_law_many"] sp_lawdrawn) (h__law_number : Has P w K mg base CX0 2 "_law_number" b.number ["_law_state"] sp_lawnumber)
    (h__law_chain : Has P w K mg base CX0 (2 * n + 4) "_law_chain" b.chain ["_law_state", "_law_room", "_law_rows"] (sp_lawchain n)) :
    FnOk P w K mg base CX0 (2 * n + 5) b.stage fd ["_law_state", "_law_room", "_law_rows"] (liftSp (sp_lawstage n)) := by
  refine F.dok sc__law_stage (fun ds W Qd Ed h => ?_) (fun cdv A outer s H E W0 ds Qd Ed hr h => ?_)
  · obtain ⟨_, _, _, _, _, _, _, rfl, _⟩ := h; rfl
  · obtain ⟨s, r, o, rows, ra, rb, rc, rfl, hs, so, hrm, nsr, a0, an, b0, b9, c1, c2, q⟩ := h
    refine ⟨_, (s_cons (s_set (i := 3) sc__law_stage.nd rfl (Or.inl rfl) (d_callH h__law_drawn (hr.mono (by omega)) (by rfl) (d_cons (d_var 0) (d_cons d_int d_nil))))
  (s_cons (s_if (t_bool (w_and (t_cmp op_gt s_gt (d_var 3) d_int (nomark _)) (w_and1 (t_cmp op_gt s_gt (d_ix s_idx (d_var 1) d_int (fun _ _ => rfl)) d_int (nomark _))))) (s_one (s_ret (d_tup (d_cons (d_ix s_idx (d_lst (d_cons d_str (d_cons d_str d_nil))) (d_op op_mod s_mod (d_var 3) d_int) (fun _ _ => rfl)) (d_cons (d_callH h__law_chain (hr.mono (by omega)) (by rfl) (d_cons (d_var 0) (d_cons (d_var 1) (d_cons (d_var 2) d_nil)))) d_nil))))) s_nil)
  (s_cons (s_set (i := 4) sc__law_stage.nd rfl (Or.inl rfl) (d_ix s_idx (d_lst (d_cons (d_callH h__law_drawn (hr.mono (by omega)) (by rfl) (d_cons (d_var 0) (d_cons d_int d_nil))) (d_cons (d_callH h__law_drawn (hr.mono (by omega)) (by rfl) (d_cons (d_var 0) (d_cons d_int d_nil))) (d_cons (d_callH h__law_drawn (hr.mono (by omega)) (by rfl) (d_cons (d_var 0) (d_cons d_int d_nil))) d_nil)))) (d_callH h__law_drawn (hr.mono (by omega)) (by rfl) (d_cons (d_var 0) (d_cons d_int d_nil))) (fun _ _ => rfl)))
  (s_cons (s_set (i := 5) sc__law_stage.nd rfl (Or.inl rfl) (d_op op_add s_add d_int (d_callH h__law_drawn (hr.mono (by omega)) (by rfl) (d_cons (d_var 0) (d_cons (d_ix s_idx (d_lst (d_cons d_int (d_cons d_int d_nil))) (d_op op_fdivW s_div (d_callH h__law_drawn (hr.mono (by omega)) (by rfl) (d_cons (d_var 0) (d_cons d_int d_nil))) d_int) (fun _ _ => rfl)) d_nil)))))
  (s_cons (s_set (i := 6) sc__law_stage.nd rfl (Or.inl rfl) (d_lst (d_cons (d_tup (d_cons d_str (d_cons (d_callH h__law_number (hr.mono (by omega)) (by rfl) (d_cons (d_var 0) d_nil)) d_nil))) (d_cons (d_tup (d_cons d_str (d_cons (d_op op_sub s_sub (d_callH h__law_drawn (hr.mono (by omega)) (by rfl) (d_cons (d_var 0) (d_cons d_int d_nil))) d_int) d_nil))) (d_cons (d_tup (d_cons d_str (d_cons (d_callH h__law_drawn (hr.mono (by omega)) (by rfl) (d_cons (d_var 0) (d_cons (d_var 5) d_nil))) (d_cons (d_var 5) d_nil)))) d_nil)))))
  (s_cons (s_set (i := 6) sc__law_stage.nd rfl (Or.inl rfl) (d_op op_cat s_catL (d_var 6) (d_lst (d_cons (d_tup (d_cons d_str (d_cons (d_var 4) d_nil))) (d_cons (d_tup (d_cons d_str (d_cons (d_var 4) d_nil))) (d_cons (d_tup (d_cons d_str (d_cons (d_op op_add s_add d_int (d_callH h__law_drawn (hr.mono (by omega)) (by rfl) (d_cons (d_var 0) (d_cons (d_ix s_idx (d_lst (d_cons d_int (d_cons d_int d_nil))) (d_callH h__law_drawn (hr.mono (by omega)) (by rfl) (d_cons (d_var 0) (d_cons d_int d_nil))) (fun _ _ => rfl)) d_nil)))) d_nil))) d_nil))))))
  (s_cons (s_set (i := 7) sc__law_stage.nd rfl (Or.inl rfl) (d_ix s_idx (d_op op_cat s_catL (d_var 6) (d_lst (d_cons (d_tup (d_cons d_str (d_cons (d_callH h__law_number (hr.mono (by omega)) (by rfl) (d_cons (d_var 0) d_nil)) d_nil))) (d_cons (d_tup (d_cons d_str d_nil)) (d_cons (d_tup (d_cons d_str (d_cons d_int d_nil))) d_nil))))) (d_op op_mod s_mod (d_var 3) d_int) (fun _ _ => rfl)))
  (s_cons (s_if (t_cmp (op_eqA hr.units) s_eq (d_ix s_idx (d_var 7) d_int (fun _ _ => rfl)) d_str (nomark _)) (s_cons (s_set (i := 7) sc__law_stage.nd rfl (Or.inl rfl) (d_tup (d_cons d_str (d_cons (d_if (t_cmp op_lt s_lt (d_op op_mulW s_mul (d_ix s_idx (d_var 1) d_int (fun _ _ => rfl)) (d_ix s_idx (d_var 7) d_int (fun _ _ => rfl))) d_int (nomark _)) (d_ix s_idx (d_var 7) d_int (fun _ _ => rfl)) d_int) d_nil))))
  (s_one (s_asg (d_op op_mulW s_mul (d_ix s_idx (d_var 1) d_int (fun _ _ => rfl)) (d_ix s_idx (d_var 7) d_int (fun _ _ => rfl))) (k_sub (d_var 1) d_int)))) s_nil)
  (s_one (s_ret (d_var 7))))))))))), ?_⟩
    simp only [RmOb] at hrm
    have srm := seqOf_ref hrm
    walk_at "g"
    refine ⟨s, o, 12, rfl, hs, so, by decide, by decide, fun way o1 w0 w1 so1 => ?_⟩
    have hrm1 : ∀ o', put W0 s o' r = _ := fun o' => (put_ne nsr.symm).trans hrm
    have srm1 : ∀ o', seqOf (put W0 s o') (.ref r) = _ := fun o' => seqOf_ref (hrm1 o')
    walk_at "g"
    repeat (simp only [hrm1, srm1]; try walk_at "g")
    by_cases hb : 8 < way ∧ 0 < ra
    · rw [if_pos hb.1, if_pos hb.2]
      obtain ⟨d, e, hd⟩ := atI_mem (l := [D.str (Str.ofString "both"), D.str (Str.ofString "then")]) (k := way % 2) (by omega) (by simp only [List.length_cons, List.length_nil]; omega)
      refine ⟨_, e, s, r, o1, rows, ra, rb, rc, rfl, put_same, so1, hrm1 o1, nsr, by omega, an, b0, by omega, c1, c2, fun ch o2 a' b' c' g1 g2 g3 so2 => ?_⟩
      simp only [List.mem_cons, List.not_mem_nil, or_false] at hd
      rw [put_put]
      rcases hd with rfl | rfl
      · exact done.here (q (.both ch) o2 a' b' c' g1 g2 (by simpa [innOf, mksL, nstL] using g3) so2)
      · exact done.here (q (.thn ch) o2 a' b' c' g1 g2 (by simpa [innOf, mksL, nstL] using g3) so2)
    rw [ite_two hb]
    refine ⟨s, o1, 4, rfl, put_same, so1, by decide, by decide, fun k1 o2 a1 b1 so2 => ?_⟩
    walk_at "g"
    refine ⟨s, o2, 20, rfl, put_same, so2, by decide, by decide, fun k2 o3 a2 b2 so3 => ?_⟩
    walk_at "g"
    refine ⟨s, o3, 101, rfl, put_same, so3, by decide, by decide, fun k3 o4 a3 b3 so4 => ?_⟩
    walk_at "g"
    refine ⟨s, o4, 3, rfl, put_same, so4, by decide, by decide, fun k4 o5 a4 b4 so5 => ?_⟩
    walk_at "g"
    obtain ⟨d, e1, hd⟩ := atI_mem (l := [D.int k1, D.int k2, D.int k3]) (k := k4) a4 b4
    obtain ⟨many, rfl, f1, f2⟩ : ∃ many : Int, d = .int many ∧ 0 ≤ many ∧ many ≤ 100 := by
      simp only [List.mem_cons, List.not_mem_nil, or_false] at hd
      rcases hd with rfl | rfl | rfl <;> exact ⟨_, rfl, by omega, by omega⟩
    refine ⟨_, e1, ?_⟩
    refine ⟨s, o5, 6, rfl, put_same, so5, by decide, by decide, fun k5 o6 a5 b5 so6 => ?_⟩
    walk_at "g"
    obtain ⟨d, e2, hd⟩ := atI_mem (l := [D.int 3, D.int 999]) (k := k5 / 5) (by omega) (by simp only [List.length_cons, List.length_nil]; omega)
    obtain ⟨wh, rfl, f3, f4⟩ : ∃ wh : Int, d = .int wh ∧ 3 ≤ wh ∧ wh ≤ 999 := by
      simp only [List.mem_cons, List.not_mem_nil, or_false] at hd
      rcases hd with rfl | rfl <;> exact ⟨_, rfl, by omega, by omega⟩
    refine ⟨⟨by decide, by decide⟩, _, e2, ?_⟩
    refine ⟨s, o6, wh, rfl, put_same, so6, by omega, by omega, fun k6 o7 a6 b6 so7 => ?_⟩
    walk_at "g"
    refine ⟨s, o7, rfl, put_same, so7, fun k7 o8 b7 so8 => ?_⟩
    walk_at "g"
    refine ⟨s, o8, 5, rfl, put_same, so8, by decide, by decide, fun k8 o9 a8 b8 so9 => ?_⟩
    walk_at "g"
    refine ⟨s, o9, 2 + k6, rfl, put_same, so9, by omega, by omega, fun k9 o10 a9 b9 so10 => ?_⟩
    walk_at "g"
    refine ⟨s, o10, 2, rfl, put_same, so10, by decide, by decide, fun k10 o11 a10 b10 so11 => ?_⟩
    walk_at "g"
    obtain ⟨d, e3, hd⟩ := atI_mem (l := [D.int 3, D.int 10]) (k := k10) a10 b10
    obtain ⟨z, rfl, f5, f6⟩ : ∃ z : Int, d = .int z ∧ 3 ≤ z ∧ z ≤ 10 := by
      simp only [List.mem_cons, List.not_mem_nil, or_false] at hd
      rcases hd with rfl | rfl <;> exact ⟨_, rfl, by omega, by omega⟩
    refine ⟨_, e3, ?_⟩
    refine ⟨s, o11, z, rfl, put_same, so11, by omega, by omega, fun k11 o12 a11 b11 so12 => ?_⟩
    walk_at "g"
    refine ⟨s, o12, rfl, put_same, so12, fun k12 o13 b12 so13 => ?_⟩
    walk_at "g"
    obtain ⟨d, e4, hd⟩ := atI_mem (l := [D.tup [D.str (Str.ofString "add"), D.int k7], D.tup [D.str (Str.ofString "times"), D.int (k8 - 1)],
                D.tup [D.str (Str.ofString "keep"), D.int k9, D.int (2 + k6)],
                D.tup [D.str (Str.ofString "drop"), D.int many], D.tup [D.str (Str.ofString "take"), D.int many],
                D.tup [D.str (Str.ofString "each"), D.int (1 + k11)], D.tup [D.str (Str.ofString "until"), D.int k12],
                D.tup [D.str (Str.ofString "unlike")], D.tup [D.str (Str.ofString "until"), D.int 25]]) (k := way % 9) (by omega) (by simp only [List.length_cons, List.length_nil]; omega)
    refine ⟨_, e4, ?_⟩
    simp only [List.mem_cons, List.not_mem_nil, or_false] at hd
    have h13 := hrm1 o13
    have s13 := srm1 o13
    have fin : ∀ op : Op, okOp op → numOp op → Qd (opD op) (put W0 s o13) := fun op g1 g2 => by
      have q1 := q (.op op) o13 ra rb rc g1 ⟨g2, trivial⟩ ⟨by simp [innOf, mksL], by simp [innOf, nstL], a0, b0, c1, c2⟩ so13
      rw [show put (put W0 s o13) r (RmOb ra rb rc) = put W0 s o13 from put_self h13] at q1
      exact q1
    rcases hd with rfl | rfl | rfl | rfl | rfl | rfl | rfl | rfl | rfl
    case inr.inr.inr.inr.inr.inl =>
      walk_at "g"
      repeat (simp only [h13, s13]; try walk_at "g")
      refine ⟨wide_mul (a := 10) (b := 10) (by omega) (by omega) (by decide) (by decide) (by decide), ?_⟩
      by_cases h61 : rc * (1 + k11) < 61
      · rw [if_pos h61]
        have ps := Int.mul_pos (show 0 < rc by omega) (show 0 < 1 + k11 by omega)
        refine ⟨wide_mul (a := 10) (b := 10) (by omega) (by omega) (by decide) (by decide) (by decide), ?_⟩
        exact done.here (q (.op (.each (1 + k11))) o13 ra rb (rc * (1 + k11)) ⟨by omega, by omega⟩ ⟨by show 1 ≤ 1 + k11; omega, trivial⟩ ⟨by simp [innOf, mksL], by simp [innOf, nstL], a0, b0, by omega, by omega⟩ so13)
      · rw [if_neg h61]
        refine ⟨wide_mul (a := 10) (b := 10) (by omega) (by decide) (by decide) (by decide) (by decide), ?_⟩
        rw [Int.mul_one]
        exact done.here (q (.op (.each 1)) o13 ra rb rc ⟨by decide, by decide⟩ ⟨by show (1 : Int) ≤ 1; decide, trivial⟩ ⟨by simp [innOf, mksL], by simp [innOf, nstL], a0, b0, c1, c2⟩ so13)
    all_goals walk_at "g"
    · exact done.here (fin (.add k7) trivial (by show k7.natAbs < _; omega))
    · exact done.here (fin (.times (k8 - 1)) trivial (by show (k8 - 1).natAbs < _; omega))
    · exact done.here (fin (.keep k9 (2 + k6)) ⟨by omega, by omega, by omega, by omega⟩ (by show 0 < 2 + k6; omega))
    · exact done.here (fin (.drop many) ⟨by omega, by omega⟩ trivial)
    · exact done.here (fin (.take many) ⟨by omega, by omega⟩ trivial)
    · exact done.here (fin (.til k12) trivial trivial)
    · exact done.here (fin .unlike trivial trivial)
    · exact done.here (fin (.til 25) trivial trivial)
theorem bld_mk : ∀ (l : List Stg) (c : Ch), (bld c l).mk = c.mk
  | [], _ => rfl
  | .op o :: r, c => bld_mk r _
  | .both o :: r, c => bld_mk r _
  | .thn o :: r, c => bld_mk r _
theorem stl_bld : ∀ (l : List Stg) (c : Ch), (bld c l).stl = c.stl ++ l
  | [], c => (List.append_nil _).symm
  | .op o :: r, c => by rw [bld, stl_bld r, Ch.stl, List.append_assoc]; rfl
  | .both o :: r, c => by rw [bld, stl_bld r, Ch.stl, List.append_assoc]; rfl
  | .thn o :: r, c => by rw [bld, stl_bld r, Ch.stl, List.append_assoc]; rfl
theorem num_bld : ∀ (l : List Stg) (c : Ch), NumB c → (∀ s ∈ l, numStg s) → NumB (bld c l)
  | [], c, h, _ => h
  | .op o :: r, c, h, k => num_bld r _ ⟨h, k _ List.mem_cons_self⟩ fun s hs => k s (List.mem_cons_of_mem _ hs)
  | .both o :: r, c, h, k => num_bld r _ ⟨h, k _ List.mem_cons_self⟩ fun s hs => k s (List.mem_cons_of_mem _ hs)
  | .thn o :: r, c, h, k => num_bld r _ ⟨h, k _ List.mem_cons_self⟩ fun s hs => k s (List.mem_cons_of_mem _ hs)
theorem row_bld {rows : Bool} : ∀ (l : List Stg) (c : Ch), RowC rows c → (∀ s ∈ l, RowS rows s) → RowC rows (bld c l)
  | [], c, h, _ => h
  | .op o :: r, c, h, k => row_bld r _ h fun s hs => k s (List.mem_cons_of_mem _ hs)
  | .both o :: r, c, h, k => row_bld r _ (fun m hm => (List.mem_append.mp hm).elim (h m) (k _ List.mem_cons_self m)) fun s hs => k s (List.mem_cons_of_mem _ hs)
  | .thn o :: r, c, h, k => row_bld r _ (fun m hm => (List.mem_append.mp hm).elim (h m) (k _ List.mem_cons_self m)) fun s hs => k s (List.mem_cons_of_mem _ hs)
theorem put_mix {W : Wd} {s r p : Addr} {o o' R R' L : Ob} (h1 : s ≠ r) (h2 : p ≠ s) (h3 : p ≠ r) : put (put (put (put (put W s o) r R) p L) s o') r R' = put (put (put W s o') r R') p L := by
  rw [put_comm (x := L) (y := o') h2, put_comm (x := L) (y := R') h3, put_comm (W := put W s o) (x := R) (y := o') h1.symm, put_put, put_put]
theorem put_mix0 {W : Wd} {s r p : Addr} {o o' R L : Ob} (h1 : s ≠ r) (h2 : p ≠ s) : put (put (put (put W s o) r R) p L) s o' = put (put (put W s o') r R) p L := by
  rw [put_comm (x := L) (y := o') h2, put_comm (W := put W s o) (x := R) (y := o') h1.symm, put_put]
theorem put_mix2 {W : Wd} {r p : Addr} {R R' L : Ob} (h3 : p ≠ r) : put (put (put W r R) p L) r R' = put (put W r R') p L := by
  rw [put_comm (x := L) (y := R') h3, put_put]
theorem ok_lawchain {fd : FuncData} (F : Fun K "_law_chain" "_law_chain" s__law_chain b.chain fd) (T : Txt w K mg a)
    (h__law_drawn : Has P w K mg base CX0 1 "_law_drawn" b.drawn ["_law_state", "_law_many"] sp_lawdrawn) (h__law_maker : Has P w K mg base CX0 3 "_law_maker" b.maker ["_law_state", "_law_rows"] sp_lawmaker)
    (h__law_stage : Has P w K mg base CX0 (2 * n + 5) "_law_stage" b.stage ["_law_state", "_law_room", "_law_rows"] (sp_lawstage n)) :
    FnOk P w K mg base CX0 (2 * n + 6) b.chain fd ["_law_state", "_law_room", "_law_rows"] (liftSp (sp_lawchain (n + 1))) := by
  refine F.dok sc__law_chain (fun ds W Qd Ed h => ?_) (fun cdv A outer s H E W0 ds Qd Ed hr h => ?_)
  · obtain ⟨_, _, _, _, _, _, _, rfl, _⟩ := h; rfl
  · obtain ⟨s, r, o, rows, ra, rb, rc, rfl, hs, so, hrm, nsr, a0, an, b0, b9, c1, c2, q⟩ := h
    refine ⟨_, (s_cons (s_asg (d_op op_sub s_sub (d_ix s_idx (d_var 1) d_int (fun _ _ => rfl)) d_int) (k_sub (d_var 1) d_int))
  (s_cons (s_set (i := 3) sc__law_chain.nd rfl (Or.inl rfl) (d_callH h__law_maker (hr.mono (by omega)) (by rfl) (d_cons (d_var 0) (d_cons (d_var 2) d_nil))))
  (s_cons (s_set (i := 4) sc__law_chain.nd rfl (Or.inl rfl) (d_own d_nil))
  (s_cons (s_for PassesOwn.never rfl (i_r1 (by rfl) T.range (d_cons (d_callH h__law_drawn (hr.mono (by omega)) (by rfl) (d_cons (d_var 0) (d_cons (d_op op_add s_add d_int (d_callB (call_min2 rfl) s_min2 (by rfl) T.min (by decide +kernel) (d_cons d_int (d_cons (d_ix s_idx (d_var 1) d_int (fun _ _ => rfl)) d_nil)))) d_nil))) d_nil)) (k_name (i := 5) sc__law_chain.nd rfl (Or.inl rfl)) (s_one (s_if (t_cmp op_gt s_gt (d_ix s_idx (d_var 1) d_int (fun _ _ => rfl)) d_int (nomark _)) (s_cons (s_asg (d_op op_sub s_sub (d_ix s_idx (d_var 1) d_int (fun _ _ => rfl)) d_int) (k_sub (d_var 1) d_int))
  (s_one (s_expr (d_lm PySem.F.plainAttrs_list PySem.F.slot_list_append PySem.F.type_list_append mt_append m_append (d_var 4) (d_cons (d_callH h__law_stage (hr.mono (by omega)) (by rfl) (d_cons (d_var 0) (d_cons (d_var 1) (d_cons (d_var 2) d_nil)))) d_nil))))) s_nil)))
  (s_one (s_ret (d_tup (d_cons (d_var 3) (d_cons (d_callTy call_tuple_of s_tuple (by rfl) T.tuple (by decide +kernel) (d_cons (d_var 4) d_nil)) d_nil))))))))), ?_⟩
    simp only [RmOb] at hrm
    have srm := seqOf_ref hrm
    walk_at "g"
    repeat (simp only [hrm, srm]; try walk_at "g")
    refine ⟨s, o, rows, rfl, by rw [put_ne nsr]; exact hs, so, fun m o1 g1 g2 so1 => ?_⟩
    walk_at "g"
    intro p hp
    have nps : p ≠ s := fun z => by rw [z, put_same] at hp; cases hp
    have npr : p ≠ r := fun z => by rw [put_ne nps, z, put_same] at hp; cases hp
    have hp0 : W0 p = none := by rw [put_ne nps, put_ne npr] at hp; exact hp
    rw [put_comm nsr.symm]
    have hrv : ∀ (o' : Ob) (R L : Ob), put (put (put W0 s o') r R) p L r = some R := fun o' R L => by rw [put_ne npr.symm, put_same]
    have hsv : ∀ (o' : Ob) (R L : Ob), put (put (put W0 s o') r R) p L s = some o' := fun o' R L => by rw [put_ne nps.symm, put_ne nsr, put_same]
    have main : ∀ (l : List Nat) (ss : List Stg) (o2 : Ob) (a' b' c' : Int) (x5 : Option D), StOb o2 → Rm (mksL (innOf ss) + 1) (ss.length + nstL (innOf ss)) ra rb rc a' b' c' → (∀ st ∈ ss, okStg st ∧ (numStg st ∧ RowS rows st)) →
        forGo (kName 5)
                                (hIf (gB (gOp fGt (gOp fIdx (gVar 1) (gC (D.int 1))) (gC (D.int 0))))
                                  (hSeq
                                    (hAsg (gOp fSub (gOp fIdx (gVar 1) (gC (D.int 1))) (gC (D.int 1)))
                                      (kSub (gVar 1) (gC (D.int 1))))
                                    (hDrop
                                      (gLM mAppend (gVar 4)
                                        (gCons
                                          (gCall (sp_lawstage n) XD0
                                            (gCons (gVar 0) (gCons (gVar 1) (gCons (gVar 2) gNil))))
                                          gNil))))
                                  hNext)
                                (l.map (fun (k : Nat) => D.int (k : Int)))
                                {
                                  nx :=
                                    hRet (gTup (gCons (gVar 3) (gCons (gN fTuple (gCons (gVar 4) gNil)) gNil)))
                                      { nx := fun x W => done Qd D.non W, rt := done Qd },
                                  rt := done Qd }
                                [some (D.ref s), some (D.ref r), some (D.bl rows), some (mkD m), some (D.ref p), x5]
          (put (put (put W0 s o2) r (RmOb a' b' c')) p (.lst (ss.map stgD))) := by
      intro l
      induction l with
      | nil =>
        intro ss o2 a' b' c' x5 so2 rm hss
        simp only [List.map_nil, forGo]
        have hpv := seqOf_ref (W := put (put (put W0 s o2) r (RmOb a' b' c')) p (.lst (ss.map stgD))) put_same
        walk_at "g"
        repeat (simp only [hpv]; try walk_at "g")
        have e1 := bld_mk ss (.src m)
        have e2 := stl_bld ss (.src m)
        simp only [Ch.mk, Ch.stl, List.nil_append] at e1 e2
        have q1 := q (bld (.src m) ss) o2 a' b' c' (okCh_iff.mpr ⟨by rw [e1]; exact g1, fun st h => (hss st (by rw [← e2]; exact h)).1⟩) ⟨num_bld _ _ g2.1 fun st h => (hss st h).2.1, row_bld _ _ (fun m' hm' => by rw [List.mem_singleton.mp hm']; exact g2.2) fun st h => (hss st h).2.2⟩ (by
          rw [mksL_inn, nst_inn, e2, Nat.add_comm 1]
          exact rm) so2
        rw [chD_eq, e1, e2] at q1
        refine ⟨_, _, Conv.drop _ _ p, ?_⟩
        rw [del_put (by rw [put_ne npr, put_ne nps]; exact hp0)]
        exact q1
      | cons k l ih =>
        intro ss o2 a' b' c' x5 so2 rm hss
        obtain ⟨ra1, ra2, ra3, ra4, ra5, ra6⟩ := rm
        have h1 := hrv o2 (RmOb a' b' c') (.lst (ss.map stgD))
        have h1s := seqOf_ref h1
        simp only [List.map_cons, forGo]
        simp only [RmOb] at h1 h1s ⊢
        walk_at "g"
        repeat (simp only [h1, h1s]; try walk_at "g")
        by_cases hb : 0 < b'
        · rw [if_pos hb, put_mix2 npr]
          refine ⟨⟨_, put_same⟩, s, r, o2, rows, a', b' - 1, c', rfl, hsv _ _ _, so2, hrv _ _ _, nsr, by omega, by omega, by omega, by omega, by omega, by omega, fun st o3 a'' b'' c'' k1 k2 k3 so3 => ?_⟩
          rw [put_mix nsr nps npr]
          walk_at "g"
          refine ⟨by rw [List.length_map]; omega, ?_⟩
          obtain ⟨v1, v2, v3, v4, v5, v6⟩ := k3
          have fin := ih (ss ++ [st]) o3 a'' b'' c'' (some (.int (k : Int))) so3 ⟨by rw [innOf_app, mksL_app]; omega, by rw [innOf_app, nstL_app, List.length_append, List.length_singleton]; omega, v3, v4, v5, v6⟩ (fun x hx => by
            rcases List.mem_append.mp hx with hx | hx
            · exact hss x hx
            · rw [List.mem_singleton.mp hx]; exact ⟨k1, k2⟩)
          rw [List.map_append] at fin
          exact fin
        · rw [if_neg hb]
          exact ih ss o2 a' b' c' _ so2 ⟨ra1, ra2, ra3, ra4, ra5, ra6⟩ hss
    have h1 := hrv o1 (.lst [.int (ra - 1), .int rb, .int rc]) (.lst [])
    have h1s := seqOf_ref h1
    repeat (simp only [h1, h1s]; try walk_at "g")
    refine ⟨s, o1, 1 + (if rb < 6 then rb else 6), rfl, hsv _ _ _, so1, by split <;> omega, by split <;> omega, fun k o2 k0 kb so2 => ?_⟩
    rw [put_mix0 nsr nps]
    walk_at "g"
    refine ⟨by omega, by split at kb <;> omega, ?_⟩
    exact main (List.range k.toNat) [] o2 (ra - 1) rb rc none so2 ⟨by simp [mksL, innOf]; omega, by simp [nstL, innOf], by omega, b0, c1, c2⟩ (by simp)
structure GenM (K : PySem.W.Frag) (mg : Str → Option Value) (b : LawAds) : Prop where
  F_start : ∃ fd, Fun K "_law_start" "_law_start" s__law_start b.start fd
  F_drawn : ∃ fd, Fun K "_law_drawn" "_law_drawn" s__law_drawn b.drawn fd
  F_number : ∃ fd, Fun K "_law_number" "_law_number" s__law_number b.number fd
  F_maker : ∃ fd, Fun K "_law_maker" "_law_maker" s__law_maker b.maker fd
  F_stage : ∃ fd, Fun K "_law_stage" "_law_stage" s__law_stage b.stage fd
  F_chain : ∃ fd, Fun K "_law_chain" "_law_chain" s__law_chain b.chain fd
  g_start : mg "_law_start" = some (.ref b.start)
  g_drawn : mg "_law_drawn" = some (.ref b.drawn)
  g_number : mg "_law_number" = some (.ref b.number)
  g_maker : mg "_law_maker" = some (.ref b.maker)
  g_stage : mg "_law_stage" = some (.ref b.stage)
  g_chain : mg "_law_chain" = some (.ref b.chain)
theorem GenM.start (G : GenM K mg b) (T : Txt w K mg a) : Has P w K mg base CX0 1 "_law_start" b.start ["_law_script"] sp_start := by
  obtain ⟨_, F⟩ := G.F_start
  exact has_start F G.g_start T
theorem GenM.drawn (G : GenM K mg b) (T : Txt w K mg a) : Has P w K mg base CX0 1 "_law_drawn" b.drawn ["_law_state", "_law_many"] sp_lawdrawn := by
  obtain ⟨_, F⟩ := G.F_drawn
  exact has_lawdrawn F G.g_drawn T
theorem GenM.number (G : GenM K mg b) (T : Txt w K mg a) : Has P w K mg base CX0 2 "_law_number" b.number ["_law_state"] sp_lawnumber := by
  obtain ⟨_, F⟩ := G.F_number
  exact has_lawnumber F G.g_number T (G.drawn T)
theorem GenM.maker (G : GenM K mg b) (T : Txt w K mg a) : Has P w K mg base CX0 3 "_law_maker" b.maker ["_law_state", "_law_rows"] sp_lawmaker := by
  obtain ⟨_, F⟩ := G.F_maker
  exact has_lawmaker F G.g_maker T (G.drawn T) (G.number T)
theorem GenM.chain (G : GenM K mg b) (T : Txt w K mg a) : ∀ n, Has P w K mg base CX0 (2 * n + 4) "_law_chain" b.chain ["_law_state", "_law_room", "_law_rows"] (sp_lawchain n) := by
  intro n
  obtain ⟨fd, F⟩ := G.F_chain
  obtain ⟨_, F2⟩ := G.F_stage
  induction n with
  | zero => exact ⟨⟨fd, FnOk.never fun _ _ _ _ ⟨_, _, _, _, _, _, _, _, _, _, _, _, h1, h2, _⟩ => by omega, F.binds fun _ _ _ _ _ _ us hl => match us, hl with | [_, _, _], _ => rfl⟩, F.kp, G.g_chain⟩
  | succ n ih => exact ⟨⟨fd, ok_lawchain F T (G.drawn T) (G.maker T) ⟨⟨_, ok_lawstage F2 T (G.drawn T) (G.number T) ih, F2.binds fun _ _ _ _ _ _ us hl => match us, hl with | [_, _, _], _ => rfl⟩, F2.kp, G.g_stage⟩, F.binds fun _ _ _ _ _ _ us hl => match us, hl with | [_, _, _], _ => rfl⟩, F.kp, G.g_chain⟩
end
end DL
end
section
set_option maxRecDepth 100000
set_option maxHeartbeats 4000000
namespace DL
open PySem PySem.Spec PyProof.Rows L2
abbrev s__law_any : Stmt := top 54
abbrev n__law_any : List Str := ["_law_state", "_law_rows"]
theorem sc__law_any : FnScope n__law_any ["_law_state", "_law_rows"] (defScope s__law_any) := ⟨rfl, rfl, rfl, by decide +kernel, rfl, by decide +kernel, by decide +kernel⟩
abbrev s__law_makers : Stmt := top 55
abbrev n__law_makers : List Str := ["_law_chain_here", "_law_found", "_law_stage_here"]
theorem sc__law_makers : FnScope n__law_makers ["_law_chain_here"] (defScope s__law_makers) := ⟨rfl, rfl, rfl, by decide +kernel, rfl, by decide +kernel, by decide +kernel⟩
local macro_rules | `(tactic| walk_at "g") => `(tactic| simp only [hNext, hSeq, hDrop, hRet, hRetN, hIf, hAsg, hPar, kName, kNil, kCons, kTup, gVar, gC, gUn, gOp, gNil, gCons, gN, gTup, gLst, gB, gAnd, gOr, gNot, gTNot, gTAnd, gTOr, gIf, gChain, gCall, gMeth, gFld, hFld, gLc, gLcO, gYes, hFor, iTupG, iLst, iOwn, iR1, iR2, gOwn, fSl, gNone, gPart, rSlTup, rSlLst, rSlStr, gLM, mAppend, mExtend, mPop, mClear, gMake, hKPair, gKGetI, gNotInK, kSub, hRaise,
  fI, fI0, fU, fIsi, fIsi2, fLen, fLenS, fList, fListO, fTuple, fIdx, fCatL, fCatT, fCatO, fIn, fIntB, fMin2, seqOf_lst, seqOf_tup, seqOf_frz, seqOf_put, listOf_lst, listOf_put, wipeD, dstart, List.map_cons, List.map_nil, List.length_cons, List.length_nil, List.cons_append, List.nil_append, List.getElem?_cons_zero, List.getElem?_cons_succ, List.set_cons_zero, List.set_cons_succ, List.replicate_zero, List.replicate_succ, Nat.sub_self,
  fEq_int, fEq_str, fNe_int, fNe_str, fEq_bl, fNe_bl, str_beq, str_inj, String.reduceEq, decide_true, decide_false, Bool.not_true, Bool.not_false, Bool.true_and, Bool.and_true, Bool.false_and, Bool.and_false, Bool.or_true, Bool.true_or, Bool.or_false, Bool.false_or,
  atI_0, atI_1, atI_2, atI_3, cut_1, List.drop_succ_cons, List.drop_zero, Option.some.injEq, exists_eq_left', exists_eq_left, exists_eq_right, exists_eq_right', exists_eq, exists_eq', D.bl.injEq, D.int.injEq, D.str.injEq, D.ty.injEq, D.ref.injEq, D.tup.injEq, D.lst.injEq, D.frz.injEq, Ob.lst.injEq, Ob.ins.injEq, List.cons.injEq, and_true, true_and, and_assoc, exists_and_left, exists_and_right, exists_const, if_true, if_false, reduceIte, Bool.false_eq_true, reduceCtorEq, false_and, and_false, exists_false, false_or, or_false, ne_eq, not_false_eq_true, not_true_eq_false, implies_true, Nat.reduceLeDiff, Nat.reduceAdd, Nat.reduceSub, Nat.reduceEqDiff, sizeLine, Nat.reducePow, List.append_nil, List.length_append, put_put, put_same,
  kb_NoneType_int, kb_NoneType_bool, kb_NoneType_str, kb_NoneType_tuple, kb_NoneType_list, kb_bool_int, kb_bool_bool, kb_bool_str, kb_bool_tuple, kb_bool_list, kb_int_int, kb_int_bool, kb_int_str, kb_int_tuple, kb_int_list, kb_str_int, kb_str_bool, kb_str_str, kb_str_tuple, kb_str_list, kb_tuple_int, kb_tuple_bool, kb_tuple_str, kb_tuple_tuple, kb_tuple_list, kb_list_int, kb_list_bool, kb_list_str, kb_list_tuple, kb_list_list, kindOf_non, kindOf_bl, kindOf_int, kindOf_str, kindOf_tup, kindOf_lst, kindOf_frz, len_0, Int.cast_ofNat_Int, Int.natCast_add, Int.natCast_zero, Int.natCast_one, Int.reduceAdd, Int.reduceSub, Int.reduceLT, Int.reduceLE, Int.reduceBEq, Int.reduceEq, Int.reduceNe, beq_self_eq_true, beq_iff_eq, beq_eq_false_iff_ne, decide_eq_true_eq, decide_eq_false_iff_not, Bool.not_eq_true', Bool.not_eq_false', mkD_count, mkD_row, opD_add, opD_times, opD_keep, opD_drop, opD_take, opD_each, opD_til, opD_unlike, stgD_op, stgD_both, stgD_thn, List.map_map, List.any_cons, List.any_nil, List.all_cons, List.all_nil, inD, eqF, flatD, ixN_1_0, ixN_2_0, ixN_2_1, ixN_3_0, ixN_3_1, ixN_3_2, ixN_4_0, ixN_4_1, ixN_4_2, ixN_4_3, List.length_set, List.dropLast_concat, sf_gives, sf_book, sf_given, sf_put, sf_put1, lp_told1, lp_left1, sf_len, Int.add_sub_cancel, sf_draw, lf_rule, lf_ahead, lf_beside, lf_lost, lf_over, lf_told, lf_last, lf_left, lf_len, lp_over, lp_told, lp_last, lp_left, lf_draw, lf_drawn_by, lf_sought, lf_dropped, lf_told_again, lf_ended, lf_paired, lf_followed, word_num, word_fin, word_long, df_book, df_lost, df_back, df_stuck, df_sources, df_top, df_next, df_drawn, df_undone, df_put_back, df_len, dp_stuck, fTupleT, mPopAt, iZipG])

section
variable {P : Program} {w : World} {K : PySem.W.Frag} {mg : Str → Option Value} {base : Heap} {a : Ads} {b : LawAds} {n : Nat}
def sp_lawany : DSp := fun ds W Q _ => ∃ (s : Addr) (o : Ob) (rows : Bool), ds = [.ref s, .bl rows] ∧ W s = some o ∧ StOb o ∧ ∀ ch W' o', okCh ch → NumB ch ∧ RowC rows ch → ch.mks.length ≤ 4 → ch.nst ≤ 12 → W' s = some o' → StOb o' → (∀ u ob, u ≠ s → W u = some ob → W' u = some ob) → Q (chD ch) W'
theorem ok_lawany {fd : FuncData} {f : Addr} (F : Fun K "_law_any" "_law_any" s__law_any f fd) (T : Txt w K mg a) (h__law_drawn : Has P w K mg base CX0 1 "_law_drawn" b.drawn ["_law_state", "_law_many"] sp_lawdrawn)
    (h__law_chain : Has P w K mg base CX0 20 "_law_chain" b.chain ["_law_state", "_law_room", "_law_rows"] (sp_lawchain 8)) : FnOk P w K mg base CX0 21 f fd ["_law_state", "_law_rows"] (liftSp sp_lawany) := by
  refine F.dok sc__law_any (fun ds W Qd Ed h => ?_) (fun cdv A outer s H E W0 ds Qd Ed hr h => ?_)
  · obtain ⟨_, _, _, rfl, _⟩ := h; rfl
  · obtain ⟨s, o, rows, rfl, hs, so, q⟩ := h
    refine ⟨_, (s_one (s_ret (d_callH h__law_chain (hr.mono (by omega)) (by rfl) (d_cons (d_var 0) (d_cons (d_own (d_cons (d_op op_add s_add d_int (d_callH h__law_drawn (hr.mono (by omega)) (by rfl) (d_cons (d_var 0) (d_cons d_int d_nil)))) (d_cons (d_ix s_idx (d_lst (d_cons d_int (d_cons d_int d_nil))) (d_callH h__law_drawn (hr.mono (by omega)) (by rfl) (d_cons (d_var 0) (d_cons d_int d_nil))) (fun _ _ => rfl)) (d_cons d_int d_nil)))) (d_cons (d_var 1) d_nil)))))), ?_⟩
    walk_at "g"
    refine ⟨s, o, 4, rfl, hs, so, by decide, by decide, fun k1 o1 a1 b1 so1 => ?_⟩
    walk_at "g"
    refine ⟨s, o1, 2, rfl, put_same, so1, by decide, by decide, fun k2 o2 a2 b2 so2 => ?_⟩
    walk_at "g"
    obtain ⟨d, e, hd⟩ := atI_mem (l := [D.int 4, D.int 12]) (k := k2) a2 b2
    obtain ⟨z, rfl, z1, z2⟩ : ∃ z : Int, d = .int z ∧ 4 ≤ z ∧ z ≤ 12 := by
      simp only [List.mem_cons, List.not_mem_nil, or_false] at hd
      rcases hd with rfl | rfl <;> exact ⟨_, rfl, by omega, by omega⟩
    refine ⟨_, e, fun r hr0 => ?_⟩
    have nsr : s ≠ r := fun z => by rw [← z, put_same] at hr0; cases hr0
    refine ⟨s, r, o2, rows, 1 + k1, z, 1, rfl, by rw [put_ne nsr, put_same], so2, put_same, nsr, by omega, by omega, by omega, by omega, by decide, by decide, fun ch o3 a' b' c' g1 g2 g3 so3 => ?_⟩
    have n1 := g3.a
    have n2 := g3.b
    have n3 := g3.a0
    have n4 := g3.b0
    refine done.here (q ch _ o3 g1 g2 (by omega) (by omega) (by rw [put_ne nsr, put_same]) so3 fun u ob hu e => ?_)
    have nur : u ≠ r := fun z => by
      rw [put_ne nsr.symm] at hr0
      rw [z, hr0] at e
      cases e
    rw [put_ne nur, put_ne hu, put_ne nur, put_ne hu]
    exact e
def sp_lmakers (n : Nat) : DSp := fun ds W Q _ => ∃ c, ds = [chD c] ∧ c.depth < n ∧ c.mks.length ≤ 4 ∧ c.nst ≤ 12 ∧ Q (.lst (c.mks.map mkD)) W
theorem has_lmakers {fd : FuncData} {f : Addr} (F : Fun K "_law_makers" "_law_makers" s__law_makers f fd) (g : mg "_law_makers" = some (.ref f)) (T : Txt w K mg a) : ∀ n, Has P w K mg base CX0 (n + 1) "_law_makers" f ["_law_chain_here"] (sp_lmakers n) := by
  intro n
  induction n with
  | zero => exact ⟨⟨fd, FnOk.never fun _ _ _ _ ⟨_, _, h, _⟩ => Nat.not_lt_zero _ h, F.binds fun _ _ _ _ _ _ us hl => match us, hl with | [_], _ => rfl⟩, F.kp, g⟩
  | succ n h__law_makers =>
    refine ⟨⟨fd, ?_, F.binds fun _ _ _ _ _ _ us hl => match us, hl with | [_], _ => rfl⟩, F.kp, g⟩
    refine F.dok sc__law_makers (fun ds W Qd Ed h => ?_) (fun cdv A outer s H E W0 ds Qd Ed hr h => ?_)
    · obtain ⟨d, rfl, _⟩ := h; rfl
    · obtain ⟨c, rfl, hd, hm, hs, q⟩ := h
      refine ⟨_, (s_cons (s_set (i := 1) sc__law_makers.nd rfl (Or.inl rfl) (d_lst (d_cons (d_ix s_idx (d_var 0) d_int (fun _ _ => rfl)) d_nil)))
  (s_cons (s_for PassesOwn.never rfl (i_tup (d_ix s_idx (d_var 0) d_int (fun _ _ => rfl))) (k_name (i := 2) sc__law_makers.nd rfl (Or.inl rfl)) (s_one (s_if (t_cmp op_in_seq s_in (d_ix s_idx (d_var 2) d_int (fun _ _ => rfl)) (d_tup (d_cons d_str (d_cons d_str d_nil))) (by rfl)) (s_one (s_set (i := 1) sc__law_makers.nd rfl (Or.inl rfl) (d_op op_cat s_catL (d_var 1) (d_callH h__law_makers (hr.mono (by omega)) (by rfl) (d_cons (d_ix s_idx (d_var 2) d_int (fun _ _ => rfl)) d_nil))))) s_nil)))
  (s_one (s_ret (d_var 1))))), ?_⟩
      rw [chD_eq]
      walk_at "g"
      have main : ∀ (l : List Stg) (acc : List Maker) (x2 : Option D), (∀ i ∈ innOf l, i.depth < n ∧ i.mks.length ≤ 4 ∧ i.nst ≤ 12) → acc.length + mksL (innOf l) ≤ 4 → acc ++ (innOf l).flatMap Ch.mks = c.mks →
          forGo (kName 2)
            (hIf
              (gB
                (gOp (fIn false) (gOp fIdx (gVar 2) (gC (D.int 0)))
                  (gTup (gCons (gC (D.str (Str.ofString "both"))) (gCons (gC (D.str (Str.ofString "then"))) gNil)))))
              (hAsg (gOp fCatL (gVar 1) (gCall (sp_lmakers n) XD0 (gCons (gOp fIdx (gVar 2) (gC (D.int 1))) gNil))) (kName 1))
              hNext)
            (l.map stgD) { nx := hRet (gVar 1) { nx := fun x W => done Qd D.non W, rt := done Qd }, rt := done Qd }
            [some (D.tup [mkD c.mk, D.tup (List.map stgD c.stl)]), some (D.lst (acc.map mkD)), x2] W0 := by
        intro l
        induction l with
        | nil =>
          intro acc x2 _ _ e
          rw [innOf, List.flatMap_nil, List.append_nil] at e
          subst e
          rw [List.map_nil, forGo_nil]
          walk_at "g"
          exact done.here q
        | cons st l ih =>
          intro acc x2 hi ha e
          rw [List.map_cons, forGo_cons]
          cases st with
          | op o =>
            have k := ih acc (some (opD o)) hi ha e
            cases o <;> walk_at "g" <;> exact k
          | both i =>
            obtain ⟨h1, h2, h3⟩ := hi i List.mem_cons_self
            have hm2 : mksL (innOf (.both i :: l)) = i.mks.length + mksL (innOf l) := by simp [innOf, mksL]
            walk_at "g"
            refine ⟨i, rfl, h1, h2, h3, ?_⟩
            walk_at "g"
            have k := ih (acc ++ i.mks) (some (stgD (.both i))) (fun j hj => hi j (List.mem_cons_of_mem _ hj)) (by rw [List.length_append]; omega) (by rw [← e, innOf, List.flatMap_cons, List.append_assoc])
            rw [List.map_append] at k
            exact ⟨by rw [List.length_map, List.length_map]; have : (5 : Nat) ≤ sizeLine := by decide
                      omega, k⟩
          | thn i =>
            obtain ⟨h1, h2, h3⟩ := hi i List.mem_cons_self
            have hm2 : mksL (innOf (.thn i :: l)) = i.mks.length + mksL (innOf l) := by simp [innOf, mksL]
            walk_at "g"
            refine ⟨i, rfl, h1, h2, h3, ?_⟩
            walk_at "g"
            have k := ih (acc ++ i.mks) (some (stgD (.thn i))) (fun j hj => hi j (List.mem_cons_of_mem _ hj)) (by rw [List.length_append]; omega) (by rw [← e, innOf, List.flatMap_cons, List.append_assoc])
            rw [List.map_append] at k
            exact ⟨by rw [List.length_map, List.length_map]; have : (5 : Nat) ≤ sizeLine := by decide
                      omega, k⟩
      refine main c.stl [c.mk] none (fun i hi => ?_) (by rw [List.length_singleton, ← mksL_inn]; exact hm) (by rw [mks_inn c]; rfl)
      have h1 := inn_depth hi
      have h2 := mem_mksL hi
      have h3 := mem_nstL hi
      have h4 := mksL_inn c
      have h5 := nst_inn c
      exact ⟨by omega, by omega, by omega⟩
end
end DL
end
section
set_option maxRecDepth 100000
set_option maxHeartbeats 4000000
namespace DL
open PySem PySem.Spec PyProof.Rows L2
abbrev s_until_of : Stmt := top 38
abbrev n_until_of : List Str := ["row", "most", "far", "place"]
theorem sc_until_of : FnScope n_until_of ["row", "most"] (defScope s_until_of) := ⟨rfl, rfl, rfl, by decide +kernel, rfl, by decide +kernel, by decide +kernel⟩
abbrev s_each_of : Stmt := top 39
abbrev n_each_of : List Str := ["row", "many", "found", "number"]
theorem sc_each_of : FnScope n_each_of ["row", "many"] (defScope s_each_of) := ⟨rfl, rfl, rfl, by decide +kernel, rfl, by decide +kernel, by decide +kernel⟩
abbrev s_unlike_of : Stmt := top 40
abbrev n_unlike_of : List Str := ["row", "place"]
theorem sc_unlike_of : FnScope n_unlike_of ["row"] (defScope s_unlike_of) := ⟨rfl, rfl, rfl, by decide +kernel, rfl, by decide +kernel, by decide +kernel⟩
abbrev s_with_chain : Stmt := top 41
abbrev n_with_chain : List Str := ["name", "row", "other", "one", "more"]
theorem sc_with_chain : FnScope n_with_chain ["name", "row", "other"] (defScope s_with_chain) := ⟨rfl, rfl, rfl, by decide +kernel, rfl, by decide +kernel, by decide +kernel⟩
abbrev s_behind : Stmt := top 42
abbrev n_behind : List Str := ["stage", "row", "name", "number"]
theorem sc_behind : FnScope n_behind ["stage", "row"] (defScope s_behind) := ⟨rfl, rfl, rfl, by decide +kernel, rfl, by decide +kernel, by decide +kernel⟩
abbrev s_row_of : Stmt := top 43
abbrev n_row_of : List Str := ["chain", "row", "stage"]
theorem sc_row_of : FnScope n_row_of ["chain"] (defScope s_row_of) := ⟨rfl, rfl, rfl, by decide +kernel, rfl, by decide +kernel, by decide +kernel⟩
abbrev s_whole : Stmt := top 44
abbrev n_whole : List Str := ["chain", "maker"]
theorem sc_whole : FnScope n_whole ["chain"] (defScope s_whole) := ⟨rfl, rfl, rfl, by decide +kernel, rfl, by decide +kernel, by decide +kernel⟩
local macro_rules | `(tactic| walk_at "g") => `(tactic| simp only [hNext, hSeq, hDrop, hRet, hRetN, hIf, hAsg, hPar, kName, kNil, kCons, kTup, gVar, gC, gUn, gOp, gNil, gCons, gN, gTup, gLst, gB, gAnd, gOr, gNot, gTNot, gTAnd, gTOr, gIf, gChain, gCall, gMeth, gFld, hFld, gLc, gLcO, gYes, hFor, iTupG, iLst, iOwn, iR1, iR2, gOwn, fSl, gNone, gPart, rSlTup, rSlLst, rSlStr, gLM, mAppend, mExtend, mPop, mClear, gMake, hKPair, gKGetI, gNotInK, kSub, hRaise,
  fI, fI0, fU, fIsi, fIsi2, fLen, fLenS, fList, fListO, fTuple, fIdx, fCatL, fCatT, fCatO, fIn, fIntB, fMin2, seqOf_lst, seqOf_tup, seqOf_frz, seqOf_put, listOf_lst, listOf_put, wipeD, dstart, List.map_cons, List.map_nil, List.length_cons, List.length_nil, List.cons_append, List.nil_append, List.getElem?_cons_zero, List.getElem?_cons_succ, List.set_cons_zero, List.set_cons_succ, List.replicate_zero, List.replicate_succ, Nat.sub_self,
  fEq_int, fEq_str, fNe_int, fNe_str, fEq_bl, fNe_bl, str_beq, str_inj, String.reduceEq, decide_true, decide_false, Bool.not_true, Bool.not_false, Bool.true_and, Bool.and_true, Bool.false_and, Bool.and_false, Bool.or_true, Bool.true_or, Bool.or_false, Bool.false_or,
  atI_0, atI_1, atI_2, atI_3, cut_1, List.drop_succ_cons, List.drop_zero, Option.some.injEq, exists_eq_left', exists_eq_left, exists_eq_right, exists_eq_right', exists_eq, exists_eq', D.bl.injEq, D.int.injEq, D.str.injEq, D.ty.injEq, D.ref.injEq, D.tup.injEq, D.lst.injEq, D.frz.injEq, Ob.lst.injEq, Ob.ins.injEq, List.cons.injEq, and_true, true_and, and_assoc, exists_and_left, exists_and_right, exists_const, if_true, if_false, reduceIte, Bool.false_eq_true, reduceCtorEq, false_and, and_false, exists_false, false_or, or_false, ne_eq, not_false_eq_true, not_true_eq_false, implies_true, Nat.reduceLeDiff, Nat.reduceAdd, Nat.reduceSub, Nat.reduceEqDiff, sizeLine, Nat.reducePow, List.append_nil, List.length_append, put_put, put_same,
  kb_NoneType_int, kb_NoneType_bool, kb_NoneType_str, kb_NoneType_tuple, kb_NoneType_list, kb_bool_int, kb_bool_bool, kb_bool_str, kb_bool_tuple, kb_bool_list, kb_int_int, kb_int_bool, kb_int_str, kb_int_tuple, kb_int_list, kb_str_int, kb_str_bool, kb_str_str, kb_str_tuple, kb_str_list, kb_tuple_int, kb_tuple_bool, kb_tuple_str, kb_tuple_tuple, kb_tuple_list, kb_list_int, kb_list_bool, kb_list_str, kb_list_tuple, kb_list_list, kindOf_non, kindOf_bl, kindOf_int, kindOf_str, kindOf_tup, kindOf_lst, kindOf_frz, len_0, Int.cast_ofNat_Int, Int.natCast_add, Int.natCast_zero, Int.natCast_one, Int.reduceAdd, Int.reduceSub, Int.reduceLT, Int.reduceLE, Int.reduceBEq, Int.reduceEq, Int.reduceNe, beq_self_eq_true, beq_iff_eq, beq_eq_false_iff_ne, decide_eq_true_eq, decide_eq_false_iff_not, Bool.not_eq_true', Bool.not_eq_false', mkD_count, mkD_row, opD_add, opD_times, opD_keep, opD_drop, opD_take, opD_each, opD_til, opD_unlike, stgD_op, stgD_both, stgD_thn, List.map_map, List.any_cons, List.any_nil, List.all_cons, List.all_nil, inD, eqF, flatD, ixN_1_0, ixN_2_0, ixN_2_1, ixN_3_0, ixN_3_1, ixN_3_2, ixN_4_0, ixN_4_1, ixN_4_2, ixN_4_3, List.length_set, List.dropLast_concat, sf_gives, sf_book, sf_given, sf_put, sf_put1, lp_told1, lp_left1, sf_len, Int.add_sub_cancel, sf_draw, lf_rule, lf_ahead, lf_beside, lf_lost, lf_over, lf_told, lf_last, lf_left, lf_len, lp_over, lp_told, lp_last, lp_left, lf_draw, lf_drawn_by, lf_sought, lf_dropped, lf_told_again, lf_ended, lf_paired, lf_followed, word_num, word_fin, word_long, df_book, df_lost, df_back, df_stuck, df_sources, df_top, df_next, df_drawn, df_undone, df_put_back, df_len, dp_stuck, fTupleT, mPopAt, iZipG])

abbrev iL (l : List Int) : D := .lst (l.map D.int)
def natOf : D → Nat
  | .int i => i.toNat
  | _ => 0
theorem natOf_nat {i : Nat} : natOf (.int (i : Int)) = i := by simp [natOf]
theorem atI_ints {r : List Int} {i : Nat} (h : i < r.length) : atI (r.map D.int) (i : Int) = some (.int (r.getD i 0)) := by
  refine atI_nat ?_
  rw [List.getElem?_map, List.getElem?_eq_getElem h, Option.map_some, List.getD_eq_getElem?_getD, List.getElem?_eq_getElem h, Option.getD_some]
theorem rep_int1 {n : Nat} {k : Int} : (List.replicate n [D.int k]).flatten = (List.replicate n k).map D.int := by
  rw [List.flatten_replicate_singleton, List.map_replicate]
section
variable {P : Program} {w : World} {K : PySem.W.Frag} {mg : Str → Option Value} {base : Heap} {a : Ads}
/-- a row, perhaps in place of the one at p -/
def Res (W : Wd) (p : Addr) (r : List Int) (Q : D → Wd → Prop) : Prop := ∀ p' W', (p' = p ∨ W p' = none) → W' p' = some (.lst (r.map D.int)) → (∀ u ob, u ≠ p → W u = some ob → W' u = some ob) → Q (.ref p') W'
/-- a row of its own -/
def New (W : Wd) (r : List Int) (Q : D → Wd → Prop) : Prop := ∀ p', W p' = none → Q (.ref p') (put W p' (.lst (r.map D.int)))
def sp_until : DSp := fun ds W Q _ => ∃ (p : Addr) (r : List Int) (m : Int), ds = [.ref p, .int m] ∧ W p = some (.lst (r.map D.int)) ∧ r.length ≤ 10000 ∧ Res W p (opP (.til m) r) Q
theorem ok_until_of {fd : FuncData} {f : Addr} (F : Fun K "until_of" "until_of" s_until_of f fd) (T : Txt w K mg a) : FnOk P w K mg base CX0 1 f fd ["row", "most"] (liftSp sp_until) := by
  refine F.dok sc_until_of (fun ds W Qd Ed h => ?_) (fun cdv A outer s H E W0 ds Qd Ed hr h => ?_)
  · obtain ⟨_, _, _, rfl, _⟩ := h; rfl
  · obtain ⟨p, r, m, rfl, hp, hl, q⟩ := h
    refine ⟨_, (s_cons (s_setLc (i := 2) rfl sc_until_of.nd rfl rfl (sw_true rfl rfl rfl (by decide +kernel)) (i_r1 (by rfl) T.range (d_cons (d_callB call_len_seq s_len (by rfl) T.len PySem.boot_len (d_cons (d_var 0) d_nil)) d_nil)) (blkOk_by (own := [("place", 3)]) (N := n_until_of) (sc := defScope s_until_of) (by decide +kernel)) (simG_name (by decide)) (fun _ _ _ _ _ => pg_name (i := 3) sc_until_of.nd rfl (Or.inl rfl)) (fun _ _ _ _ _ => t_one (t_cmp op_ge s_ge (d_ix s_idx (d_var 0) (d_var 3) (fun _ _ => rfl)) (d_var 1) (nomark _))) (fun _ _ _ _ _ => (d_var 3)))
  (s_one (s_ret (d_if (t_cmp (op_neA hr.units) s_ne (d_var 2) (d_lst d_nil) (nomark _)) (d_slice sl_list sl_O (d_var 0) o_none (o_some (d_ix s_idx (d_var 2) d_int (fun _ _ => rfl)))) (d_var 0))))), ?_⟩
    walk_at "g"
    repeat (simp only [hp, seqOf_ref hp]; try walk_at "g")
    rw [List.length_map]
    refine ⟨by omega, by omega, ?_⟩
    refine lc_done (fun d => decide (m ≤ r.getD (natOf d) 0)) (fun d => d) (fun d hd W' Q' ag q' => ?_) (fun d _ _ W' Q' ag q' => ?_) (by rw [List.length_map, List.length_range]; omega) (fun p2 hp2 => ?_)
    · obtain ⟨i, hi, rfl⟩ := List.mem_map.mp hd
      have hi := List.mem_range.mp hi
      walk_at "g"
      refine ⟨_, seqOf_ref (ag _ _ hp), _, atI_ints (by omega), _, rfl, ?_⟩
      rw [natOf_nat] at q'
      exact q'
    · walk_at "g"
      exact q'
    · rw [del_put hp2, List.map_id'']
      · refine ⟨_, put_same, ?_⟩
        have e : List.filter (fun d => decide (m ≤ r.getD (natOf d) 0)) (List.map (fun (k : Nat) => D.int (k : Int)) (List.range (r.length : Int).toNat)) = (farN m r 0).map fun (k : Nat) => D.int (k : Int) := by
          rw [Int.toNat_natCast, List.filter_map, farN, List.range_eq_range']
          congr 1
        rw [e]
        obtain ⟨t1, t2⟩ := til_far (m := m) r 0
        refine fNe_fine (n := 1) (m := 1) (fine_lst.mpr fun d hd => ?_) (fine_lst.mpr (by simp)) (by decide) (by decide) ?_
        · obtain ⟨i, _, rfl⟩ := List.mem_map.mp hd
          exact fine_int
        rw [eqD_nil]
        refine ⟨_, rfl, ?_⟩
        cases hf : farN m r 0 with
        | nil =>
          rw [if_neg (by simp)]
          refine done.here (q p _ (.inl rfl) ?_ fun u ob _ e => e)
          rw [show opP (.til m) r = r from t1 hf]
          exact hp
        | cons i t =>
          rw [if_pos (by simp)]
          have t3 := t2 i t hf
          rw [Nat.sub_zero] at t3
          refine ⟨.int (i : Int), by rw [List.map_cons, atI_0], (i : Int), rfl, _, listOf_ref hp, fun p2 hp2 => ?_⟩
          refine done.here (q p2 _ (.inr hp2) ?_ fun u ob _ e => by rw [put_ne fun z => by rw [z, hp2] at e; cases e]; exact e)
          rw [put_same, show opP (.til m) r = _ from t3, cut_to, ← List.map_take]
      · exact fun _ => rfl
def sp_each : DSp := fun ds W Q _ => ∃ (r : List Int) (k : Int), ds = [iL r, .int k] ∧ r.length ≤ 10000 ∧ 1 ≤ k ∧ k ≤ 10 ∧ New W (opP (.each k) r) Q
theorem ok_each_of {fd : FuncData} {f : Addr} (F : Fun K "each_of" "each_of" s_each_of f fd) (T : Txt w K mg a) : FnOk P w K mg base CX0 1 f fd ["row", "many"] (liftSp sp_each) := by
  refine F.dok sc_each_of (fun ds W Qd Ed h => ?_) (fun cdv A outer s H E W0 ds Qd Ed hr h => ?_)
  · obtain ⟨_, _, rfl, _⟩ := h; rfl
  · obtain ⟨r, k, rfl, hl, k1, k2, q⟩ := h
    refine ⟨_, (s_cons (s_set (i := 2) sc_each_of.nd rfl (Or.inl rfl) (d_own d_nil))
  (s_cons (s_for PassesOwn.never rfl (i_lst (d_var 0)) (k_name (i := 3) sc_each_of.nd rfl (Or.inl rfl)) (s_one (s_expr (d_lm PySem.F.plainAttrs_list PySem.F.slot_list_extend PySem.F.type_list_extend mt_extend m_extend (d_var 2) (d_cons (d_op op_rep s_repL (d_lst (d_cons (d_var 3) d_nil)) (d_var 1)) d_nil)))))
  (s_one (s_ret (d_var 2))))), ?_⟩
    walk_at "g"
    have main : ∀ (l acc : List Int) (p : Addr) (x3 : Option D), W0 p = none → acc.length + 10 * l.length ≤ 100000 → done Qd (.ref p) (put W0 p (.lst ((acc ++ opP (.each k) l).map D.int))) →
        forGo (kName 3) (hDrop (gLM mExtend (gVar 2) (gCons (gOp fRepL (gLst (gCons (gVar 3) gNil)) (gVar 1)) gNil)))
          (l.map D.int) { nx := hRet (gVar 2) { nx := fun x W => done Qd D.non W, rt := done Qd }, rt := done Qd }
          [some (iL r), some (D.int k), some (D.ref p), x3] (put W0 p (.lst (acc.map D.int))) := by
      intro l
      induction l with
      | nil =>
        intro acc p x3 hp hl q
        rw [List.map_nil, forGo_nil]
        walk_at "g"
        simpa [opP] using q
      | cons x l ih =>
        intro acc p x3 hp hl q
        rw [List.length_cons] at hl
        rw [List.map_cons, forGo_cons]
        walk_at "g"
        refine ⟨_, k, rfl, rfl, by omega, by omega, (show 1 * k.toNat ≤ 16777216 by omega), _, put_same, _, rfl, ?_, ?_⟩
        · rw [rep_int1, List.length_map, List.length_map, List.length_replicate]; omega
        · rw [rep_int1, ← List.map_append, put_put]
          refine ih (acc ++ List.replicate k.toNat x) p _ hp (by rw [List.length_append, List.length_replicate]; omega) ?_
          rw [List.append_assoc]
          exact q
    exact fun p hp => main r [] p none hp (by simp only [List.length_nil]; omega) (done.here (q p hp))
def sp_unlike : DSp := fun ds W Q _ => ∃ (r : List Int), ds = [iL r] ∧ r.length ≤ 10000 ∧ New W (opP .unlike r) Q
theorem ok_unlike_of {fd : FuncData} {f : Addr} (F : Fun K "unlike_of" "unlike_of" s_unlike_of f fd) (T : Txt w K mg a) : FnOk P w K mg base CX0 1 f fd ["row"] (liftSp sp_unlike) := by
  refine F.dok sc_unlike_of (fun ds W Qd Ed h => ?_) (fun cdv A outer s H E W0 ds Qd Ed hr h => ?_)
  · obtain ⟨_, rfl, _⟩ := h; rfl
  · obtain ⟨r, rfl, hl, q⟩ := h
    refine ⟨_, (s_one (s_ret (d_lcO rfl sc_unlike_of.nd (i_r1 (by rfl) T.range (d_cons (d_callB call_len_seq s_len (by rfl) T.len PySem.boot_len (d_cons (d_var 0) d_nil)) d_nil)) (blkOk_by (own := [("place", 1)]) (N := n_unlike_of) (sc := defScope s_unlike_of) (by decide +kernel)) (simG_name (by decide)) (fun _ _ _ _ _ => pg_name (i := 1) sc_unlike_of.nd rfl (Or.inl rfl)) (fun _ _ _ _ _ => t_one (t_bool (w_or (t_cmp (op_eqA hr.units) s_eq (d_var 1) d_int (nomark _)) (w_or1 (t_cmp (op_neA hr.units) s_ne (d_ix s_idx (d_var 0) (d_var 1) (fun _ _ => rfl)) (d_ix s_idx (d_var 0) (d_op op_sub s_sub (d_var 1) d_int) (fun _ _ => rfl)) (nomark _)))))) (fun _ _ _ _ _ => (d_ix s_idx (d_var 0) (d_var 1) (fun _ _ => rfl)))))), ?_⟩
    walk_at "g"
    rw [List.length_map]
    refine ⟨by omega, by omega, ?_⟩
    refine lc_done (fun d => decide (natOf d = 0 ∨ r.getD (natOf d) 0 ≠ r.getD (natOf d - 1) 0)) (fun d => .int (r.getD (natOf d) 0)) (fun d hd W' Q' ag q' => ?_) (fun d hd _ W' Q' ag q' => ?_) (by rw [List.length_map, List.length_range]; omega) (fun p hp => ?_)
    · obtain ⟨i, hi, rfl⟩ := List.mem_map.mp hd
      have hi := List.mem_range.mp hi
      rw [natOf_nat] at q'
      walk_at "g"
      by_cases h0 : i = 0
      · subst h0
        exact q'
      · rw [if_neg (by omega)]
        refine ⟨_, atI_ints (by omega), .int (r.getD (i - 1) 0), ?_, ?_⟩
        · rw [show (i : Int) - 1 = ((i - 1 : Nat) : Int) by omega]
          exact atI_ints (by omega)
        · rw [fNe_int]
          refine ⟨_, rfl, ?_⟩
          have e : decide (i = 0 ∨ r.getD i 0 ≠ r.getD (i - 1) 0) = !(r.getD i 0 == r.getD (i - 1) 0) := by
            by_cases e2 : r.getD i 0 = r.getD (i - 1) 0
            · rw [decide_eq_false (by rintro (h | h); exact h0 h; exact h e2), e2, beq_self_eq_true]; rfl
            · rw [decide_eq_true (.inr e2), beq_eq_false_iff_ne.mpr e2]; rfl
          rw [← e]
          exact q'
    · obtain ⟨i, hi, rfl⟩ := List.mem_map.mp hd
      have hi := List.mem_range.mp hi
      rw [natOf_nat] at q'
      walk_at "g"
      exact ⟨_, atI_ints (by omega), q'⟩
    · have e : List.map (fun d => D.int (r.getD (natOf d) 0)) (List.filter (fun d => decide (natOf d = 0 ∨ r.getD (natOf d) 0 ≠ r.getD (natOf d - 1) 0)) (List.map (fun (k : Nat) => D.int (k : Int)) (List.range (r.length : Int).toNat))) = (opP .unlike r).map D.int := by
        rw [Int.toNat_natCast, List.filter_map, List.map_map]
        show _ = ((List.range r.length).filterMap fun i => if i = 0 ∨ r.getD i 0 ≠ r.getD (i - 1) 0 then some (r.getD i 0) else none).map D.int
        generalize List.range r.length = l
        induction l with
        | nil => rfl
        | cons x l ih =>
          by_cases h : x = 0 ∨ r.getD x 0 ≠ r.getD (x - 1) 0
          · rw [List.filter_cons_of_pos (by simpa [natOf_nat] using h), List.map_cons, List.filterMap_cons, if_pos h, List.map_cons, ih]
            simp only [Function.comp, natOf_nat]
          · rw [List.filter_cons_of_neg (by simpa [natOf_nat] using h), List.filterMap_cons, if_neg h, ih]
      rw [e]
      exact done.here (q p hp)
def sp_withc : DSp := fun ds W Q _ => ∃ (b : Bool) (r q : List Int), ds = [.str (if b then Str.ofString "both" else Str.ofString "then"), iL r, iL q] ∧ r.length ≤ 10000 ∧ q.length ≤ 10000 ∧ New W (if b then List.zipWith (· + ·) r q else r ++ q) Q
theorem ok_with_chain {fd : FuncData} {f : Addr} (F : Fun K "with_chain" "with_chain" s_with_chain f fd) (T : Txt w K mg a) : FnOk P w K mg base CX0 1 f fd ["name", "row", "other"] (liftSp sp_withc) := by
  refine F.dok sc_with_chain (fun ds W Qd Ed h => ?_) (fun cdv A outer s H E W0 ds Qd Ed hr h => ?_)
  · obtain ⟨_, _, _, rfl, _⟩ := h; rfl
  · obtain ⟨b, r, q0, rfl, hl, hl2, q⟩ := h
    refine ⟨_, (s_one (s_ret (d_if (t_cmp (op_eqA hr.units) s_eq (d_var 0) d_str (nomark _)) (d_lcO rfl sc_with_chain.nd (i_zip (by rfl) T.zip (d_cons (d_var 1) (d_cons (d_var 2) d_nil))) (blkOk_by (own := [("one", 3), ("more", 4)]) (N := n_with_chain) (sc := defScope s_with_chain) (by decide +kernel)) (simG_pair (by decide) (by decide)) (fun _ _ _ _ _ => pg_tup rfl (pgs_cons (pg_name (i := 3) sc_with_chain.nd rfl (Or.inl rfl)) (pgs_cons (pg_name (i := 4) sc_with_chain.nd rfl (Or.inl rfl)) pgs_nil))) (fun _ _ _ _ _ => t_nil) (fun _ _ _ _ _ => (d_op op_add s_add (d_var 3) (d_var 4)))) (d_op op_cat s_catO (d_var 1) (d_var 2))))), ?_⟩
    cases b
    · walk_at "g"
      refine ⟨by rw [List.length_map, List.length_map]; have : (20000 : Nat) ≤ 16777216 := by decide
                 omega, fun p hp => ?_⟩
      rw [← List.map_append]
      exact done.here (q p hp)
    · walk_at "g"
      intro p hp
      have main : ∀ (l m acc : List Int) (Q : Wd → Prop), l.length ≤ 10000 → acc.length + l.length ≤ 10000 → Q (put W0 p (.lst ((acc ++ List.zipWith (· + ·) l m).map D.int))) →
          lcGo p (kTup 2 (kCons (kName 3) (kCons (kName 4) kNil))) gYes (gOp fAdd (gVar 3) (gVar 4)) [some (D.str (Str.ofString "both")), some (iL r), some (iL q0), none, none]
            (zipD (l.map D.int) (m.map D.int)) (put W0 p (.lst (acc.map D.int))) Q := by
        intro l
        induction l with
        | nil => intro m acc Q _ _ q; cases m <;> simpa [zipD, lcGo] using q
        | cons x l ih =>
          intro m acc Q h1 h2 q
          cases m with
          | nil => simpa [zipD, lcGo] using q
          | cons y m =>
            rw [List.length_cons] at h1 h2
            have e : zipD ((x :: l).map D.int) ((y :: m).map D.int) = D.tup [.int x, .int y] :: zipD (l.map D.int) (m.map D.int) := rfl
            rw [e, lcGo]
            walk_at "g"
            repeat (simp only [put_same, put_put]; try walk_at "g")
            have k := ih m (acc ++ [x + y]) Q (by omega) (by rw [List.length_append, List.length_singleton]; omega) (by rw [List.append_assoc]; exact q)
            rw [List.map_append] at k
            exact ⟨sz_less (by rw [List.length_map]; omega), k⟩
      exact main r q0 [] _ hl (by simpa using hl) (done.here (q p hp))
end
end DL
end
section
set_option maxRecDepth 100000
set_option maxHeartbeats 4000000
set_option pp.deepTerms true
set_option pp.maxSteps 200000
namespace DL
open PySem PySem.Spec PyProof.Rows L2
local macro_rules | `(tactic| walk_at "g") => `(tactic| simp only [hNext, hSeq, hDrop, hRet, hRetN, hIf, hAsg, hPar, kName, kNil, kCons, kTup, gVar, gC, gUn, gOp, gNil, gCons, gN, gTup, gLst, gB, gAnd, gOr, gNot, gTNot, gTAnd, gTOr, gIf, gChain, gCall, gMeth, gFld, hFld, gLc, gLcO, gYes, hFor, iTupG, iLst, iOwn, iR1, iR2, gOwn, fSl, gNone, gPart, rSlTup, rSlLst, rSlStr, gLM, mAppend, mExtend, mPop, mClear, gMake, hKPair, gKGetI, gNotInK, kSub, hRaise,
  fI, fI0, fU, fIsi, fIsi2, fLen, fLenS, fList, fListO, fTuple, fIdx, fCatL, fCatT, fCatO, fIn, fIntB, fMin2, seqOf_lst, seqOf_tup, seqOf_frz, seqOf_put, listOf_lst, listOf_put, wipeD, dstart, List.map_cons, List.map_nil, List.length_cons, List.length_nil, List.cons_append, List.nil_append, List.getElem?_cons_zero, List.getElem?_cons_succ, List.set_cons_zero, List.set_cons_succ, List.replicate_zero, List.replicate_succ, Nat.sub_self,
  fEq_int, fEq_str, fNe_int, fNe_str, fEq_bl, fNe_bl, str_beq, str_inj, String.reduceEq, decide_true, decide_false, Bool.not_true, Bool.not_false, Bool.true_and, Bool.and_true, Bool.false_and, Bool.and_false, Bool.or_true, Bool.true_or, Bool.or_false, Bool.false_or,
  atI_0, atI_1, atI_2, atI_3, cut_1, List.drop_succ_cons, List.drop_zero, Option.some.injEq, exists_eq_left', exists_eq_left, exists_eq_right, exists_eq_right', exists_eq, exists_eq', D.bl.injEq, D.int.injEq, D.str.injEq, D.ty.injEq, D.ref.injEq, D.tup.injEq, D.lst.injEq, D.frz.injEq, Ob.lst.injEq, Ob.ins.injEq, List.cons.injEq, and_true, true_and, and_assoc, exists_and_left, exists_and_right, exists_const, if_true, if_false, reduceIte, Bool.false_eq_true, reduceCtorEq, false_and, and_false, exists_false, false_or, or_false, ne_eq, not_false_eq_true, not_true_eq_false, implies_true, Nat.reduceLeDiff, Nat.reduceAdd, Nat.reduceSub, Nat.reduceEqDiff, sizeLine, Nat.reducePow, List.append_nil, List.length_append, put_put, put_same,
  kb_NoneType_int, kb_NoneType_bool, kb_NoneType_str, kb_NoneType_tuple, kb_NoneType_list, kb_bool_int, kb_bool_bool, kb_bool_str, kb_bool_tuple, kb_bool_list, kb_int_int, kb_int_bool, kb_int_str, kb_int_tuple, kb_int_list, kb_str_int, kb_str_bool, kb_str_str, kb_str_tuple, kb_str_list, kb_tuple_int, kb_tuple_bool, kb_tuple_str, kb_tuple_tuple, kb_tuple_list, kb_list_int, kb_list_bool, kb_list_str, kb_list_tuple, kb_list_list, kindOf_non, kindOf_bl, kindOf_int, kindOf_str, kindOf_tup, kindOf_lst, kindOf_frz, len_0, Int.cast_ofNat_Int, Int.natCast_add, Int.natCast_zero, Int.natCast_one, Int.reduceAdd, Int.reduceSub, Int.reduceLT, Int.reduceLE, Int.reduceBEq, Int.reduceEq, Int.reduceNe, beq_self_eq_true, beq_iff_eq, beq_eq_false_iff_ne, decide_eq_true_eq, decide_eq_false_iff_not, Bool.not_eq_true', Bool.not_eq_false', mkD_count, mkD_row, opD_add, opD_times, opD_keep, opD_drop, opD_take, opD_each, opD_til, opD_unlike, stgD_op, stgD_both, stgD_thn, List.map_map, List.any_cons, List.any_nil, List.all_cons, List.all_nil, inD, eqF, flatD, ixN_1_0, ixN_2_0, ixN_2_1, ixN_3_0, ixN_3_1, ixN_3_2, ixN_4_0, ixN_4_1, ixN_4_2, ixN_4_3, List.length_set, List.dropLast_concat, sf_gives, sf_book, sf_given, sf_put, sf_put1, lp_told1, lp_left1, sf_len, Int.add_sub_cancel, sf_draw, lf_rule, lf_ahead, lf_beside, lf_lost, lf_over, lf_told, lf_last, lf_left, lf_len, lp_over, lp_told, lp_last, lp_left, lf_draw, lf_drawn_by, lf_sought, lf_dropped, lf_told_again, lf_ended, lf_paired, lf_followed, word_num, word_fin, word_long, df_book, df_lost, df_back, df_stuck, df_sources, df_top, df_next, df_drawn, df_undone, df_put_back, df_len, dp_stuck, fTupleT, mPopAt, iZipG])

section
variable {P : Program} {w : World} {K : PySem.W.Frag} {mg : Str → Option Value} {base : Heap} {a : Ads}
/-- a row of its own, and what stood stands -/
def NewR (W : Wd) (r : List Int) (Q : D → Wd → Prop) : Prop := ∀ p' W', W p' = none → W' p' = some (.lst (r.map D.int)) → (∀ u ob, W u = some ob → W' u = some ob) → Q (.ref p') W'
def rowsC (c : Ch) : Prop := ∀ m ∈ c.mks, ∃ ns, m = .row ns
def rowsS : Stg → Prop
  | .op _ => True
  | .both i => rowsC i
  | .thn i => rowsC i
theorem mul_w {k m : Int} (h1 : k.natAbs < 2 ^ 9000) (h2 : m.natAbs < 2 ^ 128) : CMulW k m := by
  have a1 : k.natAbs.log2 ≤ 9000 := by
    by_cases e : k.natAbs = 0
    · rw [e]; decide
    · exact Nat.le_of_lt ((Nat.log2_lt e).mpr h1)
  have a2 : m.natAbs.log2 ≤ 128 := by
    by_cases e : m.natAbs = 0
    · rw [e]; decide
    · exact Nat.le_of_lt ((Nat.log2_lt e).mpr h2)
  show k.natAbs.log2 + m.natAbs.log2 < 1000000
  omega
def sizS : Stg → Prop
  | .op _ => True
  | .both i => i.mks.length ≤ 4 ∧ i.nst ≤ 12
  | .thn i => i.mks.length ≤ 4 ∧ i.nst ≤ 12
def depS : Stg → Nat
  | .op _ => 0
  | .both i => i.depth + 1
  | .thn i => i.depth + 1
structure StOk (n : Nat) (s : Stg) : Prop where
  ok : okStg s
  dp : depS s ≤ n
  rw_ : rowsS s
  nu : numSt s
  sz : sizS s
def sp_row (a : Ads) (n : Nat) : DSp := fun ds W Q E => ∃ c, ds = [chD c] ∧ c.depth < n ∧ okCh c ∧ rowsC c ∧ NumB c ∧ c.mks.length ≤ 4 ∧ c.nst ≤ 12 ∧ (∀ r, rowP c = some r → NewR W r Q) ∧ (rowP c = none → ∀ W', (∀ u ob, W u = some ob → W' u = some ob) → E a.NoWhole none W')
def sp_behind (a : Ads) (n : Nat) : DSp := fun ds W Q E => ∃ st p r, ds = [stgD st, .ref p] ∧ W p = some (.lst (r.map D.int)) ∧ r.length ≤ 10000 ∧ okStg st ∧ depS st ≤ n ∧ rowsS st ∧ numSt st ∧ sizS st ∧ (∀ k ∈ r, k.natAbs < 2 ^ 9000) ∧ (∀ r', rawP st r = some r' → Res W p r' Q) ∧ (rawP st r = none → ∀ W', (∀ u ob, u ≠ p → W u = some ob → W' u = some ob) → E a.NoWhole none W')
def intOf : D → Int
  | .int i => i
  | _ => 0
/-- a row and another one, given up for the one that comes of both -/
theorem two {W0 W2 : Wd} {p p2 : Addr} {r r2 : List Int} {Qd : D → Wd → Prop} {b : Bool} (hp : W0 p = some (.lst (r.map D.int))) (f1 : W0 p2 = none) (f2 : W2 p2 = some (.lst (r2.map D.int))) (f3 : ∀ u ob, W0 u = some ob → W2 u = some ob)
    (q : Res W0 p (if b then List.zipWith (· + ·) r r2 else r ++ r2) Qd) (hl : r.length ≤ 10000) (hl2 : r2.length ≤ 10000) : spIn sp_withc [.str (if b then Str.ofString "both" else Str.ofString "then"), .ref p, .ref p2] W2 (done Qd) XD0 := by
  have n : p2 ≠ p := fun e => by rw [e, hp] at f1; cases f1
  refine ⟨[.str (if b then Str.ofString "both" else Str.ofString "then"), iL r, iL r2], del (del W2 p) p2, ConvL.tail _ ((ConvL.head _ (Conv.lst (f3 _ _ hp))).trans (ConvL.tail _ (ConvL.head _ (Conv.lst (by rw [del_ne n]; exact f2))))), b, r, r2, rfl, hl, hl2, fun p' hp' => done.here (q p' _ ?_ put_same fun u ob hu e => ?_)⟩
  · by_cases e : p' = p
    · exact .inl e
    · refine .inr ?_
      by_cases e2 : p' = p2
      · rw [e2]; exact f1
      · rw [del_ne e2, del_ne e] at hp'
        cases h : W0 p' with
        | none => rfl
        | some ob => have := f3 _ _ h; rw [hp'] at this; cases this
  · have u2 : u ≠ p2 := fun z => by rw [z, f1] at e; cases e
    rw [put_ne (fun z => by rw [← z, del_ne u2, del_ne hu, f3 _ _ e] at hp'; cases hp'), del_ne u2, del_ne hu]
    exact f3 _ _ e
theorem ok_behind {n : Nat} {fd : FuncData} {f f1 f2 f3 f4 f5 : Addr} (F : Fun K "behind" "behind" s_behind f fd) (T : Txt w K mg a)
    (h_until_of : Has P w K mg base CX0 1 "until_of" f1 ["row", "most"] sp_until) (h_each_of : Has P w K mg base CX0 1 "each_of" f2 ["row", "many"] (spIn sp_each)) (h_unlike_of : Has P w K mg base CX0 1 "unlike_of" f3 ["row"] (spIn sp_unlike))
    (h_with_chain : Has P w K mg base CX0 1 "with_chain" f4 ["name", "row", "other"] (spIn sp_withc)) (h_row_of : Has P w K mg base (L2.CX P w) (2 * n + 1) "row_of" f5 ["chain"] (sp_row a n)) :
    FnOk P w K mg base (L2.CX P w) (2 * n + 2) f fd ["stage", "row"] (liftSp (sp_behind a n)) := by
  refine F.dokX sc_behind (fun ds W Qd Ed h => ?_) (fun cdv A outer s H E W0 ds Qd Ed hr fx h => ?_)
  · obtain ⟨_, _, _, rfl, _⟩ := h; rfl
  · obtain ⟨st, p, r, rfl, hp, hl, ok, dp, rw_, nu, sz, rb, q, qe⟩ := h
    refine ⟨_, (s_cons (s_set (i := 2) sc_behind.nd rfl (Or.inr rfl) (d_ix s_idx (d_var 0) d_int (fun _ _ => rfl)))
  (s_cons (s_if (t_cmp op_in_seq s_in (d_var 2) (d_tup (d_cons d_str (d_cons d_str d_nil))) (by rfl)) (s_one (s_ret (d_callH h_with_chain (hr.mono (by omega)) (by rfl) (d_cons (d_var 2) (d_cons (d_var 1) (d_cons (d_callE h_row_of (hr.mono (by omega)) (by rfl) fx (takes_of rfl rfl rfl rfl) (d_cons (d_ix s_idx (d_var 0) d_int (fun _ _ => rfl)) d_nil)) d_nil)))))) s_nil)
  (s_cons (s_if (t_cmp op_in_seq s_in (d_var 2) (d_tup (d_cons d_str (d_cons d_str d_nil))) (by rfl)) (s_one (s_ret (d_lcO rfl sc_behind.nd (i_own (d_var 1)) (blkOk_by (own := [("number", 3)]) (N := n_behind) (sc := defScope s_behind) (by decide +kernel)) (simG_name (by decide)) (fun _ _ _ _ _ => pg_name (i := 3) sc_behind.nd rfl (Or.inl rfl)) (fun _ _ _ _ _ => t_nil) (fun _ _ _ _ _ => (d_if (t_cmp (op_eqA hr.units) s_eq (d_var 2) d_str (nomark _)) (d_op op_add s_add (d_var 3) (d_ix s_idx (d_var 0) d_int (fun _ _ => rfl))) (d_op op_mulW s_mul (d_var 3) (d_ix s_idx (d_var 0) d_int (fun _ _ => rfl)))))))) s_nil)
  (s_cons (s_if (t_cmp (op_eqA hr.units) s_eq (d_var 2) d_str (nomark _)) (s_one (s_ret (d_lcO rfl sc_behind.nd (i_own (d_var 1)) (blkOk_by (own := [("number", 3)]) (N := n_behind) (sc := defScope s_behind) (by decide +kernel)) (simG_name (by decide)) (fun _ _ _ _ _ => pg_name (i := 3) sc_behind.nd rfl (Or.inl rfl)) (fun _ _ _ _ _ => t_one (t_cmp (op_eqA hr.units) s_eq (d_op op_mod s_mod (d_var 3) (d_ix s_idx (d_var 0) d_int (fun _ _ => rfl))) (d_ix s_idx (d_var 0) d_int (fun _ _ => rfl)) (nomark _))) (fun _ _ _ _ _ => (d_var 3))))) s_nil)
  (s_cons (s_if (t_cmp op_in_seq s_in (d_var 2) (d_tup (d_cons d_str (d_cons d_str d_nil))) (by rfl)) (s_one (s_ret (d_if (t_cmp (op_eqA hr.units) s_eq (d_var 2) d_str (nomark _)) (d_slice sl_list sl_O (d_var 1) (o_some (d_ix s_idx (d_var 0) d_int (fun _ _ => rfl))) o_none) (d_slice sl_list sl_O (d_var 1) o_none (o_some (d_ix s_idx (d_var 0) d_int (fun _ _ => rfl))))))) s_nil)
  (s_cons (s_if (t_cmp (op_eqA hr.units) s_eq (d_var 2) d_str (nomark _)) (s_one (s_ret (d_callH h_each_of (hr.mono (by omega)) (by rfl) (d_cons (d_var 1) (d_cons (d_ix s_idx (d_var 0) d_int (fun _ _ => rfl)) d_nil))))) s_nil)
  (s_one (s_ret (d_if (t_cmp (op_eqA hr.units) s_eq (d_var 2) d_str (nomark _)) (d_callH h_until_of (hr.mono (by omega)) (by rfl) (d_cons (d_var 1) (d_cons (d_ix s_idx (d_var 0) d_int (fun _ _ => rfl)) d_nil))) (d_callH h_unlike_of (hr.mono (by omega)) (by rfl) (d_cons (d_var 1) d_nil))))))))))), ?_⟩
    have fresh : ∀ {r' : List Int} {p' : Addr}, Res W0 p r' Qd → del W0 p p' = none → Qd (.ref p') (put (del W0 p) p' (.lst (r'.map D.int))) := fun {r' p'} q0 h0 => by
      refine q0 p' _ ?_ put_same fun u ob hu e => ?_
      · by_cases e : p' = p
        · exact .inl e
        · rw [del_ne e] at h0
          exact .inr h0
      · rw [put_ne (fun z => by rw [← z, del_ne hu, e] at h0; cases h0), del_ne hu]
        exact e
    have lcf : ∀ (gt : GT) (ge : GE) (δ0 : Dt) (f : Int → Bool) (v : Int → Int), (∀ k ∈ r, ∀ W' (Q' : Bool → Wd → Prop), Q' (f k) W' → gt (δ0.set 3 (some (.int k))) W' Q') → (∀ k ∈ r, f k = true → ∀ W' (Q' : D → Wd → Prop), Q' (.int (v k)) W' → ge (δ0.set 3 (some (.int k))) W' Q') →
        Res W0 p ((r.filter f).map v) Qd → ∀ p1, del W0 p p1 = none → lcGo p1 (kName 3) gt ge δ0 (r.map D.int) (put (del W0 p) p1 (.lst [])) fun W2 => done Qd (.ref p1) W2 := by
      intro gt ge δ0 f v h1 h2 q0
      refine lc_done (F := fun p1 W2 => done Qd (.ref p1) W2) (fun d => f (intOf d)) (fun d => .int (v (intOf d))) (fun d hd W' Q' _ q' => ?_) (fun d hd hf W' Q' _ q' => ?_) (by rw [List.length_map]; omega) (fun p1 hp1 => ?_)
      · obtain ⟨k, hk, rfl⟩ := List.mem_map.mp hd
        exact h1 k hk W' Q' q'
      · obtain ⟨k, hk, rfl⟩ := List.mem_map.mp hd
        exact h2 k hk hf W' Q' q'
      · have e : ((r.map D.int).filter fun d => f (intOf d)).map (fun d => D.int (v (intOf d))) = ((r.filter f).map v).map D.int := by
          rw [List.filter_map, List.map_map, List.map_map]
          rfl
        rw [e]
        exact done.here (fresh q0 hp1)
    cases st with
    | op o =>
      have q0 := q _ rfl
      cases o with
      | add m =>
        walk_at "g"
        refine ⟨_, hp, lcf _ _ _ (fun _ => true) (fun k => k + m) (fun k _ W' Q' q' => q') (fun k _ _ W' Q' q' => ?_) (by rw [List.filter_eq_self.mpr (by simp)]; exact q0)⟩
        simp only [List.set_cons_succ, List.set_cons_zero]
        walk_at "g"
        exact q'
      | times m =>
        walk_at "g"
        refine ⟨_, hp, lcf _ _ _ (fun _ => true) (fun k => k * m) (fun k _ W' Q' q' => q') (fun k hk _ W' Q' q' => ?_) (by rw [List.filter_eq_self.mpr (by simp)]; exact q0)⟩
        simp only [List.set_cons_succ, List.set_cons_zero]
        walk_at "g"
        exact ⟨mul_w (rb k hk) nu, q'⟩
      | keep m w =>
        walk_at "g"
        have ok : 2 ≤ w ∧ w ≤ 1000 ∧ 0 ≤ m ∧ m < w := ok
        refine ⟨_, hp, lcf _ _ _ (fun k => k % w == m) (fun k => k) (fun k _ W' Q' q' => ?_) (fun k _ _ W' Q' q' => ?_) (by rw [List.map_id']; exact q0)⟩
        · simp only [List.set_cons_succ, List.set_cons_zero]
          walk_at "g"
          exact ⟨by omega, q'⟩
        · simp only [List.set_cons_succ, List.set_cons_zero]
          walk_at "g"
          exact q'
      | drop m =>
        walk_at "g"
        have ok : 0 ≤ m ∧ m ≤ 100 := ok
        refine ⟨_, listOf_ref hp, fun p' hp' => done.here (q0 p' _ (.inr hp') ?_ fun u ob _ e => by rw [put_ne fun z => by rw [z, hp'] at e; cases e]; exact e)⟩
        rw [put_same, show m = ((m.toNat : Nat) : Int) by omega, cut_from, ← List.map_drop]
        rfl
      | take m =>
        walk_at "g"
        have ok : 0 ≤ m ∧ m ≤ 100 := ok
        refine ⟨_, listOf_ref hp, fun p' hp' => done.here (q0 p' _ (.inr hp') ?_ fun u ob _ e => by rw [put_ne fun z => by rw [z, hp'] at e; cases e]; exact e)⟩
        rw [put_same, show m = ((m.toNat : Nat) : Int) by omega, cut_to, ← List.map_take]
        rfl
      | each k =>
        walk_at "g"
        exact ⟨[iL r, .int k], del W0 p, ConvL.head _ (Conv.lst hp), r, k, rfl, hl, ok.1, ok.2, fun p' hp' => done.here (fresh q0 hp')⟩
      | til m =>
        walk_at "g"
        exact ⟨p, r, m, rfl, hp, hl, fun p' W' h1 h2 h3 => done.here (q0 p' W' h1 h2 h3)⟩
      | unlike =>
        walk_at "g"
        exact ⟨[iL r], del W0 p, ConvL.head _ (Conv.lst hp), r, rfl, hl, fun p' hp' => done.here (fresh q0 hp')⟩
    | both i =>
      walk_at "g"
      refine ⟨i, rfl, dp, ok, rw_, nu, sz.1, sz.2, fun r2 e2 p2 W2 f1 f2 f3 => ?_, fun e2 W' k => qe (by simp [rawP, e2]) W' fun u ob _ e => k u ob e⟩
      have q0 := q (List.zipWith (· + ·) r r2) (by simp [rawP, e2])
      exact two hp f1 f2 f3 (b := true) q0 hl (rowP_len ok e2)
    | thn i =>
      walk_at "g"
      refine ⟨i, rfl, dp, ok, rw_, nu, sz.1, sz.2, fun r2 e2 p2 W2 f1 f2 f3 => ?_, fun e2 W' k => qe (by simp [rawP, e2]) W' fun u ob _ e => k u ob e⟩
      have q0 := q (r ++ r2) (by simp [rawP, e2])
      exact two hp f1 f2 f3 (b := false) q0 hl (rowP_len ok e2)
theorem stl_ok {n : Nat} : ∀ {c : Ch}, okCh c → c.depth < n + 1 → rowsC c → NumB c → c.mks.length ≤ 4 → c.nst ≤ 12 → ∀ s ∈ c.stl, StOk n s
  | .src m, _, _, _, _, _, _, s, hs => by cases hs
  | .op c o, ok, dp, rc, nb, mk, ns, s, hs => by
    rcases List.mem_append.mp hs with hs | hs
    · exact stl_ok ok.1 dp rc nb.1 mk (by simp only [Ch.nst] at ns; omega) s hs
    · rw [List.mem_singleton.mp hs]; exact ⟨ok.2, Nat.zero_le _, trivial, nb.2, trivial⟩
  | .both c i, ok, dp, rc, nb, mk, ns, s, hs => by
    simp only [Ch.nst] at ns
    simp only [Ch.mks, List.length_append] at mk
    simp only [Ch.depth] at dp
    rcases List.mem_append.mp hs with hs | hs
    · exact stl_ok ok.1 (by omega) (fun m hm => rc m (List.mem_append_left _ hm)) nb.1 (by omega) (by omega) s hs
    · rw [List.mem_singleton.mp hs]; exact ⟨ok.2, (by show i.depth + 1 ≤ n; omega), fun m hm => rc m (List.mem_append_right _ hm), nb.2, (by omega), (by omega)⟩
  | .thn c i, ok, dp, rc, nb, mk, ns, s, hs => by
    simp only [Ch.nst] at ns
    simp only [Ch.mks, List.length_append] at mk
    simp only [Ch.depth] at dp
    rcases List.mem_append.mp hs with hs | hs
    · exact stl_ok ok.1 (by omega) (fun m hm => rc m (List.mem_append_left _ hm)) nb.1 (by omega) (by omega) s hs
    · rw [List.mem_singleton.mp hs]; exact ⟨ok.2, (by show i.depth + 1 ≤ n; omega), fun m hm => rc m (List.mem_append_right _ hm), nb.2, (by omega), (by omega)⟩
theorem mk_mem : ∀ c : Ch, c.mk ∈ c.mks
  | .src m => List.mem_singleton.mpr rfl
  | .op c _ => mk_mem c
  | .both c i => List.mem_append_left _ (mk_mem c)
  | .thn c i => List.mem_append_left _ (mk_mem c)
def RI (a : Ads) (Ed : XD) : GS := (hIf (gTAnd (gB (gOp fEq (gOp fIdx (gVar 2) (gC (D.int 0))) (gC (D.str (Str.ofString "each"))))) (gB (gOp fGt (gOp fMul (gN fLen (gCons (gVar 1) gNil)) (gOp fIdx (gVar 2) (gC (D.int 1)))) (gC (D.int 10000))))) (hRaise a.NoWhole Ed) hNext)
def RB (a : Ads) (n : Nat) (Ed : XD) : GS := (hSeq (hAsg (gCall (sp_behind a n) Ed (gCons (gVar 2) (gCons (gVar 1) gNil))) (kName 1)) (hIf (gB (gOp fGt (gN fLen (gCons (gVar 1) gNil)) (gC (D.int 10000)))) (hRaise a.NoWhole Ed) hNext))
theorem ok_row_of {n : Nat} {fd : FuncData} {f f1 : Addr} (F : Fun K "row_of" "row_of" s_row_of f fd) (T : Txt w K mg a) (h_behind : Has P w K mg base (L2.CX P w) (2 * n + 2) "behind" f1 ["stage", "row"] (sp_behind a n)) :
    FnOk P w K mg base (L2.CX P w) (2 * n + 3) f fd ["chain"] (liftSp (sp_row a (n + 1))) := by
  refine F.dokX sc_row_of (fun ds W Qd Ed h => ?_) (fun cdv A outer s H E W0 ds Qd Ed hr fx h => ?_)
  · obtain ⟨_, rfl, _⟩ := h; rfl
  · obtain ⟨c, rfl, dp, ok, rc, nb, mk, ns, q, qe⟩ := h
    obtain ⟨_, g_MOST_WHOLE⟩ := T.g_MOST_WHOLE
    refine ⟨_, (s_cons (s_set (i := 1) sc_row_of.nd rfl (Or.inl rfl) (d_callTy call_list_of s_listO (by rfl) T.list (by decide +kernel) (d_cons (d_ix s_idx (d_ix s_idx (d_var 0) d_int (fun _ _ => rfl)) d_int (fun _ _ => rfl)) d_nil)))
  (s_cons (s_for (passes_of rfl) rfl (i_tup (d_ix s_idx (d_var 0) d_int (fun _ _ => rfl))) (k_name (i := 2) sc_row_of.nd rfl (Or.inl rfl)) (s_cons (s_if (t_bool (w_and (t_cmp (op_eqA hr.units) s_eq (d_ix s_idx (d_var 2) d_int (fun _ _ => rfl)) d_str (nomark _)) (w_and1 (t_cmp op_gt s_gt (d_op op_mulW s_mul (d_callB call_len_seq s_len (by rfl) T.len PySem.boot_len (d_cons (d_var 1) d_nil)) (d_ix s_idx (d_var 2) d_int (fun _ _ => rfl))) (d_globI (by rfl) g_MOST_WHOLE ⟨_, rfl⟩) (nomark _))))) (s_one (s_raise rfl (takes_of rfl rfl rfl rfl) (pmk_own PySem.F.excBase_ValueError T.x_NoWhole T.g_NoWhole T.k_NoWhole (raises_own T.b_NoWhole T.t_NoWhole) rfl) fx)) s_nil)
  (s_cons (s_set (i := 1) sc_row_of.nd rfl (Or.inl rfl) (d_callE h_behind (hr.mono (by omega)) (by rfl) fx (takes_of rfl rfl rfl rfl) (d_cons (d_var 2) (d_cons (d_var 1) d_nil))))
  (s_one (s_if (t_cmp op_gt s_gt (d_callB call_len_seq s_len (by rfl) T.len PySem.boot_len (d_cons (d_var 1) d_nil)) (d_globI (by rfl) g_MOST_WHOLE ⟨_, rfl⟩) (nomark _)) (s_one (s_raise rfl (takes_of rfl rfl rfl rfl) (pmk_own PySem.F.excBase_ValueError T.x_NoWhole T.g_NoWhole T.k_NoWhole (raises_own T.b_NoWhole T.t_NoWhole) rfl) fx)) s_nil)))))
  (s_one (s_ret (d_var 1))))), ?_⟩
    obtain ⟨r0, hr0⟩ : ∃ r0, c.mk = .row r0 := rc c.mk (mk_mem c)
    rw [chD_eq, hr0]
    walk_at "g"
    have main : ∀ (l : List Stg) (r : List Int) (p : Addr) (W : Wd) (x2 : Option D) (B : Nat), (∀ s ∈ l, StOk n s) → W p = some (.lst (r.map D.int)) → W0 p = none → (∀ u ob, W0 u = some ob → W u = some ob) → r.length ≤ 10000 → InB B r → 128 ≤ B → B + bitsL l ≤ 9000 →
        (∀ r', foldP l r = some r' → NewR W0 r' Qd) → (foldP l r = none → ∀ W', (∀ u ob, W0 u = some ob → W' u = some ob) → Ed a.NoWhole none W') →
        forGo (kName 2) (hSeq (RI a Ed) (RB a n Ed)) (l.map stgD) { nx := hRet (gVar 1) { nx := fun x W => done Qd D.non W, rt := done Qd }, rt := done Qd }
          [some (D.tup [D.tup [D.str (Str.ofString "row"), D.tup (List.map D.int r0)], D.tup (List.map stgD c.stl)]), some (D.ref p), x2] W := by
      intro l
      induction l with
      | nil =>
        intro r p W x2 B _ hp h0 sub hl _ _ _ q _
        rw [List.map_nil, forGo_nil]
        walk_at "g"
        exact done.here (q r rfl p W h0 hp sub)
      | cons s l ih =>
        intro r p W x2 B hs hp h0 sub hl inb hB hBl q qe
        have so := hs s List.mem_cons_self
        have rb : preP s r = false → RB a n Ed { nx := forGo (kName 2) (hSeq (RI a Ed) (RB a n Ed)) (l.map stgD) { nx := hRet (gVar 1) { nx := fun x W => done Qd D.non W, rt := done Qd }, rt := done Qd }, rt := done Qd, bk := hRet (gVar 1) { nx := fun x W => done Qd D.non W, rt := done Qd }, ct := forGo (kName 2) (hSeq (RI a Ed) (RB a n Ed)) (l.map stgD) { nx := hRet (gVar 1) { nx := fun x W => done Qd D.non W, rt := done Qd }, rt := done Qd } }
            [some (D.tup [D.tup [D.str (Str.ofString "row"), D.tup (List.map D.int r0)], D.tup (List.map stgD c.stl)]), some (D.ref p), some (stgD s)] W := by
          intro hpre
          unfold RB
          walk_at "g"
          refine ⟨s, p, r, rfl, hp, hl, so.ok, so.dp, so.rw_, so.nu, so.sz, inb.mono (by omega), fun r' e p' W' c1 c2 c3 => ?_, fun e W' k => qe (by simp [foldP, stepP, hpre, e]) W' fun u ob eu => k u ob (fun z => by rw [z, h0] at eu; cases eu) (sub u ob eu)⟩
          have sub' : ∀ u ob, W0 u = some ob → W' u = some ob := fun u ob eu => c3 u ob (fun z => by rw [z, h0] at eu; cases eu) (sub u ob eu)
          have h0' : W0 p' = none := by
            rcases c1 with rfl | c1
            · exact h0
            · cases e0 : W0 p' with
              | none => rfl
              | some ob => have := sub _ _ e0; rw [c1] at this; cases this
          walk_at "g"
          repeat (simp only [seqOf_ref c2]; try walk_at "g")
          rw [List.length_map]
          by_cases hc : (10000 : Int) < (r'.length : Int)
          · rw [if_pos hc]
            exact qe (by simp [foldP, stepP, hpre, e, capP, show 10000 < r'.length by omega]) W' sub'
          · rw [if_neg hc]
            have fe : foldP (s :: l) r = foldP l r' := by simp [foldP, stepP, hpre, e, capP, show ¬ 10000 < r'.length by omega]
            exact ih r' p' W' _ (B + bitS s) (fun x hx => hs x (List.mem_cons_of_mem _ hx)) c2 h0' sub' (by omega) (rawP_in inb hB so.nu e) (by omega) (by simp only [bitsL] at hBl; omega) (fun r2 e2 => q r2 (by rw [fe]; exact e2)) (fun e2 => qe (by rw [fe]; exact e2))
        rw [List.map_cons, forGo_cons]
        cases s with
        | op o =>
          cases o with
          | each k =>
            have ok : 1 ≤ k ∧ k ≤ 10 := so.ok
            unfold RI
            walk_at "g"
            repeat (simp only [seqOf_ref hp]; try walk_at "g")
            rw [List.length_map]
            have p1 : (10000 : Nat) < 2 ^ 9000 := Nat.lt_of_lt_of_le (show 10000 < 2 ^ 14 by decide) (Nat.pow_le_pow_right (by decide) (by decide))
            have p2 : (10 : Nat) < 2 ^ 128 := by decide
            refine ⟨mul_w (by omega) (by omega), ?_⟩
            have ek : (r.length : Int) * k = ((r.length * k.toNat : Nat) : Int) := by
              rw [Int.natCast_mul, Int.toNat_of_nonneg (by omega)]
            rw [ek]
            by_cases hc : (10000 : Int) < ((r.length * k.toNat : Nat) : Int)
            · rw [if_pos hc]
              have pr : preP (.op (.each k)) r = true := decide_eq_true (by omega)
              exact qe (by simp only [foldP, stepP, pr, if_true]; rfl) W sub
            · rw [if_neg hc]
              exact rb (by simp only [preP]; exact decide_eq_false (by omega))
          | _ => unfold RI; walk_at "g"; exact rb rfl
        | both i => unfold RI; walk_at "g"; exact rb rfl
        | thn i => unfold RI; walk_at "g"; exact rb rfl
    have er : rowP c = foldP c.stl r0 := by rw [rowP_eq, hr0]; rfl
    have b1 := bits_le c
    have b2 := bits_eq c
    have l0 : r0.length ≤ 100 := by have := (okCh_iff.mp ok).1; rw [hr0] at this; exact this
    refine fun p hp => main c.stl r0 p _ none 200 (stl_ok ok dp rc nb mk ns) put_same hp (fun u ob e => by rw [put_ne fun z => by rw [z, hp] at e; cases e]; exact e) (by omega) (((numB_iff nb).1 r0 (by rw [hr0]; rfl)).mono (by decide)) (by decide) (by omega) (fun r e => q r (by rw [er]; exact e)) (fun e => qe (by rw [er]; exact e))
end
end DL
end
section
set_option maxRecDepth 100000
set_option maxHeartbeats 4000000
set_option pp.deepTerms true
set_option pp.maxSteps 200000
namespace DL
open PySem PySem.Spec PyProof.Rows L2
local macro_rules | `(tactic| walk_at "g") => `(tactic| simp only [hNext, hSeq, hDrop, hRet, hRetN, hIf, hAsg, hPar, kName, kNil, kCons, kTup, gVar, gC, gUn, gOp, gNil, gCons, gN, gTup, gLst, gB, gAnd, gOr, gNot, gTNot, gTAnd, gTOr, gIf, gChain, gCall, gMeth, gFld, hFld, gLc, gLcO, gYes, hFor, iTupG, iLst, iOwn, iR1, iR2, gOwn, fSl, gNone, gPart, rSlTup, rSlLst, rSlStr, gLM, mAppend, mExtend, mPop, mClear, gMake, hKPair, gKGetI, gNotInK, kSub, hRaise,
  fI, fI0, fU, fIsi, fIsi2, fLen, fLenS, fList, fListO, fTuple, fIdx, fCatL, fCatT, fCatO, fIn, fIntB, fMin2, seqOf_lst, seqOf_tup, seqOf_frz, seqOf_put, listOf_lst, listOf_put, wipeD, dstart, List.map_cons, List.map_nil, List.length_cons, List.length_nil, List.cons_append, List.nil_append, List.getElem?_cons_zero, List.getElem?_cons_succ, List.set_cons_zero, List.set_cons_succ, List.replicate_zero, List.replicate_succ, Nat.sub_self,
  fEq_int, fEq_str, fNe_int, fNe_str, fEq_bl, fNe_bl, str_beq, str_inj, String.reduceEq, decide_true, decide_false, Bool.not_true, Bool.not_false, Bool.true_and, Bool.and_true, Bool.false_and, Bool.and_false, Bool.or_true, Bool.true_or, Bool.or_false, Bool.false_or,
  atI_0, atI_1, atI_2, atI_3, cut_1, List.drop_succ_cons, List.drop_zero, Option.some.injEq, exists_eq_left', exists_eq_left, exists_eq_right, exists_eq_right', exists_eq, exists_eq', D.bl.injEq, D.int.injEq, D.str.injEq, D.ty.injEq, D.ref.injEq, D.tup.injEq, D.lst.injEq, D.frz.injEq, Ob.lst.injEq, Ob.ins.injEq, List.cons.injEq, and_true, true_and, and_assoc, exists_and_left, exists_and_right, exists_const, if_true, if_false, reduceIte, Bool.false_eq_true, reduceCtorEq, false_and, and_false, exists_false, false_or, or_false, ne_eq, not_false_eq_true, not_true_eq_false, implies_true, Nat.reduceLeDiff, Nat.reduceAdd, Nat.reduceSub, Nat.reduceEqDiff, sizeLine, Nat.reducePow, List.append_nil, List.length_append, put_put, put_same,
  kb_NoneType_int, kb_NoneType_bool, kb_NoneType_str, kb_NoneType_tuple, kb_NoneType_list, kb_bool_int, kb_bool_bool, kb_bool_str, kb_bool_tuple, kb_bool_list, kb_int_int, kb_int_bool, kb_int_str, kb_int_tuple, kb_int_list, kb_str_int, kb_str_bool, kb_str_str, kb_str_tuple, kb_str_list, kb_tuple_int, kb_tuple_bool, kb_tuple_str, kb_tuple_tuple, kb_tuple_list, kb_list_int, kb_list_bool, kb_list_str, kb_list_tuple, kb_list_list, kindOf_non, kindOf_bl, kindOf_int, kindOf_str, kindOf_tup, kindOf_lst, kindOf_frz, len_0, Int.cast_ofNat_Int, Int.natCast_add, Int.natCast_zero, Int.natCast_one, Int.reduceAdd, Int.reduceSub, Int.reduceLT, Int.reduceLE, Int.reduceBEq, Int.reduceEq, Int.reduceNe, beq_self_eq_true, beq_iff_eq, beq_eq_false_iff_ne, decide_eq_true_eq, decide_eq_false_iff_not, Bool.not_eq_true', Bool.not_eq_false', mkD_count, mkD_row, opD_add, opD_times, opD_keep, opD_drop, opD_take, opD_each, opD_til, opD_unlike, stgD_op, stgD_both, stgD_thn, List.map_map, List.any_cons, List.any_nil, List.all_cons, List.all_nil, inD, eqF, flatD, ixN_1_0, ixN_2_0, ixN_2_1, ixN_3_0, ixN_3_1, ixN_3_2, ixN_4_0, ixN_4_1, ixN_4_2, ixN_4_3, List.length_set, List.dropLast_concat, sf_gives, sf_book, sf_given, sf_put, sf_put1, lp_told1, lp_left1, sf_len, Int.add_sub_cancel, sf_draw, lf_rule, lf_ahead, lf_beside, lf_lost, lf_over, lf_told, lf_last, lf_left, lf_len, lp_over, lp_told, lp_last, lp_left, lf_draw, lf_drawn_by, lf_sought, lf_dropped, lf_told_again, lf_ended, lf_paired, lf_followed, word_num, word_fin, word_long, df_book, df_lost, df_back, df_stuck, df_sources, df_top, df_next, df_drawn, df_undone, df_put_back, df_len, dp_stuck, fTupleT, mPopAt, iZipG])

section
variable {P : Program} {w : World} {K : PySem.W.Frag} {mg : Str → Option Value} {base : Heap} {a : Ads}
theorem has_row_of {fd fb : FuncData} {f f0 f1 f2 f3 f4 : Addr} (F : Fun K "row_of" "row_of" s_row_of f fd) (g : mg "row_of" = some (.ref f)) (Fb : Fun K "behind" "behind" s_behind f0 fb) (gb : mg "behind" = some (.ref f0)) (T : Txt w K mg a)
    (h1 : Has P w K mg base CX0 1 "until_of" f1 ["row", "most"] sp_until) (h2 : Has P w K mg base CX0 1 "each_of" f2 ["row", "many"] (spIn sp_each)) (h3 : Has P w K mg base CX0 1 "unlike_of" f3 ["row"] (spIn sp_unlike))
    (h4 : Has P w K mg base CX0 1 "with_chain" f4 ["name", "row", "other"] (spIn sp_withc)) : ∀ n, Has P w K mg base (L2.CX P w) (2 * n + 1) "row_of" f ["chain"] (sp_row a n)
  | 0 => ⟨⟨fd, FnOk.never fun _ _ _ _ ⟨_, _, h, _⟩ => Nat.not_lt_zero _ h, F.binds fun _ _ _ _ _ _ us hl => match us, hl with | [_], _ => rfl⟩, F.kp, g⟩
  | n + 1 => ⟨⟨fd, ok_row_of F T ⟨⟨fb, ok_behind Fb T h1 h2 h3 h4 (has_row_of F g Fb gb T h1 h2 h3 h4 n), Fb.binds fun _ _ _ _ _ _ us hl => match us, hl with | [_, _], _ => rfl⟩, Fb.kp, gb⟩, F.binds fun _ _ _ _ _ _ us hl => match us, hl with | [_], _ => rfl⟩, F.kp, g⟩
def sp_whole (a : Ads) : DSp := fun ds W Q E => ∃ c, ds = [chD c] ∧ Good c ∧ NumB c ∧ rowsC c ∧ (∀ r, rowP c = some r → NewR W r Q) ∧ (rowP c = none → ∀ W', (∀ u ob, W u = some ob → W' u = some ob) → E a.NoWhole none W')
theorem ok_whole {fd : FuncData} {f f1 : Addr} (F : Fun K "whole" "whole" s_whole f fd) (T : Txt w K mg a) (h_need_chain : Has P w K mg base (L2.CX P w) 4 "need_chain" a.need_chain ["chain"] sp_need_chain)
    (h_all_makers : Has P w K mg base CX0 5 "all_makers" a.all_makers ["chain"] (sp_all_makers 4)) (h_row_of : Has P w K mg base (L2.CX P w) 41 "row_of" f1 ["chain"] (sp_row a 20)) :
    FnOk P w K mg base (L2.CX P w) 42 f fd ["chain"] (liftSp (sp_whole a)) := by
  refine F.dokX sc_whole (fun ds W Qd Ed h => ?_) (fun cdv A outer s H E W0 ds Qd Ed hr fx h => ?_)
  · obtain ⟨_, rfl, _⟩ := h; rfl
  · obtain ⟨c, rfl, gd, nb, rc, q, qe⟩ := h
    refine ⟨_, (s_cons (s_expr (d_callL h_need_chain (hr.mono (by omega)) (by rfl) (d_cons (d_var 0) d_nil)))
  (s_cons (s_if (t_cmp (op_neA hr.units) s_ne (d_lc rfl sc_whole.nd (i_lst (d_callH h_all_makers (hr.mono (by omega)) (by rfl) (d_cons (d_var 0) d_nil))) (blkOk_by (own := [("maker", 1)]) (N := n_whole) (sc := defScope s_whole) (by decide +kernel)) (simG_name (by decide)) (fun _ _ _ _ _ => pg_name (i := 1) sc_whole.nd rfl (Or.inl rfl)) (fun _ _ _ _ _ => t_one (t_cmp (op_neA hr.units) s_ne (d_ix s_idx (d_var 1) d_int (fun _ _ => rfl)) d_str (nomark _))) (fun _ _ _ _ _ => (d_var 1))) (d_lst d_nil) (nomark _)) (s_one (s_raise rfl (takes_of rfl rfl rfl rfl) (pmk_own PySem.F.excBase_ValueError T.x_NoWhole T.g_NoWhole T.k_NoWhole (raises_own T.b_NoWhole T.t_NoWhole) rfl) fx)) s_nil)
  (s_one (s_ret (d_callE h_row_of (hr.mono (by omega)) (by rfl) fx (takes_of rfl rfl rfl rfl) (d_cons (d_var 0) d_nil)))))), ?_⟩
    have hd := depth_lt c
    have g1 := gd.nm
    have g2 := gd.st
    walk_at "g"
    refine ⟨c, rfl, gd, ?_⟩
    walk_at "g"
    refine ⟨c, rfl, by omega, g1, g2, _, .inl rfl, ?_⟩
    refine lc_done (F := fun p W2 => ∃ acc, W2 p = some (.lst acc) ∧ fNe (D.lst acc) (D.lst []) (del W2 p) fun x W1 => ∃ b, x = D.bl b ∧ if b = true then Ed a.NoWhole none W1 else sp_row a 20 [chD c] W1 (done Qd) Ed) (fun _ => false) (fun d => d) (fun d hd W' Q' _ q' => ?_) (fun d _ h => by cases h) (by rw [List.length_map]; omega) (fun p hp => ?_)
    · obtain ⟨m, hm, rfl⟩ := List.mem_map.mp hd
      obtain ⟨ns, rfl⟩ := rc m hm
      walk_at "g"
      exact q'
    · refine ⟨_, put_same, ?_⟩
      rw [del_put hp, List.filter_eq_nil_iff.mpr (by simp), List.map_nil]
      refine fNe_fine (n := 1) (m := 1) (fine_lst.mpr (by simp)) (fine_lst.mpr (by simp)) (by decide) (by decide) ?_
      rw [eqD_nil]
      refine ⟨_, rfl, ?_⟩
      rw [if_neg (by simp)]
      exact ⟨c, rfl, by omega, gd.ok, rc, nb, g1, g2, fun r e p' W' c1 c2 c3 => done.here (q r e p' W' c1 c2 c3), qe⟩
end
end DL
end
section
set_option maxRecDepth 100000
set_option maxHeartbeats 4000000
namespace DL
open PySem PySem.Spec PyProof.Rows L2
abbrev s__law_same : Stmt := top 48
abbrev n__law_same : List Str := ["_law_found", "_law_due", "_law_k"]
theorem sc__law_same : FnScope n__law_same ["_law_found", "_law_due"] (defScope s__law_same) := ⟨rfl, rfl, rfl, by decide +kernel, rfl, by decide +kernel, by decide +kernel⟩
local macro_rules | `(tactic| walk_at "g") => `(tactic| simp only [hNext, hSeq, hDrop, hRet, hRetN, hIf, hAsg, hPar, kName, kNil, kCons, kTup, gVar, gC, gUn, gOp, gNil, gCons, gN, gTup, gLst, gB, gAnd, gOr, gNot, gTNot, gTAnd, gTOr, gIf, gChain, gCall, gMeth, gFld, hFld, gLc, gLcO, gYes, hFor, iTupG, iLst, iOwn, iR1, iR2, gOwn, fSl, gNone, gPart, rSlTup, rSlLst, rSlStr, gLM, mAppend, mExtend, mPop, mClear, gMake, hKPair, gKGetI, gNotInK, kSub, hRaise,
  fI, fI0, fU, fIsi, fIsi2, fLen, fLenS, fList, fListO, fTuple, fIdx, fCatL, fCatT, fCatO, fIn, fIntB, fMin2, seqOf_lst, seqOf_tup, seqOf_frz, seqOf_put, listOf_lst, listOf_put, wipeD, dstart, List.map_cons, List.map_nil, List.length_cons, List.length_nil, List.cons_append, List.nil_append, List.getElem?_cons_zero, List.getElem?_cons_succ, List.set_cons_zero, List.set_cons_succ, List.replicate_zero, List.replicate_succ, Nat.sub_self,
  fEq_int, fEq_str, fNe_int, fNe_str, fEq_bl, fNe_bl, str_beq, str_inj, String.reduceEq, decide_true, decide_false, Bool.not_true, Bool.not_false, Bool.true_and, Bool.and_true, Bool.false_and, Bool.and_false, Bool.or_true, Bool.true_or, Bool.or_false, Bool.false_or,
  atI_0, atI_1, atI_2, atI_3, cut_1, List.drop_succ_cons, List.drop_zero, Option.some.injEq, exists_eq_left', exists_eq_left, exists_eq_right, exists_eq_right', exists_eq, exists_eq', D.bl.injEq, D.int.injEq, D.str.injEq, D.ty.injEq, D.ref.injEq, D.tup.injEq, D.lst.injEq, D.frz.injEq, Ob.lst.injEq, Ob.ins.injEq, List.cons.injEq, and_true, true_and, and_assoc, exists_and_left, exists_and_right, exists_const, if_true, if_false, reduceIte, Bool.false_eq_true, reduceCtorEq, false_and, and_false, exists_false, false_or, or_false, ne_eq, not_false_eq_true, not_true_eq_false, implies_true, Nat.reduceLeDiff, Nat.reduceAdd, Nat.reduceSub, Nat.reduceEqDiff, sizeLine, Nat.reducePow, List.append_nil, List.length_append, put_put, put_same,
  kb_NoneType_int, kb_NoneType_bool, kb_NoneType_str, kb_NoneType_tuple, kb_NoneType_list, kb_bool_int, kb_bool_bool, kb_bool_str, kb_bool_tuple, kb_bool_list, kb_int_int, kb_int_bool, kb_int_str, kb_int_tuple, kb_int_list, kb_str_int, kb_str_bool, kb_str_str, kb_str_tuple, kb_str_list, kb_tuple_int, kb_tuple_bool, kb_tuple_str, kb_tuple_tuple, kb_tuple_list, kb_list_int, kb_list_bool, kb_list_str, kb_list_tuple, kb_list_list, kindOf_non, kindOf_bl, kindOf_int, kindOf_str, kindOf_tup, kindOf_lst, kindOf_frz, len_0, Int.cast_ofNat_Int, Int.natCast_add, Int.natCast_zero, Int.natCast_one, Int.reduceAdd, Int.reduceSub, Int.reduceLT, Int.reduceLE, Int.reduceBEq, Int.reduceEq, Int.reduceNe, beq_self_eq_true, beq_iff_eq, beq_eq_false_iff_ne, decide_eq_true_eq, decide_eq_false_iff_not, Bool.not_eq_true', Bool.not_eq_false', mkD_count, mkD_row, opD_add, opD_times, opD_keep, opD_drop, opD_take, opD_each, opD_til, opD_unlike, stgD_op, stgD_both, stgD_thn, List.map_map, List.any_cons, List.any_nil, List.all_cons, List.all_nil, inD, eqF, flatD, ixN_1_0, ixN_2_0, ixN_2_1, ixN_3_0, ixN_3_1, ixN_3_2, ixN_4_0, ixN_4_1, ixN_4_2, ixN_4_3, List.length_set, List.dropLast_concat, sf_gives, sf_book, sf_given, sf_put, sf_put1, lp_told1, lp_left1, sf_len, Int.add_sub_cancel, sf_draw, lf_rule, lf_ahead, lf_beside, lf_lost, lf_over, lf_told, lf_last, lf_left, lf_len, lp_over, lp_told, lp_last, lp_left, lf_draw, lf_drawn_by, lf_sought, lf_dropped, lf_told_again, lf_ended, lf_paired, lf_followed, word_num, word_fin, word_long, df_book, df_lost, df_back, df_stuck, df_sources, df_top, df_next, df_drawn, df_undone, df_put_back, df_len, dp_stuck, fTupleT, mPopAt, iZipG, gDGet, hDPut, gNewT, gDisp, gPairs, gSetdT, lv_over, lv_told, lv_last, lv_left, lu_over, lu_told, lu_last, lu_left, ln_own, ln_ld, ld_chain, ld_makers, ld_lost, ld_back, ld_stuck, ld_book, ld_given, ld_own, lp_book, lp_book0, lp_book1, lu_told1, lu_left1, lu_leftS, lp_stuck2, Ob.dk.injEq, Ob.dt.injEq])

/-- the same, list by list, tuple by tuple -/
def Al (W : Wd) : Nat → D → D → Prop
  | 0, x, y => (∃ i, x = .int i ∧ y = .int i) ∨ (∃ s, x = .str s ∧ y = .str s)
  | n + 1, x, y => ((∃ i, x = .int i ∧ y = .int i) ∨ (∃ s, x = .str s ∧ y = .str s)) ∨ ∃ xs ys, ((listOf W x = some xs ∧ listOf W y = some ys) ∨ (x = .tup xs ∧ y = .tup ys)) ∧ xs.length = ys.length ∧ xs.length ≤ 100000 ∧ ∀ (i : Nat) a b, xs[i]? = some a → ys[i]? = some b → Al W n a b
theorem listOf_mono {W W' : Wd} {x : D} {xs : List D} (ag : Agree W W') (h : listOf W x = some xs) : listOf W' x = some xs := by
  cases x with
  | lst ds => exact h
  | ref p =>
    have h : (match W p with | some (.lst ds) => some ds | _ => none) = some xs := h
    show (match W' p with | some (.lst ds) => some ds | _ => none) = some xs
    split at h
    · rename_i e
      rw [ag _ _ e]
      exact h
    · cases h
  | _ => cases h
theorem Al.mono {W W' : Wd} (ag : Agree W W') : ∀ {n : Nat} {x y : D}, Al W n x y → Al W' n x y
  | 0, _, _, h => h
  | n + 1, x, y, .inl h => .inl h
  | n + 1, x, y, .inr ⟨xs, ys, h1, h2, h3, h4⟩ => .inr ⟨xs, ys, h1.imp (fun ⟨a, b⟩ => ⟨listOf_mono ag a, listOf_mono ag b⟩) id, h2, h3, fun i a b e1 e2 => Al.mono ag (h4 i a b e1 e2)⟩
theorem kind_lst {W : Wd} {x : D} {xs : List D} (h : listOf W x = some xs) : kindOf W x = some "list" ∧ seqOf W x = some xs := by
  cases x with
  | lst ds => cases h; exact ⟨rfl, rfl⟩
  | ref p =>
    have h : (match W p with | some (.lst ds) => some ds | _ => none) = some xs := h
    split at h
    · rename_i e
      cases h
      exact ⟨by simp [kindOf, e], by simp [seqOf, e]⟩
    · cases h
  | _ => cases h
def sp_same (n : Nat) : DSp := fun ds W Q _ => ∃ x y, ds = [x, y] ∧ Al W n x y ∧ Q (.bl true) W
section
variable {P : Program} {w : World} {K : PySem.W.Frag} {mg : Str → Option Value} {base : Heap} {a : Ads} {b : LawAds} {n : Nat}
theorem has_same {fd : FuncData} {f : Addr} (F : Fun K "_law_same" "_law_same" s__law_same f fd) (g : mg "_law_same" = some (.ref f)) (T : Txt w K mg a) : ∀ n, Has P w K mg base CX0 (n + 1) "_law_same" f ["_law_found", "_law_due"] (sp_same n) := by
  intro n
  have body : ∀ n, (∀ m, n = m + 1 → Has P w K mg base CX0 n "_law_same" f ["_law_found", "_law_due"] (sp_same m)) → Has P w K mg base CX0 (n + 1) "_law_same" f ["_law_found", "_law_due"] (sp_same n) := by
    intro n ih
    refine ⟨⟨fd, ?_, F.binds fun _ _ _ _ _ _ us hl => match us, hl with | [_, _], _ => rfl⟩, F.kp, g⟩
    have h__law_same : Has P w K mg base CX0 n "_law_same" f ["_law_found", "_law_due"] (fun ds W Q E => ∃ m, n = m + 1 ∧ sp_same m ds W Q E) := by
      cases n with
      | zero => exact ⟨⟨fd, FnOk.never fun _ _ _ _ ⟨_, h, _⟩ => by omega, F.binds fun _ _ _ _ _ _ us hl => match us, hl with | [_, _], _ => rfl⟩, F.kp, g⟩
      | succ m => exact (ih m rfl).imp fun ds W Q E ⟨m', e, h⟩ => by cases e; exact h
    refine F.dok sc__law_same (fun ds W Qd Ed h => ?_) (fun cdv A outer s H E W0 ds Qd Ed hr h => ?_)
    · obtain ⟨_, _, rfl, _⟩ := h; rfl
    · obtain ⟨x, y, rfl, al, q⟩ := h
      refine ⟨_, (s_cons (s_if (d_test (d_callB call_isiT s_isi2 (by rfl) T.isinstance (by decide +kernel) (d_cons (d_var 1) (d_cons (d_tup (d_cons (d_ty (n := "tuple") (by rfl) T.tuple (by decide +kernel)) (d_cons (d_ty (n := "list") (by rfl) T.list (by decide +kernel)) d_nil))) d_nil)))) (s_cons (s_if (t_bool (w_or (t_not (d_test (d_callB call_isiT s_isi2 (by rfl) T.isinstance (by decide +kernel) (d_cons (d_var 0) (d_cons (d_tup (d_cons (d_ty (n := "tuple") (by rfl) T.tuple (by decide +kernel)) (d_cons (d_ty (n := "list") (by rfl) T.list (by decide +kernel)) d_nil))) d_nil))))) (w_or1 (t_cmp (op_neA hr.units) s_ne (d_callB call_isi s_isi (by rfl) T.isinstance (by decide +kernel) (d_cons (d_var 0) (d_cons (d_ty (n := "list") (by rfl) T.list (by decide +kernel)) d_nil))) (d_callB call_isi s_isi (by rfl) T.isinstance (by decide +kernel) (d_cons (d_var 1) (d_cons (d_ty (n := "list") (by rfl) T.list (by decide +kernel)) d_nil))) (nomark _))))) (s_one (s_ret d_bl)) s_nil)
  (s_cons (s_if (t_cmp (op_neA hr.units) s_ne (d_callB call_len_seq s_len (by rfl) T.len PySem.boot_len (d_cons (d_var 0) d_nil)) (d_callB call_len_seq s_len (by rfl) T.len PySem.boot_len (d_cons (d_var 1) d_nil)) (nomark _)) (s_one (s_ret d_bl)) s_nil)
  (s_one (s_ret (d_cmp (op_eqA hr.units) s_eq (d_lc rfl sc__law_same.nd (i_r1 (by rfl) T.range (d_cons (d_callB call_len_seq s_len (by rfl) T.len PySem.boot_len (d_cons (d_var 1) d_nil)) d_nil)) (blkOk_by (own := [("_law_k", 2)]) (N := n__law_same) (sc := defScope s__law_same) (by decide +kernel)) (simG_name (by decide)) (fun _ _ _ _ _ => pg_name (i := 2) sc__law_same.nd rfl (Or.inl rfl)) (fun _ _ _ _ _ => t_one (t_not (d_test (d_callH h__law_same (hr.mono (by omega)) (by rfl) (d_cons (d_ix s_idx (d_var 0) (d_var 2) (fun _ _ => rfl)) (d_cons (d_ix s_idx (d_var 1) (d_var 2) (fun _ _ => rfl)) d_nil)))))) (fun _ _ _ _ _ => (d_var 2))) (d_lst d_nil) (nomark _)))))) s_nil)
  (s_cons (s_if (t_cmp op_isN s_isN (d_var 1) d_non (nomark _)) (s_one (s_ret (d_cmp op_isN s_isN (d_var 0) d_non (nomark _)))) s_nil)
  (s_cons (s_if (d_test (d_callB call_isi s_isi (by rfl) T.isinstance (by decide +kernel) (d_cons (d_var 1) (d_cons (d_ty (n := "str") (by rfl) T.str (by decide +kernel)) d_nil)))) (s_one (s_ret (d_and (d_callB call_isi s_isi (by rfl) T.isinstance (by decide +kernel) (d_cons (d_var 0) (d_cons (d_ty (n := "str") (by rfl) T.str (by decide +kernel)) d_nil))) (d_one (d_cmp (op_eqA hr.units) s_eq (d_var 0) (d_var 1) (nomark _)))))) s_nil)
  (s_cons (s_if (t_bool (w_or (d_test (d_callB call_isi s_isi (by rfl) T.isinstance (by decide +kernel) (d_cons (d_var 1) (d_cons (d_ty (n := "bool") (by rfl) T.bool (by decide +kernel)) d_nil)))) (w_or1 (d_test (d_callB call_isi s_isi (by rfl) T.isinstance (by decide +kernel) (d_cons (d_var 0) (d_cons (d_ty (n := "bool") (by rfl) T.bool (by decide +kernel)) d_nil))))))) (s_one (s_ret (d_and (d_callB call_isi s_isi (by rfl) T.isinstance (by decide +kernel) (d_cons (d_var 1) (d_cons (d_ty (n := "bool") (by rfl) T.bool (by decide +kernel)) d_nil))) (d_and (d_callB call_isi s_isi (by rfl) T.isinstance (by decide +kernel) (d_cons (d_var 0) (d_cons (d_ty (n := "bool") (by rfl) T.bool (by decide +kernel)) d_nil))) (d_one (d_cmp (op_eqA hr.units) s_eq (d_var 0) (d_var 1) (nomark _))))))) s_nil)
  (s_one (s_ret (d_and (d_callB call_isi s_isi (by rfl) T.isinstance (by decide +kernel) (d_cons (d_var 0) (d_cons (d_ty (n := "int") (by rfl) T.int (by decide +kernel)) d_nil))) (d_one (d_cmp (op_eqA hr.units) s_eq (d_var 0) (d_var 1) (nomark _)))))))))), ?_⟩
      have sc : ((∃ i, x = .int i ∧ y = .int i) ∨ (∃ s, x = .str s ∧ y = .str s)) ∨ ∃ m xs ys, n = m + 1 ∧ ((listOf W0 x = some xs ∧ listOf W0 y = some ys) ∨ (x = .tup xs ∧ y = .tup ys)) ∧ xs.length = ys.length ∧ xs.length ≤ 100000 ∧ ∀ (i : Nat) a b, xs[i]? = some a → ys[i]? = some b → Al W0 m a b := by
        cases n with
        | zero => exact .inl al
        | succ m =>
          rcases al with h | ⟨xs, ys, h⟩
          · exact .inl h
          · exact .inr ⟨m, xs, ys, rfl, h⟩
      rcases sc with (⟨i, rfl, rfl⟩ | ⟨s, rfl, rfl⟩) | ⟨m, xs, ys, rfl, h1, hl, hm, h2⟩
      · walk_at "g"
        repeat (simp only [fIsN]; try walk_at "g")
        exact done.here q
      · walk_at "g"
        repeat (simp only [fIsN]; try walk_at "g")
        exact done.here q
      · have k1 : ∃ k, kindOf W0 x = some k ∧ kindOf W0 y = some k ∧ (k = "list" ∨ k = "tuple") := by
          rcases h1 with ⟨a, b⟩ | ⟨rfl, rfl⟩
          · exact ⟨"list", (kind_lst a).1, (kind_lst b).1, .inl rfl⟩
          · exact ⟨"tuple", rfl, rfl, .inr rfl⟩
        have k2 : seqOf W0 x = some xs ∧ seqOf W0 y = some ys := by
          rcases h1 with ⟨a, b⟩ | ⟨rfl, rfl⟩
          · exact ⟨(kind_lst a).2, (kind_lst b).2⟩
          · exact ⟨rfl, rfl⟩
        obtain ⟨k, kx, ky, kk⟩ := k1
        obtain ⟨sx, sy⟩ := k2
        rcases kk with rfl | rfl
        all_goals
          walk_at "g"
          repeat (simp only [kx, ky, sx, sy]; try walk_at "g")
          rw [if_neg (by omega)]
          refine ⟨by omega, by omega, ?_⟩
          refine lc_done (fun _ => false) (fun d => d) (fun d hd W' Q' ag q' => ?_) (fun d _ h => by cases h) (by rw [List.length_map, List.length_range]; omega) (fun p hp => ?_)
          · obtain ⟨i, hi, rfl⟩ := List.mem_map.mp hd
            have hi := List.mem_range.mp hi
            rw [Int.toNat_natCast] at hi
            obtain ⟨sx', sy'⟩ : seqOf W' x = some xs ∧ seqOf W' y = some ys := by
              rcases h1 with ⟨a, b⟩ | ⟨rfl, rfl⟩
              · exact ⟨(kind_lst (listOf_mono ag a)).2, (kind_lst (listOf_mono ag b)).2⟩
              · exact ⟨rfl, rfl⟩
            have ex : xs[i]? = some (xs[i]'(by omega)) := List.getElem?_eq_getElem (by omega)
            have ey : ys[i]? = some ys[i] := List.getElem?_eq_getElem hi
            walk_at "g"
            exact ⟨xs, sx', _, atI_nat ex, ys, sy', _, atI_nat ey, xs[i]'(by omega), ys[i], rfl, (h2 i _ _ ex ey).mono ag, _, rfl, q'⟩
          · refine ⟨_, put_same, ?_⟩
            rw [del_put hp, List.filter_eq_nil_iff.mpr (by simp), List.map_nil]
            refine fEq_fine (n := 1) (m := 1) (fine_lst.mpr (by simp)) (fine_lst.mpr (by simp)) (by decide) (by decide) ?_
            exact done.here q
  induction n with
  | zero => exact body 0 (fun m e => by cases e)
  | succ n ih => exact body (n + 1) (fun m e => by cases e; exact ih)
end
end DL
end
section
set_option maxRecDepth 100000
set_option maxHeartbeats 4000000
namespace DL
open PySem PySem.Spec PyProof.Rows L2
abbrev s__law_kind : Stmt := top 49
abbrev n__law_kind : List Str := ["_law_work", "e", "_law_kinds", "_law_word"]
theorem sc__law_kind : FnScope n__law_kind ["_law_work"] (defScope s__law_kind) := ⟨rfl, rfl, rfl, by decide +kernel, rfl, by decide +kernel, by decide +kernel⟩
local macro_rules | `(tactic| walk_at "g") => `(tactic| simp only [hNext, hSeq, hDrop, hRet, hRetN, hIf, hAsg, hPar, kName, kNil, kCons, kTup, gVar, gC, gUn, gOp, gNil, gCons, gN, gTup, gLst, gB, gAnd, gOr, gNot, gTNot, gTAnd, gTOr, gIf, gChain, gCall, gMeth, gFld, hFld, gLc, gLcO, gYes, hFor, iTupG, iLst, iOwn, iR1, iR2, gOwn, fSl, gNone, gPart, rSlTup, rSlLst, rSlStr, gLM, mAppend, mExtend, mPop, mClear, gMake, hKPair, gKGetI, gNotInK, kSub, hRaise,
  fI, fI0, fU, fIsi, fIsi2, fLen, fLenS, fList, fListO, fTuple, fIdx, fCatL, fCatT, fCatO, fIn, fIntB, fMin2, seqOf_lst, seqOf_tup, seqOf_frz, seqOf_put, listOf_lst, listOf_put, wipeD, dstart, List.map_cons, List.map_nil, List.length_cons, List.length_nil, List.cons_append, List.nil_append, List.getElem?_cons_zero, List.getElem?_cons_succ, List.set_cons_zero, List.set_cons_succ, List.replicate_zero, List.replicate_succ, Nat.sub_self,
  fEq_int, fEq_str, fNe_int, fNe_str, fEq_bl, fNe_bl, str_beq, str_inj, String.reduceEq, decide_true, decide_false, Bool.not_true, Bool.not_false, Bool.true_and, Bool.and_true, Bool.false_and, Bool.and_false, Bool.or_true, Bool.true_or, Bool.or_false, Bool.false_or,
  atI_0, atI_1, atI_2, atI_3, cut_1, List.drop_succ_cons, List.drop_zero, Option.some.injEq, exists_eq_left', exists_eq_left, exists_eq_right, exists_eq_right', exists_eq, exists_eq', D.bl.injEq, D.int.injEq, D.str.injEq, D.ty.injEq, D.ref.injEq, D.tup.injEq, D.lst.injEq, D.frz.injEq, Ob.lst.injEq, Ob.ins.injEq, List.cons.injEq, and_true, true_and, and_assoc, exists_and_left, exists_and_right, exists_const, if_true, if_false, reduceIte, Bool.false_eq_true, reduceCtorEq, false_and, and_false, exists_false, false_or, or_false, ne_eq, not_false_eq_true, not_true_eq_false, implies_true, Nat.reduceLeDiff, Nat.reduceAdd, Nat.reduceSub, Nat.reduceEqDiff, sizeLine, Nat.reducePow, List.append_nil, List.length_append, put_put, put_same,
  kb_NoneType_int, kb_NoneType_bool, kb_NoneType_str, kb_NoneType_tuple, kb_NoneType_list, kb_bool_int, kb_bool_bool, kb_bool_str, kb_bool_tuple, kb_bool_list, kb_int_int, kb_int_bool, kb_int_str, kb_int_tuple, kb_int_list, kb_str_int, kb_str_bool, kb_str_str, kb_str_tuple, kb_str_list, kb_tuple_int, kb_tuple_bool, kb_tuple_str, kb_tuple_tuple, kb_tuple_list, kb_list_int, kb_list_bool, kb_list_str, kb_list_tuple, kb_list_list, kindOf_non, kindOf_bl, kindOf_int, kindOf_str, kindOf_tup, kindOf_lst, kindOf_frz, len_0, Int.cast_ofNat_Int, Int.natCast_add, Int.natCast_zero, Int.natCast_one, Int.reduceAdd, Int.reduceSub, Int.reduceLT, Int.reduceLE, Int.reduceBEq, Int.reduceEq, Int.reduceNe, beq_self_eq_true, beq_iff_eq, beq_eq_false_iff_ne, decide_eq_true_eq, decide_eq_false_iff_not, Bool.not_eq_true', Bool.not_eq_false', mkD_count, mkD_row, opD_add, opD_times, opD_keep, opD_drop, opD_take, opD_each, opD_til, opD_unlike, stgD_op, stgD_both, stgD_thn, List.map_map, List.any_cons, List.any_nil, List.all_cons, List.all_nil, inD, eqF, flatD, ixN_1_0, ixN_2_0, ixN_2_1, ixN_3_0, ixN_3_1, ixN_3_2, ixN_4_0, ixN_4_1, ixN_4_2, ixN_4_3, List.length_set, List.dropLast_concat, sf_gives, sf_book, sf_given, sf_put, sf_put1, lp_told1, lp_left1, sf_len, Int.add_sub_cancel, sf_draw, lf_rule, lf_ahead, lf_beside, lf_lost, lf_over, lf_told, lf_last, lf_left, lf_len, lp_over, lp_told, lp_last, lp_left, lf_draw, lf_drawn_by, lf_sought, lf_dropped, lf_told_again, lf_ended, lf_paired, lf_followed, word_num, word_fin, word_long, df_book, df_lost, df_back, df_stuck, df_sources, df_top, df_next, df_drawn, df_undone, df_put_back, df_len, dp_stuck, fTupleT, mPopAt, iZipG, gDGet, hDPut, gNewT, gDisp, gPairs, gSetdT, lv_over, lv_told, lv_last, lv_left, lu_over, lu_told, lu_last, lu_left, ln_own, ln_ld, ld_chain, ld_makers, ld_lost, ld_back, ld_stuck, ld_book, ld_given, ld_own, lp_book, lp_book0, lp_book1, lu_told1, lu_left1, lu_leftS, lp_stuck2, Ob.dk.injEq, Ob.dt.injEq])

def kinds (a : Ads) : List (Str × Addr) := [(Str.ofString "BadChain", a.BadChain), (Str.ofString "BadMany", a.BadMany), (Str.ofString "NoWhole", a.NoWhole)]
/-- what isinstance says of the refusals -/
structure KindF (K : PySem.W.Frag) (mg : Str → Option Value) (a : Ads) : Prop where
  g_DrawError : mg "DrawError" = some (.ref a.DrawError)
  g_BadText : mg "BadText" = some (.ref a.BadText)
  ValueError : mg "ValueError" = none
  ex : ∀ p ∈ kinds a, PySem.W.exmOne K (.ref p.2) (.ref a.DrawError) = some true
  ec : ∀ p ∈ kinds a, ExcC K p.2
  v : ∀ p ∈ kinds a, PySem.W.kitOne K (.ref p.2) (.type "ValueError") = some true
  t : ∀ p ∈ kinds a, PySem.W.kitOne K (.ref p.2) (.ref a.BadText) = some false
  cc : PySem.W.kitOne K (.ref a.BadChain) (.ref a.BadChain) = some true
  cm : PySem.W.kitOne K (.ref a.BadChain) (.ref a.BadMany) = some false
  cn : PySem.W.kitOne K (.ref a.BadChain) (.ref a.NoWhole) = some false
  mc : PySem.W.kitOne K (.ref a.BadMany) (.ref a.BadChain) = some false
  mm : PySem.W.kitOne K (.ref a.BadMany) (.ref a.BadMany) = some true
  mn : PySem.W.kitOne K (.ref a.BadMany) (.ref a.NoWhole) = some false
  nc : PySem.W.kitOne K (.ref a.NoWhole) (.ref a.BadChain) = some false
  nm : PySem.W.kitOne K (.ref a.NoWhole) (.ref a.BadMany) = some false
  nn : PySem.W.kitOne K (.ref a.NoWhole) (.ref a.NoWhole) = some true
theorem isE_ref {K : PySem.W.Frag} {C a c : Addr} {b : Bool} {W : Wd} {Q : D → Wd → Prop} (h : PySem.W.kitOne K (.ref C) (.ref c) = some b) (q : Q (.bl b) W) : fIsE K C a [.ref a, .ref c] W Q := ⟨b, .inl ⟨c, rfl, h⟩, q⟩
theorem isE_ty {K : PySem.W.Frag} {C a : Addr} {n : String} {b : Bool} {W : Wd} {Q : D → Wd → Prop} (h : PySem.W.kitOne K (.ref C) (.type n) = some b) (q : Q (.bl b) W) : fIsE K C a [.ref a, .ty n] W Q := ⟨b, .inr ⟨n, rfl, h⟩, q⟩
theorem kind_ok {X : Cx} {a : Ads} {q : Str} {g : Addr} {cdg : Value} (T : Txt X.w X.K X.mg a) (KF : KindF X.K X.mg a) :
    LamX.GivesTo X n__law_kind "_law_kind" (defScope s__law_kind) g cdg (defBody s__law_kind) "_law_work" q (TKind (kinds a)) := by
  refine kind_gives (xe := "DrawError") (n := "e") (m := 2) rfl KF.g_DrawError (by decide) (fun f => rfl) rfl (by decide) rfl rfl KF.ex (fun s H ae oe pn p hp hz hf => ⟨_, fun W0 H0 => (s_cons (s_set (i := 2) sc__law_kind.nd rfl (Or.inl rfl) (d_own (d_cons (d_callB (call_isE (KF.ec p hp) hz hf) s_isE (by rfl) T.isinstance (by decide +kernel) (d_cons (d_var 1) (d_cons (d_globR (by rfl) T.g_BadChain rfl) d_nil))) (d_cons (d_callB (call_isE (KF.ec p hp) hz hf) s_isE (by rfl) T.isinstance (by decide +kernel) (d_cons (d_var 1) (d_cons (d_globR (by rfl) T.g_BadMany rfl) d_nil))) (d_cons (d_callB (call_isE (KF.ec p hp) hz hf) s_isE (by rfl) T.isinstance (by decide +kernel) (d_cons (d_var 1) (d_cons (d_globR (by rfl) T.g_NoWhole rfl) d_nil))) (d_cons (d_callB (call_isE (KF.ec p hp) hz hf) s_isE (by rfl) T.isinstance (by decide +kernel) (d_cons (d_var 1) (d_cons (d_globR (by rfl) KF.g_BadText rfl) d_nil))) d_nil))))))
  (s_cons (s_if (t_bool (w_or (t_cmp op_ne s_ne0 (d_lm PySem.F.plainAttrs_list PySem.F.slot_list_count PySem.F.type_list_count mt_countF m_count (d_var 2) (d_cons d_bl d_nil)) d_int (nomark _)) (w_or1 (t_not (d_test (d_callB (call_isE (KF.ec p hp) hz hf) s_isE (by rfl) T.isinstance (by decide +kernel) (d_cons (d_var 1) (d_cons (d_ty (n := "ValueError") (by rfl) KF.ValueError (by decide +kernel)) d_nil)))))))) (s_one (s_ret d_str)) s_nil)
  (s_cons (s_set (i := 3) sc__law_kind.nd rfl (Or.inl rfl) (d_ix s_idx (d_lst (d_cons d_str (d_cons d_str (d_cons d_str (d_cons d_str d_nil))))) (d_lm PySem.F.plainAttrs_list PySem.F.slot_list_index PySem.F.type_list_index mt_index m_index (d_var 2) (d_cons d_bl d_nil)) (fun _ _ => rfl)))
  (s_one (s_ret (d_if (t_cmp op_eq s_eq0 (d_var 3) d_str (nomark _)) (d_tup (d_cons (d_var 3) (d_cons d_never d_nil))) (d_var 3))))))), fun W Q qq => ?_⟩)
  have hv := KF.v p hp
  have ht := KF.t p hp
  have hp' := hp
  simp only [kinds, List.mem_cons, List.not_mem_nil, or_false] at hp'
  have less : ∀ (j : Nat) (ds : List D), ds.length = 4 → (∀ m z, m < j → ds[m]? = some z → z = .bl false) → ∀ (m : Nat) (z : D), m < j → ds[m]? = some z → eqF z (.bl true) = false := fun j ds _ h m z h1 h2 => by rw [h m z h1 h2]; rfl
  have fin : ∀ (ds : List D) (s : Str) (j : Nat) (p1 : Addr) (r : Addr → Wd → Prop), True := fun _ _ _ _ _ => trivial
  rcases hp' with rfl | rfl | rfl
  · walk_at "g"
    refine isE_ref KF.cc (isE_ref KF.cm (isE_ref KF.cn (isE_ref ht ?_)))
    intro p1 hp1
    refine ⟨.bl true, _, rfl, put_same, rfl, rfl, ?_⟩
    show fNe0 (.int ((1 : Nat) : Int)) (.int 1) _ _
    rw [fNe0_int]
    refine ⟨_, rfl, ?_⟩
    rw [if_neg (by decide)]
    refine isE_ty hv ⟨_, rfl, ?_⟩
    rw [if_neg (by decide)]
    refine ⟨⟨_, put_same⟩, .bl true, _, 0, .bl true, rfl, put_same, rfl, rfl, rfl, rfl, (fun m z h => by omega), ?_⟩
    refine ⟨_, rfl, _, rfl, ?_⟩
    rw [fEq0_str]
    refine ⟨_, rfl, ?_⟩
    rw [if_neg (by decide)]
    refine ⟨_, _, Conv.drop _ _ p1, ?_⟩
    rw [del_put hp1]
    exact qq
  · walk_at "g"
    refine isE_ref KF.mc (isE_ref KF.mm (isE_ref KF.mn (isE_ref ht ?_)))
    intro p1 hp1
    refine ⟨.bl true, _, rfl, put_same, rfl, rfl, ?_⟩
    show fNe0 (.int ((1 : Nat) : Int)) (.int 1) _ _
    rw [fNe0_int]
    refine ⟨_, rfl, ?_⟩
    rw [if_neg (by decide)]
    refine isE_ty hv ⟨_, rfl, ?_⟩
    rw [if_neg (by decide)]
    refine ⟨⟨_, put_same⟩, .bl true, _, 1, .bl true, rfl, put_same, rfl, rfl, rfl, rfl, (fun m z h e => by (have : m = 0 := by omega); subst this; cases e; rfl), ?_⟩
    refine ⟨_, rfl, _, rfl, ?_⟩
    rw [fEq0_str]
    refine ⟨_, rfl, ?_⟩
    rw [if_neg (by decide)]
    refine ⟨_, _, Conv.drop _ _ p1, ?_⟩
    rw [del_put hp1]
    exact qq
  · walk_at "g"
    refine isE_ref KF.nc (isE_ref KF.nm (isE_ref KF.nn (isE_ref ht ?_)))
    intro p1 hp1
    refine ⟨.bl true, _, rfl, put_same, rfl, rfl, ?_⟩
    show fNe0 (.int ((1 : Nat) : Int)) (.int 1) _ _
    rw [fNe0_int]
    refine ⟨_, rfl, ?_⟩
    rw [if_neg (by decide)]
    refine isE_ty hv ⟨_, rfl, ?_⟩
    rw [if_neg (by decide)]
    refine ⟨⟨_, put_same⟩, .bl true, _, 2, .bl true, rfl, put_same, rfl, rfl, rfl, rfl, (fun m z h e => by
      rcases (by omega : m = 0 ∨ m = 1) with rfl | rfl
      · cases e; rfl
      · cases e; rfl), ?_⟩
    refine ⟨_, rfl, _, rfl, ?_⟩
    rw [fEq0_str]
    refine ⟨_, rfl, ?_⟩
    rw [if_neg (by decide)]
    refine ⟨_, _, Conv.drop _ _ p1, ?_⟩
    rw [del_put hp1]
    exact qq
open LamX in
/-- _law_kind(lambda: ..) -/
theorem d_kind {X : Cx} {W0 : Wd} {H0 : Hp} {a : Ads} {T : List (Addr × Str)} {gx : XD → GE} {g c Pt : Addr} {fd : FuncData} {k : Nat} {params : Arguments} {body : Expr} {scope : Scope} {p lpos pos : Pos}
    (F : Fun X.K "_law_kind" "_law_kind" s__law_kind g fd) (hm : X.mg "_law_kind" = some (.ref g)) (TX : Txt X.w X.K X.mg a) (KF : KindF X.K X.mg a) (TB : TabB X.base X.mg c Pt) (hcode : X.env.code = .ref c) (hmT : (Pt, X.env.qual ++ "<lambda>") ∈ T) (hu : ∀ p ∈ T, p.1 = Pt → p.2 = X.env.qual ++ "<lambda>")
    (hr : Room (k + 2) X.A) (L : LamS X.env.scope scope) (hdef : defaultsOf params X.env = ([], []))
    (hbind : ∀ (q : Str) (cl : List (Str × Addr)) (pm cv ctv : Value), bindArgs (PySem.W.kla_fn "<lambda>" q params body scope cl pm cv ctv) ⟨[], []⟩ = pure [])
    (hbody : ∀ (A : Around) (outer : List Env) (s : Shared) (H : Hp) (E : XK) (f c' : Addr) (W0 : Wd) (H0 : Hp) (Ed : XD), Room k (A.deeper (lamEnv X scope s.heap.objs.size f c')) → FinX W0 H0 E Ed → DE W0 H0 (lamCx X A outer s H E scope f c') body (gx Ed))
    (hg : Gl X "_law_kind" := by rfl) : DE W0 H0 X (.Call (.Name "_law_kind" p) [.Lambda params body scope lpos] [] pos) (gKind T (kinds a) gx) := by
  obtain ⟨oc, od, kV, doc, pm, an, cdv, ct, osl, rfl, lk, hcd⟩ := F.ex
  exact d_lamcall (a := "_law_work") hg hm F.kp lk hcd (F.binds fun _ _ _ _ _ _ us hl => match us, hl with | [_], _ => rfl) sc__law_kind rfl (Or.inl rfl) (kind_ok TX KF) TB hcode hmT hu hr L hdef hbind hbody
end DL
end
section
set_option maxRecDepth 100000
set_option maxHeartbeats 4000000
namespace DL
open PySem PySem.Spec PyProof.Rows L2
/-- stages, counted -/
structure PtS (m n : Nat) (l : List Stg) : Prop where
  ok : ∀ s ∈ l, okStg s ∧ (numStg s ∧ RowS true s)
  mks : mksL (innOf l) ≤ m
  st : l.length + nstL (innOf l) ≤ n
theorem PtS.nil {m n : Nat} : PtS m n [] := ⟨(fun s hs => by cases hs), Nat.zero_le _, Nat.zero_le _⟩
theorem PtS.app {m n m' n' : Nat} {l l' : List Stg} (a : PtS m n l) (b : PtS m' n' l') : PtS (m + m') (n + n') (l ++ l') := by
  have a2 := a.mks
  have b2 := b.mks
  have a3 := a.st
  have b3 := b.st
  refine ⟨fun s hs => (List.mem_append.mp hs).elim (a.ok s) (b.ok s), ?_, ?_⟩
  · rw [innOf_app, mksL_app]; omega
  · rw [innOf_app, nstL_app, List.length_append]; omega
theorem PtS.op {o : Op} {m n : Nat} (h : okOp o) (k : numOp o) (hn : 1 ≤ n) : PtS m n [.op o] := ⟨fun s hs => by rw [List.mem_singleton.mp hs]; exact ⟨h, k, trivial⟩, Nat.zero_le _, hn⟩
theorem PtS.thn {i : Ch} {m n : Nat} (h : okCh i) (k : NumB i) (r : RowC true i) (hm : i.mks.length ≤ m) (hn : 1 + i.nst ≤ n) : PtS m n [.thn i] :=
  ⟨fun s hs => by rw [List.mem_singleton.mp hs]; exact ⟨h, k, r⟩, by show mksL [i] ≤ m; rw [mksL_one]; exact hm, by show 1 + nstL [i] ≤ n; rw [nstL_one]; exact hn⟩
theorem PtS.both {i : Ch} {m n : Nat} (h : okCh i) (k : NumB i) (r : RowC true i) (hm : i.mks.length ≤ m) (hn : 1 + i.nst ≤ n) : PtS m n [.both i] :=
  ⟨fun s hs => by rw [List.mem_singleton.mp hs]; exact ⟨h, k, r⟩, by show mksL [i] ≤ m; rw [mksL_one]; exact hm, by show 1 + nstL [i] ≤ n; rw [nstL_one]; exact hn⟩
def rowCh (ns : List Int) (l : List Stg) : Ch := bld (.src (.row ns)) l
structure RwOk (m n : Nat) (c : Ch) : Prop where
  gd : Good c
  nb : NumB c
  rc : RowC true c
  mks : c.mks.length ≤ m
  st : c.nst ≤ n
theorem rowC_rows {c : Ch} (h : RowC true c) : rowsC c := fun m hm => h m hm rfl
theorem rowCh_D (ns : List Int) (l : List Stg) : chD (rowCh ns l) = .tup [.tup [.str (Str.ofString "row"), .tup (ns.map D.int)], .tup (l.map stgD)] := by
  have e1 := bld_mk l (.src (.row ns))
  have e2 := stl_bld l (.src (.row ns))
  simp only [Ch.mk, Ch.stl, List.nil_append] at e1 e2
  rw [rowCh, chD_eq, e1, e2]
  rfl
theorem rowCh_ok {m n : Nat} {ns : List Int} {l : List Stg} (p : PtS m n l) (hl : ns.length ≤ 100) (hn : ∀ k ∈ ns, k.natAbs < 2 ^ 150) (hm : m ≤ 3) (hs : n ≤ 12) : RwOk (1 + m) n (rowCh ns l) := by
  have e1 := bld_mk l (.src (.row ns))
  have e2 := stl_bld l (.src (.row ns))
  simp only [Ch.mk, Ch.stl, List.nil_append] at e1 e2
  have k1 := mksL_inn (rowCh ns l)
  have k2 := nst_inn (rowCh ns l)
  rw [show (rowCh ns l).stl = l from e2] at k1 k2
  have p2 := p.mks
  have p3 := p.st
  refine ⟨⟨okCh_iff.mpr ⟨by rw [show (rowCh ns l).mk = _ from e1]; exact hl, fun s h => (p.ok s (by rw [← e2]; exact h)).1⟩, by omega, by omega⟩, num_bld _ _ hn fun s h => (p.ok s h).2.1, row_bld _ _ (fun m' hm' => by rw [List.mem_singleton.mp hm']; exact fun _ => ⟨_, rfl⟩) fun s h => (p.ok s h).2.2, by omega, by omega⟩
theorem small_ints {k : Nat} {B : Nat} (h : k < B) (hB : B ≤ 1000) : ((k : Nat) : Int).natAbs < 2 ^ 150 := by
  have : (1000 : Nat) < 2 ^ 150 := by decide
  omega
theorem al_row {W : Wd} {n : Nat} {x y : D} {l : List Int} (h1 : listOf W x = some (l.map D.int)) (h2 : listOf W y = some (l.map D.int)) (hl : l.length ≤ 100000) : Al W (n + 1) x y := by
  refine .inr ⟨_, _, .inl ⟨h1, h2⟩, rfl, by rw [List.length_map]; exact hl, fun i a b e1 e2 => ?_⟩
  rw [e1] at e2
  cases e2
  rw [List.getElem?_map] at e1
  cases e : l[i]? with
  | none => rw [e] at e1; cases e1
  | some k =>
    rw [e] at e1
    cases e1
    cases n with
    | zero => exact .inl ⟨k, rfl, rfl⟩
    | succ n => exact .inl (.inl ⟨k, rfl, rfl⟩)
def lamQ : Str := ("law" : Str) ++ ".<locals>." ++ "<lambda>"
/-- the law, its lambdas' table at Pt -/
def sp_lawT (Pt : Addr) : DSp := fun ds W Q _ => ∃ ns : List Int, ds = [.frz (ns.map D.int)] ∧ ns.length ≤ 63 ∧ W = put (fun _ => none) Pt (.tbl lamQ) ∧ ∀ W', Q (.bl true) W'
end DL
end
section
set_option maxRecDepth 100000
set_option maxHeartbeats 4000000
namespace DL
open PySem PySem.Spec PyProof.Rows L2
local macro_rules | `(tactic| walk_at "g") => `(tactic| simp only [hNext, hSeq, hDrop, hRet, hRetN, hIf, hAsg, hPar, kName, kNil, kCons, kTup, gVar, gC, gUn, gOp, gNil, gCons, gN, gTup, gLst, gB, gAnd, gOr, gNot, gTNot, gTAnd, gTOr, gIf, gChain, gCall, gMeth, gFld, hFld, gLc, gLcO, gYes, hFor, iTupG, iLst, iOwn, iR1, iR2, gOwn, fSl, gNone, gPart, rSlTup, rSlLst, rSlStr, gLM, mAppend, mExtend, mPop, mClear, gMake, hKPair, gKGetI, gNotInK, kSub, hRaise,
  fI, fI0, fU, fIsi, fIsi2, fLen, fLenS, fList, fListO, fTuple, fIdx, fCatL, fCatT, fCatO, fIn, fIntB, fMin2, seqOf_lst, seqOf_tup, seqOf_frz, seqOf_put, listOf_lst, listOf_put, wipeD, dstart, List.map_cons, List.map_nil, List.length_cons, List.length_nil, List.cons_append, List.nil_append, List.getElem?_cons_zero, List.getElem?_cons_succ, List.set_cons_zero, List.set_cons_succ, List.replicate_zero, List.replicate_succ, Nat.sub_self,
  fEq_int, fEq_str, fNe_int, fNe_str, fEq_bl, fNe_bl, str_beq, str_inj, String.reduceEq, decide_true, decide_false, Bool.not_true, Bool.not_false, Bool.true_and, Bool.and_true, Bool.false_and, Bool.and_false, Bool.or_true, Bool.true_or, Bool.or_false, Bool.false_or,
  atI_0, atI_1, atI_2, atI_3, cut_1, List.drop_succ_cons, List.drop_zero, Option.some.injEq, exists_eq_left', exists_eq_left, exists_eq_right, exists_eq_right', exists_eq, exists_eq', D.bl.injEq, D.int.injEq, D.str.injEq, D.ty.injEq, D.ref.injEq, D.tup.injEq, D.lst.injEq, D.frz.injEq, Ob.lst.injEq, Ob.ins.injEq, List.cons.injEq, and_true, true_and, and_assoc, exists_and_left, exists_and_right, exists_const, if_true, if_false, reduceIte, Bool.false_eq_true, reduceCtorEq, false_and, and_false, exists_false, false_or, or_false, ne_eq, not_false_eq_true, not_true_eq_false, implies_true, Nat.reduceLeDiff, Nat.reduceAdd, Nat.reduceSub, Nat.reduceEqDiff, sizeLine, Nat.reducePow, List.append_nil, List.length_append, put_put, put_same,
  kb_NoneType_int, kb_NoneType_bool, kb_NoneType_str, kb_NoneType_tuple, kb_NoneType_list, kb_bool_int, kb_bool_bool, kb_bool_str, kb_bool_tuple, kb_bool_list, kb_int_int, kb_int_bool, kb_int_str, kb_int_tuple, kb_int_list, kb_str_int, kb_str_bool, kb_str_str, kb_str_tuple, kb_str_list, kb_tuple_int, kb_tuple_bool, kb_tuple_str, kb_tuple_tuple, kb_tuple_list, kb_list_int, kb_list_bool, kb_list_str, kb_list_tuple, kb_list_list, kindOf_non, kindOf_bl, kindOf_int, kindOf_str, kindOf_tup, kindOf_lst, kindOf_frz, len_0, Int.cast_ofNat_Int, Int.natCast_add, Int.natCast_zero, Int.natCast_one, Int.reduceAdd, Int.reduceSub, Int.reduceLT, Int.reduceLE, Int.reduceBEq, Int.reduceEq, Int.reduceNe, beq_self_eq_true, beq_iff_eq, beq_eq_false_iff_ne, decide_eq_true_eq, decide_eq_false_iff_not, Bool.not_eq_true', Bool.not_eq_false', mkD_count, mkD_row, opD_add, opD_times, opD_keep, opD_drop, opD_take, opD_each, opD_til, opD_unlike, stgD_op, stgD_both, stgD_thn, List.map_map, List.any_cons, List.any_nil, List.all_cons, List.all_nil, inD, eqF, flatD, ixN_1_0, ixN_2_0, ixN_2_1, ixN_3_0, ixN_3_1, ixN_3_2, ixN_4_0, ixN_4_1, ixN_4_2, ixN_4_3, List.length_set, List.dropLast_concat])

def wordsL : List Str := ["add", "times", "keep", "drop", "take", "each", "until", "unlike", "both", "then", "row", "count", "Add", "Count", "", "1", "2", "x"].map Str.ofString
inductive Any : Nat → D → Prop
  | int {n : Nat} (i : Int) : Any n (.int i)
  | str {n : Nat} {w : Str} : w ∈ wordsL → Any n (.str w)
  | tup {n : Nat} {ds : List D} : ds.length ≤ 100000 → (∀ d ∈ ds, Any n d) → Any (n + 1) (.tup ds)
theorem words_ok {w : Str} (h : w ∈ wordsL) : PyData.strOk w = true := by
  simp only [wordsL, List.map_cons, List.map_nil, List.mem_cons, List.not_mem_nil, or_false] at h
  rcases h with rfl | rfl | rfl | rfl | rfl | rfl | rfl | rfl | rfl | rfl | rfl | rfl | rfl | rfl | rfl | rfl | rfl | rfl <;> decide +kernel
theorem Any.fine {n : Nat} {d : D} (h : Any n d) : Fine n d := by
  induction h with
  | int i => exact fine_int
  | str h => exact fine_str (words_ok h)
  | tup _ _ ih => exact fine_tup.mpr ih
theorem fEq_is {i : Int} {x : Str} {W : Wd} {Q : D → Wd → Prop} : fEq (.int i) (.str x) W Q = Q (.bl false) W := by simp [fEq, okEq, scalD, res, eqD, pyOf, PyData.eqv]
theorem fNe_is {i : Int} {x : Str} {W : Wd} {Q : D → Wd → Prop} : fNe (.int i) (.str x) W Q = Q (.bl true) W := by simp [fNe, okEq, scalD, res, eqD, pyOf, PyData.eqv]
theorem eqD_ts {ds : List D} {x : Str} : eqD (.tup ds) (.str x) = false := by simp [eqD, pyOf, PyData.eqv]
theorem fEq_ts {n : Nat} {ds : List D} {x : Str} {W : Wd} {Q : D → Wd → Prop} (h : Fine n (.tup ds)) (hn : n ≤ 64) (hx : PyData.strOk x = true) (q : Q (.bl false) W) : fEq (.tup ds) (.str x) W Q := fEq_fine (m := 0) h (fine_str hx) hn (by decide) (by rw [eqD_ts]; exact q)
theorem fNe_ts {n : Nat} {ds : List D} {x : Str} {W : Wd} {Q : D → Wd → Prop} (h : Fine n (.tup ds)) (hn : n ≤ 64) (hx : PyData.strOk x = true) (q : Q (.bl true) W) : fNe (.tup ds) (.str x) W Q := fNe_fine (m := 0) h (fine_str hx) hn (by decide) (by rw [eqD_ts]; exact q)
def mkB : D → Bool
  | .tup (.str w :: r) => if w = Str.ofString "count" then (match r with | [x, y] => isNum x && isNum y | _ => false) else
      if w = Str.ofString "row" then (match r with | [.tup ns] => decide (ns.length ≤ 100) && ns.all isNum | _ => false) else false
  | _ => false
section
variable {P : Program} {w : World} {K : PySem.W.Frag} {mg : Str → Option Value} {base : Heap} {a : Ads}
/-- [x for x in l if not is_number(x)] -/
theorem nums_lcA {j n : Nat} {δ0 : Dt} {W : Wd} {l : List D} {F : Addr → Wd → Prop} (hj : j < δ0.length) (hl : l.length ≤ 1000000) (hf : ∀ d ∈ l, Fine n d) (q : ∀ p, W p = none → F p (put W p (.lst (l.filter fun d => !isNum d)))) :
    ∀ p, W p = none → lcGo p (kName j) (gTNot (gB (gCall sp_is_number XD0 (gCons (gVar j) gNil)))) (gVar j) δ0 l (put W p (.lst [])) (F p) := by
  refine lc_done (fun d => !isNum d) id (fun x hx W' Q' _ q' => ?_) (fun x hx hf W' Q' _ q' => ?_) hl fun p hp => ?_
  · exact ⟨_, List.getElem?_set_self hj, x, n, rfl, hf x hx, _, rfl, q'⟩
  · exact ⟨_, List.getElem?_set_self hj, q'⟩
  · rw [List.map_id]
    exact q p hp
theorem nums_nil {n : Nat} {l : List D} {W : Wd} {p : Addr} {Q : D → Wd → Prop} (hf : ∀ d ∈ l, Fine n d) (hn : n ≤ 60) (hp : W p = none) (q : Q (.bl (l.all isNum)) W) : ∃ acc, put W p (.lst (l.filter fun d => !isNum d)) p = some (.lst acc) ∧ fEq (.lst acc) (.lst []) (del (put W p (.lst (l.filter fun d => !isNum d))) p) Q := by
  refine ⟨_, put_same, ?_⟩
  rw [del_put hp]
  refine fEq_fine (n := n + 1) (m := 1) (fine_lst.mpr fun d hd => hf d (List.mem_filter.mp hd).1) (fine_lst.mpr (by simp)) (by omega) (by omega) ?_
  rw [eqD_nil]
  have e : (List.filter (fun d => !isNum d) l).isEmpty = l.all isNum := by
    rw [Bool.eq_iff_iff, List.isEmpty_iff, List.filter_eq_nil_iff, List.all_eq_true]
    simp
  rw [e]
  exact q
theorem nums_ne {n : Nat} {l : List D} {W : Wd} {p : Addr} {Q : D → Wd → Prop} (hf : ∀ d ∈ l, Fine n d) (hn : n ≤ 60) (hp : W p = none) (q : Q (.bl (!l.all isNum)) W) : ∃ acc, put W p (.lst (l.filter fun d => !isNum d)) p = some (.lst acc) ∧ fNe (.lst acc) (.lst []) (del (put W p (.lst (l.filter fun d => !isNum d))) p) Q := by
  refine ⟨_, put_same, ?_⟩
  rw [del_put hp]
  refine fNe_fine (n := n + 1) (m := 1) (fine_lst.mpr fun d hd => hf d (List.mem_filter.mp hd).1) (fine_lst.mpr (by simp)) (by omega) (by omega) ?_
  rw [eqD_nil]
  have e : (List.filter (fun d => !isNum d) l).isEmpty = l.all isNum := by
    rw [Bool.eq_iff_iff, List.isEmpty_iff, List.filter_eq_nil_iff, List.all_eq_true]
    simp
  rw [e]
  exact q
def sp_mkA : DSp := fun ds W Q _ => ∃ d n, ds = [d] ∧ Any n d ∧ n ≤ 40 ∧ Q (.bl (mkB d)) W
theorem ok_mkA {fd : FuncData} (F : Fun K "is_maker" "is_maker" s_is_maker a.is_maker fd) (T : Txt w K mg a) (h_is_number : Has P w K mg base CX0 1 "is_number" a.is_number ["thing"] sp_is_number) : FnOk P w K mg base CX0 2 a.is_maker fd ["maker"] (liftSp sp_mkA) := by
  refine F.dok sc_is_maker (fun ds W Qd Ed h => ?_) (fun cdv A outer s H E W0 ds Qd Ed hr h => ?_)
  · obtain ⟨d, _, rfl, _⟩ := h; rfl
  · obtain ⟨d, n, rfl, hp, hn, q⟩ := h
    obtain ⟨_, g_MOST_ROW⟩ := T.g_MOST_ROW
    refine ⟨_, (s_cons (s_if (t_bool (w_or (t_not (d_test (d_callB call_isi s_isi (by rfl) T.isinstance (by decide +kernel) (d_cons (d_var 0) (d_cons (d_ty (n := "tuple") (by rfl) T.tuple (by decide +kernel)) d_nil))))) (w_or1 (t_cmp (op_eqA hr.units) s_eq (d_callB call_len_seq s_len (by rfl) T.len PySem.boot_len (d_cons (d_var 0) d_nil)) d_int (nomark _))))) (s_one (s_ret d_bl)) s_nil)
  (s_cons (s_if (t_cmp (op_eqA hr.units) s_eq (d_ix s_idx (d_var 0) d_int (fun _ _ => rfl)) d_str (nomark _)) (s_one (s_ret (d_and (d_cmp (op_eqA hr.units) s_eq (d_callB call_len_seq s_len (by rfl) T.len PySem.boot_len (d_cons (d_var 0) d_nil)) d_int (nomark _)) (d_and (d_callH h_is_number (hr.mono (by omega)) (by rfl) (d_cons (d_ix s_idx (d_var 0) d_int (fun _ _ => rfl)) d_nil)) (d_one (d_callH h_is_number (hr.mono (by omega)) (by rfl) (d_cons (d_ix s_idx (d_var 0) d_int (fun _ _ => rfl)) d_nil))))))) s_nil)
  (s_cons (s_if (t_bool (w_or (t_cmp (op_neA hr.units) s_ne (d_ix s_idx (d_var 0) d_int (fun _ _ => rfl)) d_str (nomark _)) (w_or (t_cmp (op_neA hr.units) s_ne (d_callB call_len_seq s_len (by rfl) T.len PySem.boot_len (d_cons (d_var 0) d_nil)) d_int (nomark _)) (w_or (t_not (d_test (d_callB call_isi s_isi (by rfl) T.isinstance (by decide +kernel) (d_cons (d_ix s_idx (d_var 0) d_int (fun _ _ => rfl)) (d_cons (d_ty (n := "tuple") (by rfl) T.tuple (by decide +kernel)) d_nil))))) (w_or1 (t_cmp op_gt s_gt (d_callB call_len_seq s_len (by rfl) T.len PySem.boot_len (d_cons (d_ix s_idx (d_var 0) d_int (fun _ _ => rfl)) d_nil)) (d_globI (by rfl) g_MOST_ROW ⟨_, rfl⟩) (nomark _))))))) (s_one (s_ret d_bl)) s_nil)
  (s_one (s_ret (d_cmp (op_eqA hr.units) s_eq (d_lc rfl sc_is_maker.nd (i_tup (d_ix s_idx (d_var 0) d_int (fun _ _ => rfl))) (blkOk_by (own := [("number", 1)]) (N := n_is_maker) (sc := defScope s_is_maker) (by decide +kernel)) (simG_name (by decide)) (fun _ _ _ _ _ => pg_name (i := 1) sc_is_maker.nd rfl (Or.inl rfl)) (fun _ _ _ _ _ => t_one (t_not (d_test (d_callH h_is_number (hr.mono (by omega)) (by rfl) (d_cons (d_var 1) d_nil))))) (fun _ _ _ _ _ => (d_var 1))) (d_lst d_nil) (nomark _))))))), ?_⟩
    cases hp with
    | int i => walk_at "g"; exact done.here q
    | str h => walk_at "g"; exact done.here q
    | @tup n ds hl hd =>
      match ds with
      | [] => walk_at "g"; exact done.here q
      | x :: r =>
        have hz : ¬ ((r.length : Int) + 1 = 0) := by omega
        cases hd x List.mem_cons_self with
        | int i =>
          walk_at "g"
          rw [if_neg hz]
          simp only [fEq_is, fNe_is]
          walk_at "g"
          exact done.here q
        | @tup m es hl' hd' =>
          walk_at "g"
          rw [if_neg hz]
          refine fEq_ts (Any.tup hl' hd').fine (by omega) (by decide +kernel) ?_
          walk_at "g"
          refine fNe_ts (Any.tup hl' hd').fine (by omega) (by decide +kernel) ?_
          walk_at "g"
          exact done.here q
        | @str m ww hw =>
          walk_at "g"
          rw [if_neg hz]
          have qf : ∀ b, mkB (.tup (.str ww :: r)) = b → Qd (.bl b) W0 := fun b e => e ▸ q
          by_cases e1 : ww = Str.ofString "count"
          · rw [if_pos e1]
            subst e1
            match r with
            | [] => walk_at "g"; exact done.here q
            | [y] => walk_at "g"; exact done.here q
            | [y, z] =>
              walk_at "g"
              refine ⟨y, n, rfl, (hd y (by simp)).fine, ?_⟩
              have qq : Qd (.bl (isNum y && isNum z)) W0 := q
              cases e3 : isNum y with
              | false =>
                rw [e3] at qq
                walk_at "g"
                exact done.here qq
              | true =>
                rw [e3, Bool.true_and] at qq
                walk_at "g"
                refine ⟨z, n, rfl, (hd z (by simp)).fine, ?_⟩
                exact done.here qq
            | y :: z :: u :: v =>
              walk_at "g"
              rw [if_neg (by omega)]
              exact done.here q
          · rw [if_neg e1]
            by_cases e2 : ww = Str.ofString "row"
            · subst e2
              match r with
              | [] => walk_at "g"; exact done.here q
              | y :: z :: u =>
                walk_at "g"
                rw [if_pos (by omega)]
                exact done.here (qf false (by cases y <;> rfl))
              | [y] =>
                cases hd y (by simp) with
                | int i => walk_at "g"; exact done.here q
                | str h => walk_at "g"; exact done.here q
                | @tup m es hl' hd' =>
                  walk_at "g"
                  have qq : Qd (.bl (decide (es.length ≤ 100) && es.all isNum)) W0 := q
                  by_cases e3 : es.length ≤ 100
                  · rw [if_neg (by omega)]
                    rw [decide_eq_true e3, Bool.true_and] at qq
                    refine nums_lcA (n := m) (by simp) (by omega) (fun d hd => (hd' d hd).fine) fun p hp => ?_
                    exact nums_nil (n := m) (fun d hd => (hd' d hd).fine) (by omega) hp (done.here qq)
                  · rw [if_pos (by omega)]
                    rw [decide_eq_false e3, Bool.false_and] at qq
                    exact done.here qq
            · rw [if_pos e2]
              refine done.here (qf false ?_)
              simp only [mkB, if_neg e1, if_neg e2]
def stB : D → Bool
  | .tup (.str w :: r) =>
    if w = Str.ofString "both" ∨ w = Str.ofString "then" then r.length == 1 else
    if w = Str.ofString "keep" then (match r with | [.int x, .int k] => decide (2 ≤ k) && decide (k ≤ 1000) && decide (0 ≤ x) && decide (x < k) | _ => false) else
    if w = Str.ofString "drop" ∨ w = Str.ofString "take" then (match r with | [.int n] => decide (0 ≤ n) && decide (n ≤ 100) | _ => false) else
    if w = Str.ofString "each" then (match r with | [.int n] => decide (1 ≤ n) && decide (n ≤ 10) | _ => false) else
    if w = Str.ofString "unlike" then r.isEmpty else
    if w = Str.ofString "add" ∨ w = Str.ofString "times" ∨ w = Str.ofString "until" then (match r with | [.int _] => true | _ => false) else false
  | _ => false
theorem stB_num {w : Str} {r : List D} (hw : ¬ (w = Str.ofString "both" ∨ w = Str.ofString "then")) (h : r.all isNum = false) : stB (.tup (.str w :: r)) = false := by
  simp only [stB, if_neg hw]
  split
  · split
    · simp [isNum] at h
    · rfl
  split
  · split
    · simp [isNum] at h
    · rfl
  split
  · split
    · simp [isNum] at h
    · rfl
  split
  · cases r with
    | nil => simp at h
    | cons => rfl
  split
  · split
    · simp [isNum] at h
    · rfl
  · rfl
theorem stB_one {w : Str} {r : List D} (h1 : r.length ≠ 1) (hk : w ≠ Str.ofString "keep") (hu : w ≠ Str.ofString "unlike") : stB (.tup (.str w :: r)) = false := by
  simp only [stB, if_neg hk, if_neg hu]
  split
  · simpa using h1
  split
  · split
    · simp at h1
    · rfl
  split
  · split
    · simp at h1
    · rfl
  split
  · split
    · simp at h1
    · rfl
  · rfl
theorem nums_ints {n : Nat} : ∀ {l : List D}, (∀ d ∈ l, Any n d) → l.all isNum = true → ∃ is : List Int, l = is.map .int
  | [], _, _ => ⟨[], rfl⟩
  | d :: l, hd, h => by
    rw [List.all_cons, Bool.and_eq_true] at h
    obtain ⟨is, e⟩ := nums_ints (fun d hx => hd d (List.mem_cons_of_mem _ hx)) h.2
    cases hd d List.mem_cons_self with
    | int i => exact ⟨i :: is, by rw [e]; rfl⟩
    | str _ => exact absurd h.1 (by simp [isNum])
    | tup _ _ => exact absurd h.1 (by simp [isNum])
def Z0 (K : PySem.W.Frag) (a : Ads) : Prop := ∀ x ∈ (["row", "count", "Add", "Count", "", "1", "2", "x"] : List String), PySem.W.nsIn K a.SIZES (Str.ofString x) = some none
def sp_stA : DSp := fun ds W Q _ => ∃ d n, ds = [d] ∧ Any n d ∧ n ≤ 40 ∧ Q (.bl (stB d)) W
theorem ok_stA {fd : FuncData} (F : Fun K "is_stage" "is_stage" s_is_stage a.is_stage fd) (T : Txt w K mg a) (hz0 : Z0 K a) (h_is_number : Has P w K mg base CX0 1 "is_number" a.is_number ["thing"] sp_is_number) : FnOk P w K mg base CX0 2 a.is_stage fd ["stage"] (liftSp sp_stA) := by
  refine F.dok sc_is_stage (fun ds W Qd Ed h => ?_) (fun cdv A outer s H E W0 ds Qd Ed hr h => ?_)
  · obtain ⟨d, _, rfl, _⟩ := h; rfl
  · obtain ⟨d, n, rfl, hp, hn, q⟩ := h
    obtain ⟨_, g_MOST_WHEEL⟩ := T.g_MOST_WHEEL
    refine ⟨_, (s_cons (s_if (t_bool (w_or (t_not (d_test (d_callB call_isi s_isi (by rfl) T.isinstance (by decide +kernel) (d_cons (d_var 0) (d_cons (d_ty (n := "tuple") (by rfl) T.tuple (by decide +kernel)) d_nil))))) (w_or (t_cmp (op_eqA hr.units) s_eq (d_callB call_len_seq s_len (by rfl) T.len PySem.boot_len (d_cons (d_var 0) d_nil)) d_int (nomark _)) (w_or1 (t_not (d_test (d_callB call_isi s_isi (by rfl) T.isinstance (by decide +kernel) (d_cons (d_ix s_idx (d_var 0) d_int (fun _ _ => rfl)) (d_cons (d_ty (n := "str") (by rfl) T.str (by decide +kernel)) d_nil))))))))) (s_one (s_ret d_bl)) s_nil)
  (s_cons (s_if (t_cmp (op_neA hr.units) s_ne (d_kgetI T.d_SIZES (pe_glob (by rfl) T.g_SIZES rfl) (d_ix s_idx (d_var 0) d_int (fun _ _ => rfl)) d_int ⟨rfl, rfl, rfl, rfl⟩) (d_callB call_len_seq s_len (by rfl) T.len PySem.boot_len (d_cons (d_var 0) d_nil)) (nomark _)) (s_one (s_ret d_bl)) s_nil)
  (s_cons (s_if (t_cmp op_in_seq s_in (d_ix s_idx (d_var 0) d_int (fun _ _ => rfl)) (d_tup (d_cons d_str (d_cons d_str d_nil))) (by rfl)) (s_one (s_ret d_bl)) s_nil)
  (s_cons (s_if (t_cmp (op_neA hr.units) s_ne (d_lc rfl sc_is_stage.nd (i_tup (d_slice sl_tupA sl_T (d_var 0) (o_some d_int) o_none)) (blkOk_by (own := [("number", 3)]) (N := n_is_stage) (sc := defScope s_is_stage) (by decide +kernel)) (simG_name (by decide)) (fun _ _ _ _ _ => pg_name (i := 3) sc_is_stage.nd rfl (Or.inl rfl)) (fun _ _ _ _ _ => t_one (t_not (d_test (d_callH h_is_number (hr.mono (by omega)) (by rfl) (d_cons (d_var 3) d_nil))))) (fun _ _ _ _ _ => (d_var 3))) (d_lst d_nil) (nomark _)) (s_one (s_ret d_bl)) s_nil)
  (s_cons (s_if (t_cmp (op_eqA hr.units) s_eq (d_ix s_idx (d_var 0) d_int (fun _ _ => rfl)) d_str (nomark _)) (s_one (s_ret (d_and (d_chain op_le s_le op_le s_le d_int (d_ix s_idx (d_var 0) d_int (fun _ _ => rfl)) (d_globI (by rfl) g_MOST_WHEEL ⟨_, rfl⟩)) (d_one (d_chain op_le s_le op_lt s_lt d_int (d_ix s_idx (d_var 0) d_int (fun _ _ => rfl)) (d_ix s_idx (d_var 0) d_int (fun _ _ => rfl))))))) s_nil)
  (s_cons (s_kpair (i := 1) (j := 2) T.d_BOUNDS rfl sc_is_stage.nd rfl rfl (Or.inl rfl) (Or.inl rfl) (pe_glob (by rfl) T.g_BOUNDS rfl) (d_ix s_idx (d_var 0) d_int (fun _ _ => rfl)) (pe_tup (pa_cons pe_int (pa_cons pe_int pa_nil))) kpair_zero ⟨rfl, rfl, rfl, rfl⟩)
  (s_one (s_ret (d_or (d_notInK T.d_BOUNDS (d_ix s_idx (d_var 0) d_int (fun _ _ => rfl)) (pe_glob (by rfl) T.g_BOUNDS rfl) (by rfl)) (d_one (d_chain op_le s_le op_le s_le (d_var 1) (d_ix s_idx (d_var 0) d_int (fun _ _ => rfl)) (d_var 2)))))))))))), ?_⟩
    cases hp with
    | int i => walk_at "g"; exact done.here q
    | str h => walk_at "g"; exact done.here q
    | @tup n ds hl hd =>
      match ds with
      | [] => walk_at "g"; exact done.here q
      | x :: r =>
        have hz : ¬ ((r.length : Int) + 1 = 0) := by omega
        cases hd x List.mem_cons_self with
        | int i =>
          walk_at "g"
          rw [if_neg hz]
          exact done.here q
        | @tup m es hl' hd' =>
          walk_at "g"
          rw [if_neg hz]
          exact done.here q
        | @str m ww hw =>
          have qf : ∀ b, stB (.tup (.str ww :: r)) = b → Qd (.bl b) W0 := fun b e => e ▸ q
          have ha : ∀ d ∈ r, Any n d := fun d hx => hd d (List.mem_cons_of_mem _ hx)
          have hf : ∀ d ∈ r, Fine n d := fun d hx => (ha d hx).fine
          have hlr : r.length ≤ 100000 := by rw [List.length_cons] at hl; omega
          have hw' := hw
          simp only [wordsL, List.map_cons, List.map_nil, List.mem_cons, List.not_mem_nil, or_false] at hw'
          rcases hw' with rfl | rfl | rfl | rfl | rfl | rfl | rfl | rfl | rfl | rfl | rfl | rfl | rfl | rfl | rfl | rfl | rfl | rfl
          · obtain ⟨t, z⟩ := T.z ("add", 2) (by simp)
            walk_at "g"
            rw [if_neg hz]
            refine .inl ⟨2, ⟨t, z⟩, ?_⟩
            by_cases hr : r.length + 1 = 2
            · rw [if_neg (by omega)]
              refine nums_lcA (n := n) (by simp) (by omega) hf fun p hp => nums_ne (n := n) hf (by omega) hp ?_
              cases e : r.all isNum with
              | false =>
                walk_at "g"
                exact done.here (qf false (stB_num (by decide +kernel) e))
              | true =>
                obtain ⟨is, rfl⟩ := nums_ints ha e
                match is, hr with
                | [i], _ =>
                  walk_at "g"
                  exact .inr ⟨T.b0 "add" (by simp), none, T.b0 "add" (by simp), done.here (qf true rfl)⟩
            · rw [if_pos (by omega)]
              exact done.here (qf false (stB_one (by omega) (by decide +kernel) (by decide +kernel)))
          · obtain ⟨t, z⟩ := T.z ("times", 2) (by simp)
            walk_at "g"
            rw [if_neg hz]
            refine .inl ⟨2, ⟨t, z⟩, ?_⟩
            by_cases hr : r.length + 1 = 2
            · rw [if_neg (by omega)]
              refine nums_lcA (n := n) (by simp) (by omega) hf fun p hp => nums_ne (n := n) hf (by omega) hp ?_
              cases e : r.all isNum with
              | false =>
                walk_at "g"
                exact done.here (qf false (stB_num (by decide +kernel) e))
              | true =>
                obtain ⟨is, rfl⟩ := nums_ints ha e
                match is, hr with
                | [i], _ =>
                  walk_at "g"
                  exact .inr ⟨T.b0 "times" (by simp), none, T.b0 "times" (by simp), done.here (qf true rfl)⟩
            · rw [if_pos (by omega)]
              exact done.here (qf false (stB_one (by omega) (by decide +kernel) (by decide +kernel)))
          · obtain ⟨t, z⟩ := T.z ("keep", 3) (by simp)
            walk_at "g"
            rw [if_neg hz]
            refine .inl ⟨3, ⟨t, z⟩, ?_⟩
            by_cases hr : r.length + 1 = 3
            · rw [if_neg (by omega)]
              refine nums_lcA (n := n) (by simp) (by omega) hf fun p hp => nums_ne (n := n) hf (by omega) hp ?_
              cases e : r.all isNum with
              | false =>
                walk_at "g"
                exact done.here (qf false (stB_num (by decide +kernel) e))
              | true =>
                obtain ⟨is, rfl⟩ := nums_ints ha e
                match is, hr with
                | [i, k], _ =>
                  walk_at "g"
                  have qq : Qd (.bl (decide (2 ≤ k) && decide (k ≤ 1000) && decide (0 ≤ i) && decide (i < k))) W0 := q
                  by_cases h1 : 2 ≤ k
                  · rw [if_pos h1]
                    rw [decide_eq_true h1, Bool.true_and] at qq
                    by_cases h2 : k ≤ 1000
                    · rw [if_pos h2]
                      rw [decide_eq_true h2, Bool.true_and] at qq
                      by_cases h3 : 0 ≤ i
                      · rw [if_pos h3]
                        rw [decide_eq_true h3, Bool.true_and] at qq
                        exact done.here qq
                      · rw [if_neg h3]
                        rw [decide_eq_false h3, Bool.false_and] at qq
                        exact done.here qq
                    · rw [if_neg h2]
                      rw [decide_eq_false h2, Bool.false_and, Bool.false_and] at qq
                      exact done.here qq
                  · rw [if_neg h1]
                    rw [decide_eq_false h1, Bool.false_and, Bool.false_and, Bool.false_and] at qq
                    exact done.here qq
            · rw [if_pos (by omega)]
              refine done.here (qf false ?_)
              match r, hr with
              | [], _ => rfl
              | [y], _ => cases y <;> rfl
              | [_, _], h => exact absurd rfl h
              | y :: z :: u :: v, _ => cases y <;> cases z <;> rfl
          · obtain ⟨t, z⟩ := T.z ("drop", 2) (by simp)
            obtain ⟨q0, hb, hs⟩ := T.b ("drop", 0, 100) (by simp)
            walk_at "g"
            rw [if_neg hz]
            refine .inl ⟨2, ⟨t, z⟩, ?_⟩
            by_cases hr : r.length + 1 = 2
            · rw [if_neg (by omega)]
              refine nums_lcA (n := n) (by simp) (by omega) hf fun p hp => nums_ne (n := n) hf (by omega) hp ?_
              cases e : r.all isNum with
              | false =>
                walk_at "g"
                exact done.here (qf false (stB_num (by decide +kernel) e))
              | true =>
                obtain ⟨is, rfl⟩ := nums_ints ha e
                match is, hr with
                | [i], _ =>
                  walk_at "g"
                  refine .inl ⟨q0, hb, 0, 100, hs, _, hb, ?_⟩
                  have qq : Qd (.bl (decide (0 ≤ i) && decide (i ≤ 100))) W0 := q
                  rw [if_neg (by simp)]
                  by_cases h1 : 0 ≤ i
                  · rw [if_pos h1]
                    rw [decide_eq_true h1, Bool.true_and] at qq
                    exact done.here qq
                  · rw [if_neg h1]
                    rw [decide_eq_false h1, Bool.false_and] at qq
                    exact done.here qq
            · rw [if_pos (by omega)]
              exact done.here (qf false (stB_one (by omega) (by decide +kernel) (by decide +kernel)))
          · obtain ⟨t, z⟩ := T.z ("take", 2) (by simp)
            obtain ⟨q0, hb, hs⟩ := T.b ("take", 0, 100) (by simp)
            walk_at "g"
            rw [if_neg hz]
            refine .inl ⟨2, ⟨t, z⟩, ?_⟩
            by_cases hr : r.length + 1 = 2
            · rw [if_neg (by omega)]
              refine nums_lcA (n := n) (by simp) (by omega) hf fun p hp => nums_ne (n := n) hf (by omega) hp ?_
              cases e : r.all isNum with
              | false =>
                walk_at "g"
                exact done.here (qf false (stB_num (by decide +kernel) e))
              | true =>
                obtain ⟨is, rfl⟩ := nums_ints ha e
                match is, hr with
                | [i], _ =>
                  walk_at "g"
                  refine .inl ⟨q0, hb, 0, 100, hs, _, hb, ?_⟩
                  have qq : Qd (.bl (decide (0 ≤ i) && decide (i ≤ 100))) W0 := q
                  rw [if_neg (by simp)]
                  by_cases h1 : 0 ≤ i
                  · rw [if_pos h1]
                    rw [decide_eq_true h1, Bool.true_and] at qq
                    exact done.here qq
                  · rw [if_neg h1]
                    rw [decide_eq_false h1, Bool.false_and] at qq
                    exact done.here qq
            · rw [if_pos (by omega)]
              exact done.here (qf false (stB_one (by omega) (by decide +kernel) (by decide +kernel)))
          · obtain ⟨t, z⟩ := T.z ("each", 2) (by simp)
            obtain ⟨q0, hb, hs⟩ := T.b ("each", 1, 10) (by simp)
            walk_at "g"
            rw [if_neg hz]
            refine .inl ⟨2, ⟨t, z⟩, ?_⟩
            by_cases hr : r.length + 1 = 2
            · rw [if_neg (by omega)]
              refine nums_lcA (n := n) (by simp) (by omega) hf fun p hp => nums_ne (n := n) hf (by omega) hp ?_
              cases e : r.all isNum with
              | false =>
                walk_at "g"
                exact done.here (qf false (stB_num (by decide +kernel) e))
              | true =>
                obtain ⟨is, rfl⟩ := nums_ints ha e
                match is, hr with
                | [i], _ =>
                  walk_at "g"
                  refine .inl ⟨q0, hb, 1, 10, hs, _, hb, ?_⟩
                  have qq : Qd (.bl (decide (1 ≤ i) && decide (i ≤ 10))) W0 := q
                  rw [if_neg (by simp)]
                  by_cases h1 : 1 ≤ i
                  · rw [if_pos h1]
                    rw [decide_eq_true h1, Bool.true_and] at qq
                    exact done.here qq
                  · rw [if_neg h1]
                    rw [decide_eq_false h1, Bool.false_and] at qq
                    exact done.here qq
            · rw [if_pos (by omega)]
              exact done.here (qf false (stB_one (by omega) (by decide +kernel) (by decide +kernel)))
          · obtain ⟨t, z⟩ := T.z ("until", 2) (by simp)
            walk_at "g"
            rw [if_neg hz]
            refine .inl ⟨2, ⟨t, z⟩, ?_⟩
            by_cases hr : r.length + 1 = 2
            · rw [if_neg (by omega)]
              refine nums_lcA (n := n) (by simp) (by omega) hf fun p hp => nums_ne (n := n) hf (by omega) hp ?_
              cases e : r.all isNum with
              | false =>
                walk_at "g"
                exact done.here (qf false (stB_num (by decide +kernel) e))
              | true =>
                obtain ⟨is, rfl⟩ := nums_ints ha e
                match is, hr with
                | [i], _ =>
                  walk_at "g"
                  exact .inr ⟨T.b0 "until" (by simp), none, T.b0 "until" (by simp), done.here (qf true rfl)⟩
            · rw [if_pos (by omega)]
              exact done.here (qf false (stB_one (by omega) (by decide +kernel) (by decide +kernel)))
          · obtain ⟨t, z⟩ := T.z ("unlike", 1) (by simp)
            walk_at "g"
            rw [if_neg hz]
            refine .inl ⟨1, ⟨t, z⟩, ?_⟩
            by_cases hr : r.length + 1 = 1
            · rw [if_neg (by omega)]
              refine nums_lcA (n := n) (by simp) (by omega) hf fun p hp => nums_ne (n := n) hf (by omega) hp ?_
              cases e : r.all isNum with
              | false =>
                walk_at "g"
                exact done.here (qf false (stB_num (by decide +kernel) e))
              | true =>
                obtain ⟨is, rfl⟩ := nums_ints ha e
                match is, hr with
                | [], _ =>
                  walk_at "g"
                  exact .inr ⟨T.b0 "unlike" (by simp), none, T.b0 "unlike" (by simp), done.here (qf true rfl)⟩
            · rw [if_pos (by omega)]
              refine done.here (qf false ?_)
              match r, hr with
              | [], h => exact absurd rfl h
              | _ :: _, _ => rfl
          · obtain ⟨t, z⟩ := T.z ("both", 2) (by simp)
            walk_at "g"
            rw [if_neg hz]
            refine .inl ⟨2, ⟨t, z⟩, ?_⟩
            by_cases hr : r.length + 1 = 2
            · rw [if_neg (by omega)]
              refine done.here (qf true ?_)
              have e1 : r.length = 1 := by omega
              simp [stB, e1]
            · rw [if_pos (by omega)]
              refine done.here (qf false ?_)
              have e1 : ¬ r.length = 1 := by omega
              simp [stB, e1]
          · obtain ⟨t, z⟩ := T.z ("then", 2) (by simp)
            walk_at "g"
            rw [if_neg hz]
            refine .inl ⟨2, ⟨t, z⟩, ?_⟩
            by_cases hr : r.length + 1 = 2
            · rw [if_neg (by omega)]
              refine done.here (qf true ?_)
              have e1 : r.length = 1 := by omega
              simp [stB, e1]
            · rw [if_pos (by omega)]
              refine done.here (qf false ?_)
              have e1 : ¬ r.length = 1 := by omega
              simp [stB, e1]
          · walk_at "g"
            rw [if_neg hz]
            refine .inr ⟨hz0 "row" (by simp), ?_⟩
            rw [if_pos (by omega)]
            exact done.here (qf false rfl)
          · walk_at "g"
            rw [if_neg hz]
            refine .inr ⟨hz0 "count" (by simp), ?_⟩
            rw [if_pos (by omega)]
            exact done.here (qf false rfl)
          · walk_at "g"
            rw [if_neg hz]
            refine .inr ⟨hz0 "Add" (by simp), ?_⟩
            rw [if_pos (by omega)]
            exact done.here (qf false rfl)
          · walk_at "g"
            rw [if_neg hz]
            refine .inr ⟨hz0 "Count" (by simp), ?_⟩
            rw [if_pos (by omega)]
            exact done.here (qf false rfl)
          · walk_at "g"
            rw [if_neg hz]
            refine .inr ⟨hz0 "" (by simp), ?_⟩
            rw [if_pos (by omega)]
            exact done.here (qf false rfl)
          · walk_at "g"
            rw [if_neg hz]
            refine .inr ⟨hz0 "1" (by simp), ?_⟩
            rw [if_pos (by omega)]
            exact done.here (qf false rfl)
          · walk_at "g"
            rw [if_neg hz]
            refine .inr ⟨hz0 "2" (by simp), ?_⟩
            rw [if_pos (by omega)]
            exact done.here (qf false rfl)
          · walk_at "g"
            rw [if_neg hz]
            refine .inr ⟨hz0 "x" (by simp), ?_⟩
            rw [if_pos (by omega)]
            exact done.here (qf false rfl)
end
end DL
end
section
set_option maxRecDepth 100000
set_option maxHeartbeats 4000000
namespace DL
open PySem PySem.Spec PyProof.Rows L2
local macro_rules | `(tactic| walk_at "g") => `(tactic| simp only [hNext, hSeq, hDrop, hRet, hRetN, hIf, hAsg, hPar, kName, kNil, kCons, kTup, gVar, gC, gUn, gOp, gNil, gCons, gN, gTup, gLst, gB, gAnd, gOr, gNot, gTNot, gTAnd, gTOr, gIf, gChain, gCall, gMeth, gFld, hFld, gLc, gLcO, gYes, hFor, iTupG, iLst, iOwn, iR1, iR2, gOwn, fSl, gNone, gPart, rSlTup, rSlLst, rSlStr, gLM, mAppend, mExtend, mPop, mClear, gMake, hKPair, gKGetI, gNotInK, kSub, hRaise,
  fI, fI0, fU, fIsi, fIsi2, fLen, fLenS, fList, fListO, fTuple, fIdx, fCatL, fCatT, fCatO, fIn, fIntB, fMin2, seqOf_lst, seqOf_tup, seqOf_frz, seqOf_put, listOf_lst, listOf_put, wipeD, dstart, List.map_cons, List.map_nil, List.length_cons, List.length_nil, List.cons_append, List.nil_append, List.getElem?_cons_zero, List.getElem?_cons_succ, List.set_cons_zero, List.set_cons_succ, List.replicate_zero, List.replicate_succ, Nat.sub_self,
  fEq_int, fEq_str, fNe_int, fNe_str, fEq_bl, fNe_bl, str_beq, str_inj, String.reduceEq, decide_true, decide_false, Bool.not_true, Bool.not_false, Bool.true_and, Bool.and_true, Bool.false_and, Bool.and_false, Bool.or_true, Bool.true_or, Bool.or_false, Bool.false_or,
  atI_0, atI_1, atI_2, atI_3, cut_1, List.drop_succ_cons, List.drop_zero, Option.some.injEq, exists_eq_left', exists_eq_left, exists_eq_right, exists_eq_right', exists_eq, exists_eq', D.bl.injEq, D.int.injEq, D.str.injEq, D.ty.injEq, D.ref.injEq, D.tup.injEq, D.lst.injEq, D.frz.injEq, Ob.lst.injEq, Ob.ins.injEq, List.cons.injEq, and_true, true_and, and_assoc, exists_and_left, exists_and_right, exists_const, if_true, if_false, reduceIte, Bool.false_eq_true, reduceCtorEq, false_and, and_false, exists_false, false_or, or_false, ne_eq, not_false_eq_true, not_true_eq_false, implies_true, Nat.reduceLeDiff, Nat.reduceAdd, Nat.reduceSub, Nat.reduceEqDiff, sizeLine, Nat.reducePow, List.append_nil, List.length_append, put_put, put_same,
  kb_NoneType_int, kb_NoneType_bool, kb_NoneType_str, kb_NoneType_tuple, kb_NoneType_list, kb_bool_int, kb_bool_bool, kb_bool_str, kb_bool_tuple, kb_bool_list, kb_int_int, kb_int_bool, kb_int_str, kb_int_tuple, kb_int_list, kb_str_int, kb_str_bool, kb_str_str, kb_str_tuple, kb_str_list, kb_tuple_int, kb_tuple_bool, kb_tuple_str, kb_tuple_tuple, kb_tuple_list, kb_list_int, kb_list_bool, kb_list_str, kb_list_tuple, kb_list_list, kindOf_non, kindOf_bl, kindOf_int, kindOf_str, kindOf_tup, kindOf_lst, kindOf_frz, len_0, Int.cast_ofNat_Int, Int.natCast_add, Int.natCast_zero, Int.natCast_one, Int.reduceAdd, Int.reduceSub, Int.reduceLT, Int.reduceLE, Int.reduceBEq, Int.reduceEq, Int.reduceNe, beq_self_eq_true, beq_iff_eq, beq_eq_false_iff_ne, decide_eq_true_eq, decide_eq_false_iff_not, Bool.not_eq_true', Bool.not_eq_false', mkD_count, mkD_row, opD_add, opD_times, opD_keep, opD_drop, opD_take, opD_each, opD_til, opD_unlike, stgD_op, stgD_both, stgD_thn, List.map_map, List.any_cons, List.any_nil, List.all_cons, List.all_nil, inD, eqF, flatD, ixN_1_0, ixN_2_0, ixN_2_1, ixN_3_0, ixN_3_1, ixN_3_2, ixN_4_0, ixN_4_1, ixN_4_2, ixN_4_3, List.length_set, List.dropLast_concat])

def goodTop : D → Option (List D)
  | .tup [m, .tup ss] => if mkB m && ss.all stB then some ss else none
  | _ => none
def innL (ss : List D) : List D := (ss.filter isInn).map innD
/-- the loop, in plain -/
def runB : Nat → List D → Nat → Nat → Bool
  | 0, _, _, _ => false
  | f + 1, l, x, y => match l.getLast? with
    | none => true
    | some d => match goodTop d with
      | none => false
      | some ss => if 4 < x + 1 ∨ 12 < y + ss.length then false else runB f (l.dropLast ++ innL ss) (x + 1) (y + ss.length)
def chainB (d : D) : Bool := runB 5 [d] 0 0
theorem stB_form {d : D} (h : stB d = true) : ∃ w r, d = .tup (.str w :: r) ∧ (w = Str.ofString "both" ∨ w = Str.ofString "then" → ∃ x, r = [x]) := by
  unfold stB at h
  split at h
  · rename_i w r
    refine ⟨w, r, rfl, fun hw => ?_⟩
    rw [if_pos hw] at h
    match r, h with
    | [x], _ => exact ⟨x, rfl⟩
  · exact absurd h (by simp)
section
variable {P : Program} {w : World} {K : PySem.W.Frag} {mg : Str → Option Value} {base : Heap} {a : Ads}
def sp_inA : DSp := fun ds W Q _ => ∃ ss, ds = [.tup ss] ∧ ss.length ≤ 100 ∧ (∀ s ∈ ss, stB s = true) ∧ Q (.lst (innL ss)) W
theorem ok_inA {fd : FuncData} (F : Fun K "inner_of" "inner_of" s_inner_of a.inner_of fd) (T : Txt w K mg a) : FnOk P w K mg base CX0 1 a.inner_of fd ["stages"] (liftSp sp_inA) := by
  refine F.dok sc_inner_of (fun ds W Qd Ed h => ?_) (fun cdv A outer s H E W0 ds Qd Ed hr h => ?_)
  · obtain ⟨d, rfl, _⟩ := h; rfl
  · obtain ⟨ss, rfl, hl, hs, q⟩ := h
    refine ⟨_, (s_one (s_ret (d_lc rfl sc_inner_of.nd (i_tup (d_var 0)) (blkOk_by (own := [("stage", 1)]) (N := n_inner_of) (sc := defScope s_inner_of) (by decide +kernel)) (simG_name (by decide)) (fun _ _ _ _ _ => pg_name (i := 1) sc_inner_of.nd rfl (Or.inl rfl)) (fun _ _ _ _ _ => t_one (t_cmp op_in_seq s_in (d_ix s_idx (d_var 1) d_int (fun _ _ => rfl)) (d_tup (d_cons d_str (d_cons d_str d_nil))) (by rfl))) (fun _ _ _ _ _ => (d_ix s_idx (d_var 1) d_int (fun _ _ => rfl)))))), ?_⟩
    walk_at "g"
    refine lc_done isInn innD (fun x hx W' Q' _ q' => ?_) (fun x hx hf W' Q' _ q' => ?_) (by omega) fun p hp => ⟨_, put_same, ?_⟩
    · obtain ⟨w, r, rfl, hw⟩ := stB_form (hs x hx)
      walk_at "g"
      have e : isInn (.tup (.str w :: r)) = (Str.ofString "both" == w || Str.ofString "then" == w) := by
        show inD _ _ = _
        simp [inD, eqF, List.any_cons, str_beq, Bool.beq_comm]
      rw [← e]
      exact q'
    · obtain ⟨w, r, rfl, hw⟩ := stB_form (hs x hx)
      walk_at "g"
      have e : isInn (.tup (.str w :: r)) = (Str.ofString "both" == w || Str.ofString "then" == w) := by
        show inD _ _ = _
        simp [inD, eqF, List.any_cons, str_beq, Bool.beq_comm]
      rw [e] at hf
      obtain ⟨x, rfl⟩ := hw (by rw [Bool.or_eq_true, beq_iff_eq, beq_iff_eq] at hf; exact hf.imp Eq.symm Eq.symm)
      exact ⟨x, rfl, q'⟩
    · rw [del_put hp]
      exact done.here q
theorem Any.mono {n m : Nat} {d : D} (h : Any n d) : n ≤ m → Any m d := by
  induction h generalizing m with
  | int i => exact fun _ => .int i
  | str h => exact fun _ => .str h
  | tup hl _ ih =>
    intro hm
    obtain ⟨k, rfl⟩ := Nat.exists_eq_succ_of_ne_zero (by omega : m ≠ 0)
    exact .tup hl fun d hd => ih d hd (by omega)
theorem innL_any {n : Nat} {ss : List D} (h : ∀ s ∈ ss, Any n s) (hs : ∀ s ∈ ss, stB s = true) : ∀ d ∈ innL ss, Any n d := by
  intro d hd
  obtain ⟨s, hs', rfl⟩ := List.mem_map.mp hd
  obtain ⟨hm, hi⟩ := List.mem_filter.mp hs'
  obtain ⟨w, r, rfl, hw⟩ := stB_form (hs s hm)
  have e : isInn (.tup (.str w :: r)) = (Str.ofString "both" == w || Str.ofString "then" == w) := by
    show inD _ _ = _
    simp [inD, eqF, List.any_cons, str_beq, Bool.beq_comm]
  rw [e] at hi
  obtain ⟨x, rfl⟩ := hw (by rw [Bool.or_eq_true, beq_iff_eq, beq_iff_eq] at hi; exact hi.imp Eq.symm Eq.symm)
  cases h _ hm with
  | tup _ hd => exact (hd x (by simp)).mono (by omega)
theorem innL_len (ss : List D) : (innL ss).length ≤ ss.length := by
  rw [innL, List.length_map]
  exact List.length_filter_le _ _
theorem runB_none {f : Nat} {l : List D} {z : D} {x y : Nat} (h : goodTop z = none) : runB (f + 1) (l ++ [z]) x y = false := by
  simp only [runB, List.getLast?_concat, h]
theorem runB_some {f : Nat} {l ss : List D} {z : D} {x y : Nat} (h : goodTop z = some ss) : runB (f + 1) (l ++ [z]) x y = if 4 < x + 1 ∨ 12 < y + ss.length then false else runB f (l ++ innL ss) (x + 1) (y + ss.length) := by
  simp only [runB, List.getLast?_concat, h, List.dropLast_concat]
def sp_chA : DSp := fun ds W Q _ => ∃ d n, ds = [d] ∧ Any n d ∧ n ≤ 40 ∧ Q (.bl (chainB d)) W
def ChInvA (W0 : Wd) (p : Addr) (c : D) (n : Nat) (x : Nat) (δ : Dt) (W : Wd) : Prop := ∃ (l : List D) (y : Nat) (x3 x4 x5 : Option D), δ = [some c, some (.ref p), some (.lst [.int (x : Int), .int (y : Int)]), x3, x4, x5] ∧ W = put W0 p (.lst l) ∧ (∀ d ∈ l, Any n d) ∧ l.length ≤ 1 + y ∧ y ≤ 12 ∧ x ≤ 4 ∧ runB (5 - x) l x y = chainB c
theorem ok_chA {fd : FuncData} (F : Fun K "is_chain" "is_chain" s_is_chain a.is_chain fd) (T : Txt w K mg a) (h_is_maker : Has P w K mg base CX0 2 "is_maker" a.is_maker ["maker"] sp_mkA)
    (h_is_stage : Has P w K mg base CX0 2 "is_stage" a.is_stage ["stage"] sp_stA) (h_inner_of : Has P w K mg base CX0 1 "inner_of" a.inner_of ["stages"] sp_inA) : FnOk P w K mg base CX0 3 a.is_chain fd ["chain"] (liftSp sp_chA) := by
  refine F.dok sc_is_chain (fun ds W Qd Ed h => ?_) (fun cdv A outer s H E W0 ds Qd Ed hr h => ?_)
  · obtain ⟨d, _, rfl, _⟩ := h; rfl
  · obtain ⟨c, n, rfl, hc, hn, q⟩ := h
    obtain ⟨_, g_MOST_MAKERS⟩ := T.g_MOST_MAKERS
    obtain ⟨_, g_MOST_STAGES⟩ := T.g_MOST_STAGES
    refine ⟨_, (s_cons (s_set (i := 1) sc_is_chain.nd rfl (Or.inl rfl) (d_own (d_cons (d_var 0) d_nil)))
  (s_cons (s_set (i := 2) sc_is_chain.nd rfl (Or.inl rfl) (d_lst (d_cons d_int (d_cons d_int d_nil))))
  (s_cons (s_while PassesOwn.never (t_cmp (op_neA hr.units) s_ne (d_var 1) (d_lst d_nil) (nomark _)) (s_cons (s_set (i := 3) sc_is_chain.nd rfl (Or.inl rfl) (d_lm0 PySem.F.plainAttrs_list PySem.F.slot_list_pop PySem.F.type_list_pop mt_pop m_pop (d_var 1)))
  (s_cons (s_set (i := 4) sc_is_chain.nd rfl (Or.inl rfl) (d_and (d_callB call_isi s_isi (by rfl) T.isinstance (by decide +kernel) (d_cons (d_var 3) (d_cons (d_ty (n := "tuple") (by rfl) T.tuple (by decide +kernel)) d_nil))) (d_and (d_cmp (op_eqA hr.units) s_eq (d_callB call_len_seq s_len (by rfl) T.len PySem.boot_len (d_cons (d_var 3) d_nil)) d_int (nomark _)) (d_and (d_callH h_is_maker (hr.mono (by omega)) (by rfl) (d_cons (d_ix s_idx (d_var 3) d_int (fun _ _ => rfl)) d_nil)) (d_one (d_callB call_isi s_isi (by rfl) T.isinstance (by decide +kernel) (d_cons (d_ix s_idx (d_var 3) d_int (fun _ _ => rfl)) (d_cons (d_ty (n := "tuple") (by rfl) T.tuple (by decide +kernel)) d_nil))))))))
  (s_cons (s_if (t_bool (w_or (t_not (d_test (d_var 4))) (w_or1 (t_cmp (op_neA hr.units) s_ne (d_lc rfl sc_is_chain.nd (i_tup (d_ix s_idx (d_var 3) d_int (fun _ _ => rfl))) (blkOk_by (own := [("stage", 5)]) (N := n_is_chain) (sc := defScope s_is_chain) (by decide +kernel)) (simG_name (by decide)) (fun _ _ _ _ _ => pg_name (i := 5) sc_is_chain.nd rfl (Or.inl rfl)) (fun _ _ _ _ _ => t_one (t_not (d_test (d_callH h_is_stage (hr.mono (by omega)) (by rfl) (d_cons (d_var 5) d_nil))))) (fun _ _ _ _ _ => (d_var 5))) (d_lst d_nil) (nomark _))))) (s_one (s_ret d_bl)) s_nil)
  (s_cons (s_set (i := 2) sc_is_chain.nd rfl (Or.inl rfl) (d_lst (d_cons (d_op op_add s_add (d_ix s_idx (d_var 2) d_int (fun _ _ => rfl)) d_int) (d_cons (d_op op_add s_add (d_ix s_idx (d_var 2) d_int (fun _ _ => rfl)) (d_callB call_len_seq s_len (by rfl) T.len PySem.boot_len (d_cons (d_ix s_idx (d_var 3) d_int (fun _ _ => rfl)) d_nil))) d_nil))))
  (s_cons (s_if (t_bool (w_or (t_cmp op_gt s_gt (d_ix s_idx (d_var 2) d_int (fun _ _ => rfl)) (d_globI (by rfl) g_MOST_MAKERS ⟨_, rfl⟩) (nomark _)) (w_or1 (t_cmp op_gt s_gt (d_ix s_idx (d_var 2) d_int (fun _ _ => rfl)) (d_globI (by rfl) g_MOST_STAGES ⟨_, rfl⟩) (nomark _))))) (s_one (s_ret d_bl)) s_nil)
  (s_one (s_expr (d_lm PySem.F.plainAttrs_list PySem.F.slot_list_extend PySem.F.type_list_extend mt_extend m_extend (d_var 1) (d_cons (d_callH h_inner_of (hr.mono (by omega)) (by rfl) (d_cons (d_ix s_idx (d_var 3) d_int (fun _ _ => rfl)) d_nil)) d_nil))))))))))
  (s_one (s_ret d_bl))))), ?_⟩
    walk_at "g"
    intro p hp
    refine ⟨fun m δ W => ∃ x, ChInvA W0 p c n x δ W ∧ m = 5 - x, ⟨5, 0, ⟨[c], 0, none, none, none, rfl, rfl, by simpa using hc, by simp, by omega, by omega, rfl⟩, rfl⟩, ?_⟩
    rintro m δ W ⟨x, ⟨l, y, x3, x4, x5, rfl, rfl, hl, hll, hy, hx, he⟩, rfl⟩
    walk_at "g"
    refine ne_owned put_same (fun d hd => (hl d hd).fine.mono (by omega)) ?_
    have hf5 : 5 - x = (4 - x) + 1 := by omega
    have out : ∀ b l, chainB c = b → done Qd (.bl b) (put W0 p (.lst l)) := fun b l e => by
      subst e
      refine ⟨.bl (chainB c), W0, ?_, q⟩
      have h := Conv.drop (.bl (chainB c)) (put W0 p (.lst l)) p
      rw [del_put hp] at h
      exact h
    rw [hf5] at he
    rcases List.eq_nil_or_concat l with rfl | ⟨l', z, rfl⟩
    · have he' : true = chainB c := he
      rw [List.isEmpty_nil]
      walk_at "g"
      exact out _ _ he'.symm
    rw [List.concat_eq_append] at hl hll he ⊢
    have nonempty : (l' ++ [z]).isEmpty = false := by simp
    rw [nonempty]
    have hz := hl z (by simp)
    have bad : goodTop z = none → ∀ l, done Qd (.bl false) (put W0 p (.lst l)) := fun h l => out _ _ (by rw [← he, runB_none h])
    have nx : ∀ m, m ∈ (some z : Option D) → m = z := fun m h => by simpa using h.symm
    walk_at "g"
    refine ⟨ChInvA W0 p c n (x + 1), fun δ' W' e => ⟨5 - (x + 1), by omega, x + 1, e, rfl⟩, z, by simp, ?_⟩
    cases hz with
    | int i => walk_at "g"; exact bad rfl _
    | str h => walk_at "g"; exact bad rfl _
    | @tup m ds hdl hd =>
      match ds with
      | [] => walk_at "g"; exact bad rfl _
      | [_] => walk_at "g"; exact bad rfl _
      | _ :: _ :: _ :: u =>
        walk_at "g"
        rw [if_neg (by omega)]
        exact bad (by simp [goodTop]) _
      | [mk, s] =>
        walk_at "g"
        refine ⟨mk, m, rfl, hd mk (by simp), by omega, ?_⟩
        cases e1 : mkB mk with
        | false =>
          walk_at "g"
          exact bad (by cases s <;> simp [goodTop, e1]) _
        | true =>
          cases hd s (by simp) with
          | int i => walk_at "g"; exact bad rfl _
          | str h => walk_at "g"; exact bad rfl _
          | @tup m ss hsl hs =>
            walk_at "g"
            refine lc_done (fun d => !stB d) id (fun x hx W' Q' _ q' => ?_) (fun x hx hf W' Q' _ q' => ?_) (by omega) fun p' hp' => ?_
            · walk_at "g"
              exact ⟨x, m, rfl, hs x hx, by omega, _, rfl, q'⟩
            · walk_at "g"
              exact q'
            rw [List.map_id]
            refine ⟨_, put_same, ?_⟩
            rw [del_put hp']
            refine fNe_fine (n := m + 1) (m := 1) (fine_lst.mpr fun d hd => (hs d (List.mem_filter.mp hd).1).fine) (fine_lst.mpr (by simp)) (by omega) (by omega) ?_
            rw [eqD_nil]
            have ee : (List.filter (fun d => !stB d) ss).isEmpty = ss.all stB := by
              rw [Bool.eq_iff_iff, List.isEmpty_iff, List.filter_eq_nil_iff, List.all_eq_true]
              simp
            rw [ee]
            cases e2 : ss.all stB with
            | false =>
              walk_at "g"
              exact bad (by simp only [goodTop, e1, e2]; rfl) _
            | true =>
              have gt : goodTop (D.tup [mk, D.tup ss]) = some ss := by simp only [goodTop, e1, e2]; rfl
              rw [runB_some gt] at he
              walk_at "g"
              by_cases h4 : 4 < x + 1
              · rw [if_pos (by omega)]
                exact out _ _ (by rw [← he, if_pos (.inl h4)])
              rw [if_neg (by omega)]
              by_cases h12 : 12 < y + ss.length
              · rw [if_pos (by omega)]
                exact out _ _ (by rw [← he, if_pos (.inr h12)])
              rw [if_neg (by omega)]
              rw [if_neg (by omega)] at he
              have hss := List.all_eq_true.mp e2
              refine ⟨ss, rfl, by omega, hss, ?_⟩
              walk_at "g"
              have hil := innL_len ss
              rw [List.length_append, List.length_singleton] at hll
              refine ⟨by omega, l' ++ innL ss, y + ss.length, some (.tup [mk, .tup ss]), some (.bl true), x5, by simp, by simp, ?_, by rw [List.length_append]; omega, by omega, by omega, ?_⟩
              · intro d hd
                rcases List.mem_append.mp hd with hd | hd
                · exact hl d (List.mem_append_left _ hd)
                · exact (innL_any hs hss d hd).mono (by omega)
              · rw [show 5 - (x + 1) = 4 - x from by omega]
                exact he
def sp_needA : DSp := fun ds W Q E => ∃ d n, ds = [d] ∧ Any n d ∧ n ≤ 40 ∧ (chainB d = true → Q .non W) ∧ (chainB d = false → E a.BadChain none W)
theorem has_mkA {fd : FuncData} (F : Fun K "is_maker" "is_maker" s_is_maker a.is_maker fd) (g : mg "is_maker" = some (.ref a.is_maker)) (T : Txt w K mg a) (h_is_number : Has P w K mg base CX0 1 "is_number" a.is_number ["thing"] sp_is_number) : Has P w K mg base CX0 2 "is_maker" a.is_maker ["maker"] sp_mkA :=
  ⟨⟨fd, ok_mkA F T h_is_number, F.binds fun _ _ _ _ _ _ us hl => match us, hl with | [_], _ => rfl⟩, F.kp, g⟩
theorem has_stA {fd : FuncData} (F : Fun K "is_stage" "is_stage" s_is_stage a.is_stage fd) (g : mg "is_stage" = some (.ref a.is_stage)) (T : Txt w K mg a) (hz0 : Z0 K a) (h_is_number : Has P w K mg base CX0 1 "is_number" a.is_number ["thing"] sp_is_number) : Has P w K mg base CX0 2 "is_stage" a.is_stage ["stage"] sp_stA :=
  ⟨⟨fd, ok_stA F T hz0 h_is_number, F.binds fun _ _ _ _ _ _ us hl => match us, hl with | [_], _ => rfl⟩, F.kp, g⟩
theorem has_inA {fd : FuncData} (F : Fun K "inner_of" "inner_of" s_inner_of a.inner_of fd) (g : mg "inner_of" = some (.ref a.inner_of)) (T : Txt w K mg a) : Has P w K mg base CX0 1 "inner_of" a.inner_of ["stages"] sp_inA :=
  ⟨⟨fd, ok_inA F T, F.binds fun _ _ _ _ _ _ us hl => match us, hl with | [_], _ => rfl⟩, F.kp, g⟩
theorem has_chA {fd : FuncData} (F : Fun K "is_chain" "is_chain" s_is_chain a.is_chain fd) (g : mg "is_chain" = some (.ref a.is_chain)) (T : Txt w K mg a) (h_is_maker : Has P w K mg base CX0 2 "is_maker" a.is_maker ["maker"] sp_mkA)
    (h_is_stage : Has P w K mg base CX0 2 "is_stage" a.is_stage ["stage"] sp_stA) (h_inner_of : Has P w K mg base CX0 1 "inner_of" a.inner_of ["stages"] sp_inA) : Has P w K mg base CX0 3 "is_chain" a.is_chain ["chain"] sp_chA :=
  ⟨⟨fd, ok_chA F T h_is_maker h_is_stage h_inner_of, F.binds fun _ _ _ _ _ _ us hl => match us, hl with | [_], _ => rfl⟩, F.kp, g⟩
theorem has_needA {fd : FuncData} (F : Fun K "need_chain" "need_chain" s_need_chain a.need_chain fd) (g : mg "need_chain" = some (.ref a.need_chain)) (T : Txt w K mg a) (h_is_chain : Has P w K mg base CX0 3 "is_chain" a.is_chain ["chain"] sp_chA) :
    Has P w K mg base (L2.CX P w) 4 "need_chain" a.need_chain ["chain"] (sp_needA (a := a)) := by
  refine ⟨⟨fd, ?_, F.binds fun _ _ _ _ _ _ us hl => match us, hl with | [_], _ => rfl⟩, F.kp, g⟩
  refine F.dokX sc_need_chain (fun ds W Qd Ed h => ?_) (fun cdv A outer s H E W0 ds Qd Ed hr fx h => ?_)
  · obtain ⟨d, _, rfl, _⟩ := h; rfl
  · obtain ⟨c, n, rfl, hc, hn, q, e⟩ := h
    refine ⟨_, (s_one (s_if (t_not (d_test (d_callH h_is_chain (hr.mono (by omega)) (by rfl) (d_cons (d_var 0) d_nil)))) (s_one (s_raise rfl (takes_of rfl rfl rfl rfl) (pmk_own PySem.F.excBase_ValueError T.x_BadChain T.g_BadChain T.k_BadChain (raises_own T.b_BadChain T.t_BadChain) rfl) fx)) s_nil)), ?_⟩
    walk_at "g"
    refine ⟨c, n, rfl, hc, hn, ?_⟩
    cases h : chainB c with
    | true =>
      walk_at "g"
      exact done.here (q h)
    | false =>
      walk_at "g"
      exact e h
end
end DL
end
section
set_option maxRecDepth 100000
set_option maxHeartbeats 4000000
namespace DL
open PySem PySem.Spec PyProof.Rows L2
local macro_rules | `(tactic| walk_at "g") => `(tactic| simp only [hNext, hSeq, hDrop, hRet, hRetN, hIf, hAsg, hPar, kName, kNil, kCons, kTup, gVar, gC, gUn, gOp, gNil, gCons, gN, gTup, gLst, gB, gAnd, gOr, gNot, gTNot, gTAnd, gTOr, gIf, gChain, gCall, gMeth, gFld, hFld, gLc, gLcO, gYes, hFor, iTupG, iLst, iOwn, iR1, iR2, gOwn, fSl, gNone, gPart, rSlTup, rSlLst, rSlStr, gLM, mAppend, mExtend, mPop, mClear, gMake, hKPair, gKGetI, gNotInK, kSub, hRaise,
  fI, fI0, fU, fIsi, fIsi2, fLen, fLenS, fList, fListO, fTuple, fIdx, fCatL, fCatT, fCatO, fIn, fIntB, fMin2, seqOf_lst, seqOf_tup, seqOf_frz, seqOf_put, listOf_lst, listOf_put, wipeD, dstart, List.map_cons, List.map_nil, List.length_cons, List.length_nil, List.cons_append, List.nil_append, List.getElem?_cons_zero, List.getElem?_cons_succ, List.set_cons_zero, List.set_cons_succ, List.replicate_zero, List.replicate_succ, Nat.sub_self,
  fEq_int, fEq_str, fNe_int, fNe_str, fEq_bl, fNe_bl, str_beq, str_inj, String.reduceEq, decide_true, decide_false, Bool.not_true, Bool.not_false, Bool.true_and, Bool.and_true, Bool.false_and, Bool.and_false, Bool.or_true, Bool.true_or, Bool.or_false, Bool.false_or,
  atI_0, atI_1, atI_2, atI_3, cut_1, List.drop_succ_cons, List.drop_zero, Option.some.injEq, exists_eq_left', exists_eq_left, exists_eq_right, exists_eq_right', exists_eq, exists_eq', D.bl.injEq, D.int.injEq, D.str.injEq, D.ty.injEq, D.ref.injEq, D.tup.injEq, D.lst.injEq, D.frz.injEq, Ob.lst.injEq, Ob.ins.injEq, List.cons.injEq, and_true, true_and, and_assoc, exists_and_left, exists_and_right, exists_const, if_true, if_false, reduceIte, Bool.false_eq_true, reduceCtorEq, false_and, and_false, exists_false, false_or, or_false, ne_eq, not_false_eq_true, not_true_eq_false, implies_true, Nat.reduceLeDiff, Nat.reduceAdd, Nat.reduceSub, Nat.reduceEqDiff, sizeLine, Nat.reducePow, List.append_nil, List.length_append, put_put, put_same,
  kb_NoneType_int, kb_NoneType_bool, kb_NoneType_str, kb_NoneType_tuple, kb_NoneType_list, kb_bool_int, kb_bool_bool, kb_bool_str, kb_bool_tuple, kb_bool_list, kb_int_int, kb_int_bool, kb_int_str, kb_int_tuple, kb_int_list, kb_str_int, kb_str_bool, kb_str_str, kb_str_tuple, kb_str_list, kb_tuple_int, kb_tuple_bool, kb_tuple_str, kb_tuple_tuple, kb_tuple_list, kb_list_int, kb_list_bool, kb_list_str, kb_list_tuple, kb_list_list, kindOf_non, kindOf_bl, kindOf_int, kindOf_str, kindOf_tup, kindOf_lst, kindOf_frz, len_0, Int.cast_ofNat_Int, Int.natCast_add, Int.natCast_zero, Int.natCast_one, Int.reduceAdd, Int.reduceSub, Int.reduceLT, Int.reduceLE, Int.reduceBEq, Int.reduceEq, Int.reduceNe, beq_self_eq_true, beq_iff_eq, beq_eq_false_iff_ne, decide_eq_true_eq, decide_eq_false_iff_not, Bool.not_eq_true', Bool.not_eq_false', mkD_count, mkD_row, opD_add, opD_times, opD_keep, opD_drop, opD_take, opD_each, opD_til, opD_unlike, stgD_op, stgD_both, stgD_thn, List.map_map, List.any_cons, List.any_nil, List.all_cons, List.all_nil, inD, eqF, flatD, ixN_1_0, ixN_2_0, ixN_2_1, ixN_3_0, ixN_3_1, ixN_3_2, ixN_4_0, ixN_4_1, ixN_4_2, ixN_4_3, List.length_set, List.dropLast_concat, sf_gives, sf_book, sf_given, sf_put, sf_put1, lp_told1, lp_left1, sf_len, Int.add_sub_cancel, sf_draw, lf_rule, lf_ahead, lf_beside, lf_lost, lf_over, lf_told, lf_last, lf_left, lf_len, lp_over, lp_told, lp_last, lp_left, lf_draw, lf_drawn_by, lf_sought, lf_dropped, lf_told_again, lf_ended, lf_paired, lf_followed, word_num, word_fin, word_long, df_book, df_lost, df_back, df_stuck, df_sources, df_top, df_next, df_drawn, df_undone, df_put_back, df_len, dp_stuck, fTupleT, mPopAt, iZipG, gDGet, hDPut, gNewT, gDisp, gPairs, gSetdT, lv_over, lv_told, lv_last, lv_left, lu_over, lu_told, lu_last, lu_left, ln_own, ln_ld, ld_chain, ld_makers, ld_lost, ld_back, ld_stuck, ld_book, ld_given, ld_own, lp_book, lp_book0, lp_book1, lu_told1, lu_left1, lu_leftS, lp_stuck2, Ob.dk.injEq, Ob.dt.injEq])

theorem kindV_has {P : Program} {w : World} {K : PySem.W.Frag} {mg : Str → Option Value} {base : Heap} {a : Ads} {k : Nat} {g : Addr} {fd : FuncData} (F : Fun K "_law_kind" "_law_kind" s__law_kind g fd) (hm : mg "_law_kind" = some (.ref g)) (T : Txt w K mg a) (KF : KindF K mg a) :
    Has P w K mg base CX0 (k + 2) "_law_kind" g ["_law_work"] (sp_kindV P w K mg base k (kinds a)) := by
  refine ⟨⟨fd, ?_, F.binds fun _ _ _ _ _ _ us hl => match us, hl with | [_], _ => rfl⟩, F.kp, hm⟩
  refine kindV_ok (Ng := n__law_kind) (xe := "DrawError") (n := "e") (m := 2) F sc__law_kind rfl rfl KF.g_DrawError (by decide) (.inl rfl) (by decide) (by decide) (fun f => rfl) rfl (by decide) rfl rfl rfl KF.ex (fun cdv A outer s H E ae oe pn p hp hz hf => ⟨_, fun W0 H0 => (s_cons (s_set (i := 2) sc__law_kind.nd rfl (Or.inl rfl) (d_own (d_cons (d_callB (call_isE (KF.ec p hp) hz hf) s_isE (by rfl) T.isinstance (by decide +kernel) (d_cons (d_var 1) (d_cons (d_globR (by rfl) T.g_BadChain rfl) d_nil))) (d_cons (d_callB (call_isE (KF.ec p hp) hz hf) s_isE (by rfl) T.isinstance (by decide +kernel) (d_cons (d_var 1) (d_cons (d_globR (by rfl) T.g_BadMany rfl) d_nil))) (d_cons (d_callB (call_isE (KF.ec p hp) hz hf) s_isE (by rfl) T.isinstance (by decide +kernel) (d_cons (d_var 1) (d_cons (d_globR (by rfl) T.g_NoWhole rfl) d_nil))) (d_cons (d_callB (call_isE (KF.ec p hp) hz hf) s_isE (by rfl) T.isinstance (by decide +kernel) (d_cons (d_var 1) (d_cons (d_globR (by rfl) KF.g_BadText rfl) d_nil))) d_nil))))))
  (s_cons (s_if (t_bool (w_or (t_cmp op_ne s_ne0 (d_lm PySem.F.plainAttrs_list PySem.F.slot_list_count PySem.F.type_list_count mt_countF m_count (d_var 2) (d_cons d_bl d_nil)) d_int (nomark _)) (w_or1 (t_not (d_test (d_callB (call_isE (KF.ec p hp) hz hf) s_isE (by rfl) T.isinstance (by decide +kernel) (d_cons (d_var 1) (d_cons (d_ty (n := "ValueError") (by rfl) KF.ValueError (by decide +kernel)) d_nil)))))))) (s_one (s_ret d_str)) s_nil)
  (s_cons (s_set (i := 3) sc__law_kind.nd rfl (Or.inl rfl) (d_ix s_idx (d_lst (d_cons d_str (d_cons d_str (d_cons d_str (d_cons d_str d_nil))))) (d_lm PySem.F.plainAttrs_list PySem.F.slot_list_index PySem.F.type_list_index mt_index m_index (d_var 2) (d_cons d_bl d_nil)) (fun _ _ => rfl)))
  (s_one (s_ret (d_if (t_cmp op_eq s_eq0 (d_var 3) d_str (nomark _)) (d_tup (d_cons (d_var 3) (d_cons d_never d_nil))) (d_var 3))))))), fun W Q qq => ?_⟩)
  have hv := KF.v p hp
  have ht := KF.t p hp
  have hp' := hp
  simp only [kinds, List.mem_cons, List.not_mem_nil, or_false] at hp'
  have less : ∀ (j : Nat) (ds : List D), ds.length = 4 → (∀ m z, m < j → ds[m]? = some z → z = .bl false) → ∀ (m : Nat) (z : D), m < j → ds[m]? = some z → eqF z (.bl true) = false := fun j ds _ h m z h1 h2 => by rw [h m z h1 h2]; rfl
  have fin : ∀ (ds : List D) (s : Str) (j : Nat) (p1 : Addr) (r : Addr → Wd → Prop), True := fun _ _ _ _ _ => trivial
  rcases hp' with rfl | rfl | rfl
  · walk_at "g"
    refine isE_ref KF.cc (isE_ref KF.cm (isE_ref KF.cn (isE_ref ht ?_)))
    intro p1 hp1
    refine ⟨.bl true, _, rfl, put_same, rfl, rfl, ?_⟩
    show fNe0 (.int ((1 : Nat) : Int)) (.int 1) _ _
    rw [fNe0_int]
    refine ⟨_, rfl, ?_⟩
    rw [if_neg (by decide)]
    refine isE_ty hv ⟨_, rfl, ?_⟩
    rw [if_neg (by decide)]
    refine ⟨⟨_, put_same⟩, .bl true, _, 0, .bl true, rfl, put_same, rfl, rfl, rfl, rfl, (fun m z h => by omega), ?_⟩
    refine ⟨_, rfl, _, rfl, ?_⟩
    rw [fEq0_str]
    refine ⟨_, rfl, ?_⟩
    rw [if_neg (by decide)]
    refine ⟨_, _, Conv.drop _ _ p1, ?_⟩
    rw [del_put hp1]
    exact qq
  · walk_at "g"
    refine isE_ref KF.mc (isE_ref KF.mm (isE_ref KF.mn (isE_ref ht ?_)))
    intro p1 hp1
    refine ⟨.bl true, _, rfl, put_same, rfl, rfl, ?_⟩
    show fNe0 (.int ((1 : Nat) : Int)) (.int 1) _ _
    rw [fNe0_int]
    refine ⟨_, rfl, ?_⟩
    rw [if_neg (by decide)]
    refine isE_ty hv ⟨_, rfl, ?_⟩
    rw [if_neg (by decide)]
    refine ⟨⟨_, put_same⟩, .bl true, _, 1, .bl true, rfl, put_same, rfl, rfl, rfl, rfl, (fun m z h e => by (have : m = 0 := by omega); subst this; cases e; rfl), ?_⟩
    refine ⟨_, rfl, _, rfl, ?_⟩
    rw [fEq0_str]
    refine ⟨_, rfl, ?_⟩
    rw [if_neg (by decide)]
    refine ⟨_, _, Conv.drop _ _ p1, ?_⟩
    rw [del_put hp1]
    exact qq
  · walk_at "g"
    refine isE_ref KF.nc (isE_ref KF.nm (isE_ref KF.nn (isE_ref ht ?_)))
    intro p1 hp1
    refine ⟨.bl true, _, rfl, put_same, rfl, rfl, ?_⟩
    show fNe0 (.int ((1 : Nat) : Int)) (.int 1) _ _
    rw [fNe0_int]
    refine ⟨_, rfl, ?_⟩
    rw [if_neg (by decide)]
    refine isE_ty hv ⟨_, rfl, ?_⟩
    rw [if_neg (by decide)]
    refine ⟨⟨_, put_same⟩, .bl true, _, 2, .bl true, rfl, put_same, rfl, rfl, rfl, rfl, (fun m z h e => by
      rcases (by omega : m = 0 ∨ m = 1) with rfl | rfl
      · cases e; rfl
      · cases e; rfl), ?_⟩
    refine ⟨_, rfl, _, rfl, ?_⟩
    rw [fEq0_str]
    refine ⟨_, rfl, ?_⟩
    rw [if_neg (by decide)]
    refine ⟨_, _, Conv.drop _ _ p1, ?_⟩
    rw [del_put hp1]
    exact qq
end DL
end
section
set_option maxRecDepth 100000
set_option maxHeartbeats 4000000
namespace DL
open PySem PySem.Spec PyProof.Rows L2
abbrev s_makers : Stmt := top 21
abbrev n_makers : List Str := ["chain"]
theorem sc_makers : FnScope n_makers ["chain"] (defScope s_makers) := ⟨rfl, rfl, rfl, by decide +kernel, rfl, by decide +kernel, by decide +kernel⟩
abbrev s_written : Stmt := top 35
abbrev n_written : List Str := ["chain"]
theorem sc_written : FnScope n_written ["chain"] (defScope s_written) := ⟨rfl, rfl, rfl, by decide +kernel, rfl, by decide +kernel, by decide +kernel⟩
local macro_rules | `(tactic| walk_at "g") => `(tactic| simp only [hNext, hSeq, hDrop, hRet, hRetN, hIf, hAsg, hPar, kName, kNil, kCons, kTup, gVar, gC, gUn, gOp, gNil, gCons, gN, gTup, gLst, gB, gAnd, gOr, gNot, gTNot, gTAnd, gTOr, gIf, gChain, gCall, gMeth, gFld, hFld, gLc, gLcO, gYes, hFor, iTupG, iLst, iOwn, iR1, iR2, gOwn, fSl, gNone, gPart, rSlTup, rSlLst, rSlStr, gLM, mAppend, mExtend, mPop, mClear, gMake, hKPair, gKGetI, gNotInK, kSub, hRaise,
  fI, fI0, fU, fIsi, fIsi2, fLen, fLenS, fList, fListO, fTuple, fIdx, fCatL, fCatT, fCatO, fIn, fIntB, fMin2, seqOf_lst, seqOf_tup, seqOf_frz, seqOf_put, listOf_lst, listOf_put, wipeD, dstart, List.map_cons, List.map_nil, List.length_cons, List.length_nil, List.cons_append, List.nil_append, List.getElem?_cons_zero, List.getElem?_cons_succ, List.set_cons_zero, List.set_cons_succ, List.replicate_zero, List.replicate_succ, Nat.sub_self,
  fEq_int, fEq_str, fNe_int, fNe_str, fEq_bl, fNe_bl, str_beq, str_inj, String.reduceEq, decide_true, decide_false, Bool.not_true, Bool.not_false, Bool.true_and, Bool.and_true, Bool.false_and, Bool.and_false, Bool.or_true, Bool.true_or, Bool.or_false, Bool.false_or,
  atI_0, atI_1, atI_2, atI_3, cut_1, List.drop_succ_cons, List.drop_zero, Option.some.injEq, exists_eq_left', exists_eq_left, exists_eq_right, exists_eq_right', exists_eq, exists_eq', D.bl.injEq, D.int.injEq, D.str.injEq, D.ty.injEq, D.ref.injEq, D.tup.injEq, D.lst.injEq, D.frz.injEq, Ob.lst.injEq, Ob.ins.injEq, List.cons.injEq, and_true, true_and, and_assoc, exists_and_left, exists_and_right, exists_const, if_true, if_false, reduceIte, Bool.false_eq_true, reduceCtorEq, false_and, and_false, exists_false, false_or, or_false, ne_eq, not_false_eq_true, not_true_eq_false, implies_true, Nat.reduceLeDiff, Nat.reduceAdd, Nat.reduceSub, Nat.reduceEqDiff, sizeLine, Nat.reducePow, List.append_nil, List.length_append, put_put, put_same,
  kb_NoneType_int, kb_NoneType_bool, kb_NoneType_str, kb_NoneType_tuple, kb_NoneType_list, kb_bool_int, kb_bool_bool, kb_bool_str, kb_bool_tuple, kb_bool_list, kb_int_int, kb_int_bool, kb_int_str, kb_int_tuple, kb_int_list, kb_str_int, kb_str_bool, kb_str_str, kb_str_tuple, kb_str_list, kb_tuple_int, kb_tuple_bool, kb_tuple_str, kb_tuple_tuple, kb_tuple_list, kb_list_int, kb_list_bool, kb_list_str, kb_list_tuple, kb_list_list, kindOf_non, kindOf_bl, kindOf_int, kindOf_str, kindOf_tup, kindOf_lst, kindOf_frz, len_0, Int.cast_ofNat_Int, Int.natCast_add, Int.natCast_zero, Int.natCast_one, Int.reduceAdd, Int.reduceSub, Int.reduceLT, Int.reduceLE, Int.reduceBEq, Int.reduceEq, Int.reduceNe, beq_self_eq_true, beq_iff_eq, beq_eq_false_iff_ne, decide_eq_true_eq, decide_eq_false_iff_not, Bool.not_eq_true', Bool.not_eq_false', mkD_count, mkD_row, opD_add, opD_times, opD_keep, opD_drop, opD_take, opD_each, opD_til, opD_unlike, stgD_op, stgD_both, stgD_thn, List.map_map, List.any_cons, List.any_nil, List.all_cons, List.all_nil, inD, eqF, flatD, ixN_1_0, ixN_2_0, ixN_2_1, ixN_3_0, ixN_3_1, ixN_3_2, ixN_4_0, ixN_4_1, ixN_4_2, ixN_4_3, List.length_set, List.dropLast_concat, sf_gives, sf_book, sf_given, sf_put, sf_put1, lp_told1, lp_left1, sf_len, Int.add_sub_cancel, sf_draw, lf_rule, lf_ahead, lf_beside, lf_lost, lf_over, lf_told, lf_last, lf_left, lf_len, lp_over, lp_told, lp_last, lp_left, lf_draw, lf_drawn_by, lf_sought, lf_dropped, lf_told_again, lf_ended, lf_paired, lf_followed, word_num, word_fin, word_long, df_book, df_lost, df_back, df_stuck, df_sources, df_top, df_next, df_drawn, df_undone, df_put_back, df_len, dp_stuck, fTupleT, mPopAt, iZipG, gDGet, hDPut, gNewT, gDisp, gPairs, gSetdT, lv_over, lv_told, lv_last, lv_left, lu_over, lu_told, lu_last, lu_left, ln_own, ln_ld, ld_chain, ld_makers, ld_lost, ld_back, ld_stuck, ld_book, ld_given, ld_own, lp_book, lp_book0, lp_book1, lu_told1, lu_left1, lu_leftS, lp_stuck2, Ob.dk.injEq, Ob.dt.injEq])

section
variable {P : Program} {w : World} {K : PySem.W.Frag} {mg : Str → Option Value} {base : Heap} {a : Ads} {n : Nat}
theorem FnOk.or {CX : CXT} {k : Nat} {f : Addr} {fd : FuncData} {ps : List Str} {sp sp' : DSp} (F : FnOk P w K mg base CX k f fd ps (liftSp sp)) (G : FnOk P w K mg base CX k f fd ps (liftSp sp')) : FnOk P w K mg base CX k f fd ps (liftSp fun ds W Q E => sp ds W Q E ∨ sp' ds W Q E) := by
  refine ⟨fun vs H Q E h => ?_, fun A outer s H args us vs Q E hr e0 hb hv h => ?_⟩
  · obtain ⟨ds, W, Qd, Ed, i, o, q | q, fin, fx⟩ := h
    · exact F.len _ _ _ _ ⟨ds, W, Qd, Ed, i, o, q, fin, fx⟩
    · exact G.len _ _ _ _ ⟨ds, W, Qd, Ed, i, o, q, fin, fx⟩
  · obtain ⟨ds, W, Qd, Ed, i, o, q | q, fin, fx⟩ := h
    · exact F.run A outer s H args us vs Q E hr e0 hb hv ⟨ds, W, Qd, Ed, i, o, q, fin, fx⟩
    · exact G.run A outer s H args us vs Q E hr e0 hb hv ⟨ds, W, Qd, Ed, i, o, q, fin, fx⟩
def sp_ref1 (a : Ads) : DSp := fun ds W Q E => ∃ d n, ds = [d] ∧ Any n d ∧ n ≤ 40 ∧ chainB d = false ∧ E a.BadChain none W
def sp_ref2 (a : Ads) : DSp := fun ds W Q E => ∃ d i n, ds = [d, .int i] ∧ Any n d ∧ n ≤ 40 ∧ chainB d = false ∧ E a.BadChain none W
def sp_refC (a : Ads) : DSp := fun ds W Q E => ∃ p d n, ds = [.ref p, d] ∧ Any n d ∧ n ≤ 40 ∧ chainB d = false ∧ E a.BadChain none W
theorem ok_ref_makers {fd : FuncData} {la : Addr} (F : Fun K "makers" "makers" s_makers la fd) (T : Txt w K mg a)
    (h_need_chain : Has P w K mg base (L2.CX P w) 4 "need_chain" a.need_chain ["chain"] (sp_needA (a := a)))
    (h_all_makers : Has P w K mg base CX0 5 "all_makers" a.all_makers ["chain"] (sp_all_makers 4)) :
    FnOk P w K mg base (L2.CX P w) 6 la fd ["chain"] (liftSp (sp_ref1 a)) := by
  refine F.dokX sc_makers (fun ds W Qd Ed h => ?_) (fun cdv A outer s H E W0 ds Qd Ed hr fx h => ?_)
  · obtain ⟨d, n, rfl, hA, hn, hb, e⟩ := h; rfl
  · obtain ⟨d, n, rfl, hA, hn, hb, e⟩ := h
    refine ⟨_, (s_cons (s_expr (d_callE h_need_chain (hr.mono (by omega)) (by rfl) fx (takes_of rfl rfl rfl rfl) (d_cons (d_var 0) d_nil)))
  (s_one (s_ret (d_callH h_all_makers (hr.mono (by omega)) (by rfl) (d_cons (d_var 0) d_nil))))), ?_⟩
    walk_at "g"
    exact ⟨d, n, rfl, hA, hn, fun h => absurd (hb.symm.trans h) (by decide), fun _ => e⟩
theorem ok_ref_whole {fd : FuncData} {la f1 : Addr} (F : Fun K "whole" "whole" s_whole la fd) (T : Txt w K mg a)
    (h_need_chain : Has P w K mg base (L2.CX P w) 4 "need_chain" a.need_chain ["chain"] (sp_needA (a := a)))
    (h_all_makers : Has P w K mg base CX0 5 "all_makers" a.all_makers ["chain"] (sp_all_makers 4)) (h_row_of : Has P w K mg base (L2.CX P w) 41 "row_of" f1 ["chain"] (sp_row a 20)) :
    FnOk P w K mg base (L2.CX P w) 42 la fd ["chain"] (liftSp (sp_ref1 a)) := by
  refine F.dokX sc_whole (fun ds W Qd Ed h => ?_) (fun cdv A outer s H E W0 ds Qd Ed hr fx h => ?_)
  · obtain ⟨d, n, rfl, hA, hn, hb, e⟩ := h; rfl
  · obtain ⟨d, n, rfl, hA, hn, hb, e⟩ := h
    refine ⟨_, (s_cons (s_expr (d_callE h_need_chain (hr.mono (by omega)) (by rfl) fx (takes_of rfl rfl rfl rfl) (d_cons (d_var 0) d_nil)))
  (s_cons (s_if (t_cmp (op_neA hr.units) s_ne (d_lc rfl sc_whole.nd (i_lst (d_callH h_all_makers (hr.mono (by omega)) (by rfl) (d_cons (d_var 0) d_nil))) (blkOk_by (own := [("maker", 1)]) (N := n_whole) (sc := defScope s_whole) (by decide +kernel)) (simG_name (by decide)) (fun _ _ _ _ _ => pg_name (i := 1) sc_whole.nd rfl (Or.inl rfl)) (fun _ _ _ _ _ => t_one (t_cmp (op_neA hr.units) s_ne (d_ix s_idx (d_var 1) d_int (fun _ _ => rfl)) d_str (nomark _))) (fun _ _ _ _ _ => (d_var 1))) (d_lst d_nil) (nomark _)) (s_one (s_raise rfl (takes_of rfl rfl rfl rfl) (pmk_own PySem.F.excBase_ValueError T.x_NoWhole T.g_NoWhole T.k_NoWhole (raises_own T.b_NoWhole T.t_NoWhole) rfl) fx)) s_nil)
  (s_one (s_ret (d_callE h_row_of (hr.mono (by omega)) (by rfl) fx (takes_of rfl rfl rfl rfl) (d_cons (d_var 0) d_nil)))))), ?_⟩
    walk_at "g"
    exact ⟨d, n, rfl, hA, hn, fun h => absurd (hb.symm.trans h) (by decide), fun _ => e⟩
theorem ok_ref_written {fd : FuncData} {la : Addr} (F : Fun K "written" "written" s_written la fd) (T : Txt w K mg a)
    (h_need_chain : Has P w K mg base (L2.CX P w) 4 "need_chain" a.need_chain ["chain"] (sp_needA (a := a))) :
    FnOk P w K mg base (L2.CX P w) 5 la fd ["chain"] (liftSp (sp_ref1 a)) := by
  refine F.dokX sc_written (fun ds W Qd Ed h => ?_) (fun cdv A outer s H E W0 ds Qd Ed hr fx h => ?_)
  · obtain ⟨d, n, rfl, hA, hn, hb, e⟩ := h; rfl
  · obtain ⟨d, n, rfl, hA, hn, hb, e⟩ := h
    refine ⟨_, (s_cons (s_expr (d_callE h_need_chain (hr.mono (by omega)) (by rfl) fx (takes_of rfl rfl rfl rfl) (d_cons (d_var 0) d_nil)))
  (s_one (s_ret d_never))), ?_⟩
    walk_at "g"
    exact ⟨d, n, rfl, hA, hn, fun h => absurd (hb.symm.trans h) (by decide), fun _ => e⟩
theorem ok_ref_first {fd : FuncData} {la : Addr} (F : Fun K "first" "first" s_first la fd) (T : Txt w K mg a)
    (h_need_chain : Has P w K mg base (L2.CX P w) 4 "need_chain" a.need_chain ["chain"] (sp_needA (a := a)))
    (h_Drawer : HasC P w K mg base (L2.CX P w) 13 "Drawer" a.Drawer a.Drawer_init ["self", "chain"] (sp_Drawer_init a.Drawer a.Source a.Link))
    (h_Drawer_next : HasM P w K mg base CX0 62 a.Drawer "next" a.Drawer_next ["self"] (sp_next a.Drawer a.Source a.Link))
    (h_Drawer_drawn : HasM P w K mg base CX0 1 a.Drawer "drawn" a.Drawer_drawn ["self"] (sp_drawn a.Drawer a.Source a.Link)) :
    FnOk P w K mg base (L2.CX P w) 63 la fd ["chain", "many"] (liftSp (sp_ref2 a)) := by
  refine F.dokX sc_first (fun ds W Qd Ed h => ?_) (fun cdv A outer s H E W0 ds Qd Ed hr fx h => ?_)
  · obtain ⟨d, i, n, rfl, hA, hn, hb, e⟩ := h; rfl
  · obtain ⟨d, i, n, rfl, hA, hn, hb, e⟩ := h
    obtain ⟨_, g_NUMBER⟩ := T.g_NUMBER
    obtain ⟨_, g_MOST_MANY⟩ := T.g_MOST_MANY
    refine ⟨_, (s_cons (s_expr (d_callE h_need_chain (hr.mono (by omega)) (by rfl) fx (takes_of rfl rfl rfl rfl) (d_cons (d_var 0) d_nil)))
  (s_cons (s_if (t_not (t_chain op_le s_le op_le s_le d_int (d_var 1) (d_globI (by rfl) g_MOST_MANY ⟨_, rfl⟩))) (s_one (s_raise rfl (takes_of rfl rfl rfl rfl) (pmk_own PySem.F.excBase_ValueError T.x_BadMany T.g_BadMany T.k_BadMany (raises_own T.b_BadMany T.t_BadMany) rfl) fx)) s_nil)
  (s_cons (s_set (i := 2) sc_first.nd rfl (Or.inl rfl) (d_makeL h_Drawer (hr.mono (by omega)) (by rfl) (d_cons (d_var 0) d_nil)))
  (s_cons (s_set (i := 3) sc_first.nd rfl (Or.inl rfl) (d_own d_nil))
  (s_cons (s_for (passes_of rfl) rfl (i_r1 (by rfl) T.range (d_cons (d_var 1) d_nil)) (k_name (i := 4) sc_first.nd rfl (Or.inl rfl)) (s_cons (s_set (i := 5) sc_first.nd rfl (Or.inl rfl) (d_methH0 h_Drawer_next (d_var 2) (hr.mono (by omega))))
  (s_cons (s_if (t_cmp (op_neA hr.units) s_ne (d_ix s_idx (d_var 5) d_int (fun _ _ => rfl)) (d_globS (by rfl) g_NUMBER ⟨_, rfl⟩) (nomark _)) (s_one (s_ret (d_tup (d_cons (d_var 3) (d_cons (d_ix s_idx (d_var 5) d_int (fun _ _ => rfl)) (d_cons (d_methH0 h_Drawer_drawn (d_var 2) (hr.mono (by omega))) d_nil)))))) s_nil)
  (s_one (s_expr (d_lm PySem.F.plainAttrs_list PySem.F.slot_list_append PySem.F.type_list_append mt_append m_append (d_var 3) (d_cons (d_ix s_idx (d_var 5) d_int (fun _ _ => rfl)) d_nil)))))))
  (s_one (s_ret (d_tup (d_cons (d_var 3) (d_cons d_str (d_cons (d_methH0 h_Drawer_drawn (d_var 2) (hr.mono (by omega))) d_nil))))))))))), ?_⟩
    walk_at "g"
    exact ⟨d, n, rfl, hA, hn, fun h => absurd (hb.symm.trans h) (by decide), fun _ => e⟩
theorem ok_ref_init {fd : FuncData} (F : Fun K "__init__" "Drawer.__init__" s_Drawer_init a.Drawer_init fd) (T : Txt w K mg a)
    (h_need_chain : Has P w K mg base (L2.CX P w) 4 "need_chain" a.need_chain ["chain"] (sp_needA (a := a)))
    (h_all_makers : Has P w K mg base CX0 5 "all_makers" a.all_makers ["chain"] (sp_all_makers 4))
    (h_Source : HasC P w K mg base CX0 1 "Source" a.Source a.Source_init ["self", "maker", "book"] (sp_Source_init a.Source))
    (h_Drawer_made : HasM P w K mg base CX0 12 a.Drawer "made" a.Drawer_made ["self", "chain", "number"] (sp_made a.Drawer a.Source a.Link 4)) :
    FnOk P w K mg base (L2.CX P w) 13 a.Drawer_init fd ["self", "chain"] (liftSp (sp_refC a)) := by
  refine F.dokX sc_Drawer_init (fun ds W Qd Ed h => ?_) (fun cdv A outer s H E W0 ds Qd Ed hr fx h => ?_)
  · obtain ⟨p, d, n, rfl, hA, hn, hb, e⟩ := h; rfl
  · obtain ⟨p, d, n, rfl, hA, hn, hb, e⟩ := h
    refine ⟨_, (s_cons (s_expr (d_callE h_need_chain (hr.mono (by omega)) (by rfl) fx (takes_of rfl rfl rfl rfl) (d_cons (d_var 1) d_nil)))
  (s_cons (s_fld (d_var 0) (d_own (d_cons d_int d_nil)) T.cl_Drawer T.na_Drawer_book)
  (s_cons (s_fld (d_var 0) (d_own d_nil) T.cl_Drawer T.na_Drawer_lost)
  (s_cons (s_fld (d_var 0) (d_own d_nil) T.cl_Drawer T.na_Drawer_back)
  (s_cons (s_fld (d_var 0) d_bl T.cl_Drawer T.na_Drawer_stuck)
  (s_cons (s_fld (d_var 0) (d_lc rfl sc_Drawer_init.nd (i_lst (d_callH h_all_makers (hr.mono (by omega)) (by rfl) (d_cons (d_var 1) d_nil))) (blkOk_by (own := [("maker", 2)]) (N := n_Drawer_init) (sc := defScope s_Drawer_init) (by decide +kernel)) (simG_name (by decide)) (fun _ _ _ _ _ => pg_name (i := 2) sc_Drawer_init.nd rfl (Or.inl rfl)) (fun _ _ _ _ _ => t_nil) (fun _ _ _ _ _ => (d_makeH h_Source (hr.mono (by omega)) (by rfl) (d_cons (d_var 2) (d_cons (d_fld (d_var 0) T.cl_Drawer T.na_Drawer_book) d_nil))))) T.cl_Drawer T.na_Drawer_sources)
  (s_one (s_fld (d_var 0) (d_methH h_Drawer_made (d_var 0) (hr.mono (by omega)) (d_cons (d_var 1) (d_cons d_int d_nil))) T.cl_Drawer T.na_Drawer_top)))))))), ?_⟩
    walk_at "g"
    exact ⟨d, n, rfl, hA, hn, fun h => absurd (hb.symm.trans h) (by decide), fun _ => e⟩
def sp_many (a : Ads) : DSp := fun ds W Q E => ∃ c i, ds = [chD c, .int i] ∧ Good c ∧ (i < 0 ∨ 1000 < i) ∧ E a.BadMany none W
theorem ok_many {fd : FuncData} {la : Addr} (F : Fun K "first" "first" s_first la fd) (T : Txt w K mg a)
    (h_need_chain : Has P w K mg base (L2.CX P w) 4 "need_chain" a.need_chain ["chain"] sp_need_chain)
    (h_Drawer : HasC P w K mg base (L2.CX P w) 13 "Drawer" a.Drawer a.Drawer_init ["self", "chain"] (sp_Drawer_init a.Drawer a.Source a.Link))
    (h_Drawer_next : HasM P w K mg base CX0 62 a.Drawer "next" a.Drawer_next ["self"] (sp_next a.Drawer a.Source a.Link))
    (h_Drawer_drawn : HasM P w K mg base CX0 1 a.Drawer "drawn" a.Drawer_drawn ["self"] (sp_drawn a.Drawer a.Source a.Link)) :
    FnOk P w K mg base (L2.CX P w) 63 la fd ["chain", "many"] (liftSp (sp_many a)) := by
  refine F.dokX sc_first (fun ds W Qd Ed h => ?_) (fun cdv A outer s H E W0 ds Qd Ed hr fx h => ?_)
  · obtain ⟨c, i, rfl, gd, hi, e⟩ := h; rfl
  · obtain ⟨c, i, rfl, gd, hi, e⟩ := h
    obtain ⟨_, g_NUMBER⟩ := T.g_NUMBER
    obtain ⟨_, g_MOST_MANY⟩ := T.g_MOST_MANY
    refine ⟨_, (s_cons (s_expr (d_callL h_need_chain (hr.mono (by omega)) (by rfl) (d_cons (d_var 0) d_nil)))
  (s_cons (s_if (t_not (t_chain op_le s_le op_le s_le d_int (d_var 1) (d_globI (by rfl) g_MOST_MANY ⟨_, rfl⟩))) (s_one (s_raise rfl (takes_of rfl rfl rfl rfl) (pmk_own PySem.F.excBase_ValueError T.x_BadMany T.g_BadMany T.k_BadMany (raises_own T.b_BadMany T.t_BadMany) rfl) fx)) s_nil)
  (s_cons (s_set (i := 2) sc_first.nd rfl (Or.inl rfl) (d_makeL h_Drawer (hr.mono (by omega)) (by rfl) (d_cons (d_var 0) d_nil)))
  (s_cons (s_set (i := 3) sc_first.nd rfl (Or.inl rfl) (d_own d_nil))
  (s_cons (s_for (passes_of rfl) rfl (i_r1 (by rfl) T.range (d_cons (d_var 1) d_nil)) (k_name (i := 4) sc_first.nd rfl (Or.inl rfl)) (s_cons (s_set (i := 5) sc_first.nd rfl (Or.inl rfl) (d_methH0 h_Drawer_next (d_var 2) (hr.mono (by omega))))
  (s_cons (s_if (t_cmp (op_neA hr.units) s_ne (d_ix s_idx (d_var 5) d_int (fun _ _ => rfl)) (d_globS (by rfl) g_NUMBER ⟨_, rfl⟩) (nomark _)) (s_one (s_ret (d_tup (d_cons (d_var 3) (d_cons (d_ix s_idx (d_var 5) d_int (fun _ _ => rfl)) (d_cons (d_methH0 h_Drawer_drawn (d_var 2) (hr.mono (by omega))) d_nil)))))) s_nil)
  (s_one (s_expr (d_lm PySem.F.plainAttrs_list PySem.F.slot_list_append PySem.F.type_list_append mt_append m_append (d_var 3) (d_cons (d_ix s_idx (d_var 5) d_int (fun _ _ => rfl)) d_nil)))))))
  (s_one (s_ret (d_tup (d_cons (d_var 3) (d_cons d_str (d_cons (d_methH0 h_Drawer_drawn (d_var 2) (hr.mono (by omega))) d_nil))))))))))), ?_⟩
    walk_at "g"
    refine ⟨c, rfl, gd, ?_⟩
    walk_at "g"
    by_cases h0 : 0 ≤ i
    · rw [if_pos h0, if_pos (by omega)]
      exact e
    · rw [if_neg h0]
      exact e
def cntB : D → Bool
  | .tup (.str w :: _) => w == Str.ofString "count"
  | _ => false
def sp_endless (a : Ads) : DSp := fun ds W Q E => ∃ c, ds = [chD c] ∧ Good c ∧ (∃ m ∈ c.mks, ∀ ns, m ≠ .row ns) ∧ E a.NoWhole none W
theorem ok_endless {fd : FuncData} {la f1 : Addr} (F : Fun K "whole" "whole" s_whole la fd) (T : Txt w K mg a)
    (h_need_chain : Has P w K mg base (L2.CX P w) 4 "need_chain" a.need_chain ["chain"] sp_need_chain)
    (h_all_makers : Has P w K mg base CX0 5 "all_makers" a.all_makers ["chain"] (sp_all_makers 4)) (h_row_of : Has P w K mg base (L2.CX P w) 41 "row_of" f1 ["chain"] (sp_row a 20)) :
    FnOk P w K mg base (L2.CX P w) 42 la fd ["chain"] (liftSp (sp_endless a)) := by
  refine F.dokX sc_whole (fun ds W Qd Ed h => ?_) (fun cdv A outer s H E W0 ds Qd Ed hr fx h => ?_)
  · obtain ⟨c, rfl, gd, hm, e⟩ := h; rfl
  · obtain ⟨c, rfl, gd, hm, e⟩ := h
    refine ⟨_, (s_cons (s_expr (d_callL h_need_chain (hr.mono (by omega)) (by rfl) (d_cons (d_var 0) d_nil)))
  (s_cons (s_if (t_cmp (op_neA hr.units) s_ne (d_lc rfl sc_whole.nd (i_lst (d_callH h_all_makers (hr.mono (by omega)) (by rfl) (d_cons (d_var 0) d_nil))) (blkOk_by (own := [("maker", 1)]) (N := n_whole) (sc := defScope s_whole) (by decide +kernel)) (simG_name (by decide)) (fun _ _ _ _ _ => pg_name (i := 1) sc_whole.nd rfl (Or.inl rfl)) (fun _ _ _ _ _ => t_one (t_cmp (op_neA hr.units) s_ne (d_ix s_idx (d_var 1) d_int (fun _ _ => rfl)) d_str (nomark _))) (fun _ _ _ _ _ => (d_var 1))) (d_lst d_nil) (nomark _)) (s_one (s_raise rfl (takes_of rfl rfl rfl rfl) (pmk_own PySem.F.excBase_ValueError T.x_NoWhole T.g_NoWhole T.k_NoWhole (raises_own T.b_NoWhole T.t_NoWhole) rfl) fx)) s_nil)
  (s_one (s_ret (d_callE h_row_of (hr.mono (by omega)) (by rfl) fx (takes_of rfl rfl rfl rfl) (d_cons (d_var 0) d_nil)))))), ?_⟩
    walk_at "g"
    have hd := depth_lt c
    have g1 := gd.nm
    have g2 := gd.st
    refine ⟨c, rfl, gd, ?_⟩
    walk_at "g"
    refine ⟨c, rfl, by omega, g1, g2, _, .inl rfl, ?_⟩
    refine lc_done (F := fun p W2 => ∃ acc, W2 p = some (.lst acc) ∧ fNe (D.lst acc) (D.lst []) (del W2 p) fun x W1 => ∃ b, x = D.bl b ∧ if b = true then Ed a.NoWhole none W1 else sp_row a 20 [chD c] W1 (done Qd) Ed) cntB (fun d => d) (fun d hd W' Q' _ q' => ?_) (fun d hd hf W' Q' _ q' => ?_) (by rw [List.length_map]; omega) (fun p hp => ?_)
    · obtain ⟨m, hm, rfl⟩ := List.mem_map.mp hd
      cases m with
      | count b s => walk_at "g"; exact q'
      | row ns => walk_at "g"; exact q'
    · walk_at "g"
      exact q'
    · refine ⟨_, put_same, ?_⟩
      rw [del_put hp, List.map_id']
      have hne : (List.filter cntB (List.map mkD c.mks)).isEmpty = false := by
        obtain ⟨m, hm, hr⟩ := hm
        rw [← Bool.not_eq_true, List.isEmpty_iff, List.filter_eq_nil_iff]
        intro z
        refine z (mkD m) (List.mem_map.mpr ⟨m, hm, rfl⟩) ?_
        cases m with
        | count b s => rfl
        | row ns => exact absurd rfl (hr ns)
      refine fNe_fine (n := 3) (m := 1) (fine_lst.mpr fun d hd => ?_) (fine_lst.mpr (by simp)) (by decide) (by decide) ?_
      · obtain ⟨m, hm, rfl⟩ := List.mem_map.mp (List.mem_filter.mp hd).1
        exact fine_mkD m
      rw [eqD_nil, hne]
      refine ⟨_, rfl, ?_⟩
      rw [if_pos (by rfl)]
      exact e
def sp_makers : DSp := fun ds W Q _ => ∃ c, ds = [chD c] ∧ Good c ∧ Q (.lst (c.mks.map mkD)) W
theorem ok_makers {fd : FuncData} {la : Addr} (F : Fun K "makers" "makers" s_makers la fd) (T : Txt w K mg a)
    (h_need_chain : Has P w K mg base (L2.CX P w) 4 "need_chain" a.need_chain ["chain"] sp_need_chain)
    (h_all_makers : Has P w K mg base CX0 5 "all_makers" a.all_makers ["chain"] (sp_all_makers 4)) :
    FnOk P w K mg base (L2.CX P w) 6 la fd ["chain"] (liftSp sp_makers) := by
  refine F.dokX sc_makers (fun ds W Qd Ed h => ?_) (fun cdv A outer s H E W0 ds Qd Ed hr fx h => ?_)
  · obtain ⟨c, rfl, gd, e⟩ := h; rfl
  · obtain ⟨c, rfl, gd, q⟩ := h
    refine ⟨_, (s_cons (s_expr (d_callE h_need_chain (hr.mono (by omega)) (by rfl) fx (takes_of rfl rfl rfl rfl) (d_cons (d_var 0) d_nil)))
  (s_one (s_ret (d_callH h_all_makers (hr.mono (by omega)) (by rfl) (d_cons (d_var 0) d_nil))))), ?_⟩
    walk_at "g"
    have hd := depth_lt c
    have g1 := gd.nm
    have g2 := gd.st
    refine ⟨c, rfl, gd, ?_⟩
    walk_at "g"
    exact ⟨c, rfl, by omega, g1, g2, done.here q⟩
end
end DL
end
section
set_option maxRecDepth 100000
set_option maxHeartbeats 4000000
namespace DL
open PySem PySem.Spec PyProof.Rows L2 LamV
abbrev s__law_works : Stmt := top 56
abbrev n__law_works : List Str := ["_law_chain_here", "_law_works_here"]
theorem sc__law_works : FnScope n__law_works ["_law_chain_here"] (defScope s__law_works) := ⟨rfl, rfl, rfl, by decide +kernel, rfl, by decide +kernel, by decide +kernel⟩
local macro_rules | `(tactic| walk_at "g") => `(tactic| simp only [hNext, hSeq, hDrop, hRet, hRetN, hIf, hAsg, hPar, kName, kNil, kCons, kTup, gVar, gC, gUn, gOp, gNil, gCons, gN, gTup, gLst, gB, gAnd, gOr, gNot, gTNot, gTAnd, gTOr, gIf, gChain, gCall, gMeth, gFld, hFld, gLc, gLcO, gYes, hFor, iTupG, iLst, iOwn, iR1, iR2, gOwn, fSl, gNone, gPart, rSlTup, rSlLst, rSlStr, gLM, mAppend, mExtend, mPop, mClear, gMake, hKPair, gKGetI, gNotInK, kSub, hRaise,
  fI, fI0, fU, fIsi, fIsi2, fLen, fLenS, fList, fListO, fTuple, fIdx, fCatL, fCatT, fCatO, fIn, fIntB, fMin2, seqOf_lst, seqOf_tup, seqOf_frz, seqOf_put, listOf_lst, listOf_put, wipeD, dstart, List.map_cons, List.map_nil, List.length_cons, List.length_nil, List.cons_append, List.nil_append, List.getElem?_cons_zero, List.getElem?_cons_succ, List.set_cons_zero, List.set_cons_succ, List.replicate_zero, List.replicate_succ, Nat.sub_self,
  fEq_int, fEq_str, fNe_int, fNe_str, fEq_bl, fNe_bl, str_beq, str_inj, String.reduceEq, decide_true, decide_false, Bool.not_true, Bool.not_false, Bool.true_and, Bool.and_true, Bool.false_and, Bool.and_false, Bool.or_true, Bool.true_or, Bool.or_false, Bool.false_or,
  atI_0, atI_1, atI_2, atI_3, cut_1, List.drop_succ_cons, List.drop_zero, Option.some.injEq, exists_eq_left', exists_eq_left, exists_eq_right, exists_eq_right', exists_eq, exists_eq', D.bl.injEq, D.int.injEq, D.str.injEq, D.ty.injEq, D.ref.injEq, D.tup.injEq, D.lst.injEq, D.frz.injEq, Ob.lst.injEq, Ob.ins.injEq, List.cons.injEq, and_true, true_and, and_assoc, exists_and_left, exists_and_right, exists_const, if_true, if_false, reduceIte, Bool.false_eq_true, reduceCtorEq, false_and, and_false, exists_false, false_or, or_false, ne_eq, not_false_eq_true, not_true_eq_false, implies_true, Nat.reduceLeDiff, Nat.reduceAdd, Nat.reduceSub, Nat.reduceEqDiff, sizeLine, Nat.reducePow, List.append_nil, List.length_append, put_put, put_same,
  kb_NoneType_int, kb_NoneType_bool, kb_NoneType_str, kb_NoneType_tuple, kb_NoneType_list, kb_bool_int, kb_bool_bool, kb_bool_str, kb_bool_tuple, kb_bool_list, kb_int_int, kb_int_bool, kb_int_str, kb_int_tuple, kb_int_list, kb_str_int, kb_str_bool, kb_str_str, kb_str_tuple, kb_str_list, kb_tuple_int, kb_tuple_bool, kb_tuple_str, kb_tuple_tuple, kb_tuple_list, kb_list_int, kb_list_bool, kb_list_str, kb_list_tuple, kb_list_list, kindOf_non, kindOf_bl, kindOf_int, kindOf_str, kindOf_tup, kindOf_lst, kindOf_frz, len_0, Int.cast_ofNat_Int, Int.natCast_add, Int.natCast_zero, Int.natCast_one, Int.reduceAdd, Int.reduceSub, Int.reduceLT, Int.reduceLE, Int.reduceBEq, Int.reduceEq, Int.reduceNe, beq_self_eq_true, beq_iff_eq, beq_eq_false_iff_ne, decide_eq_true_eq, decide_eq_false_iff_not, Bool.not_eq_true', Bool.not_eq_false', mkD_count, mkD_row, opD_add, opD_times, opD_keep, opD_drop, opD_take, opD_each, opD_til, opD_unlike, stgD_op, stgD_both, stgD_thn, List.map_map, List.any_cons, List.any_nil, List.all_cons, List.all_nil, inD, eqF, flatD, ixN_1_0, ixN_2_0, ixN_2_1, ixN_3_0, ixN_3_1, ixN_3_2, ixN_4_0, ixN_4_1, ixN_4_2, ixN_4_3, List.length_set, List.dropLast_concat, sf_gives, sf_book, sf_given, sf_put, sf_put1, lp_told1, lp_left1, sf_len, Int.add_sub_cancel, sf_draw, lf_rule, lf_ahead, lf_beside, lf_lost, lf_over, lf_told, lf_last, lf_left, lf_len, lp_over, lp_told, lp_last, lp_left, lf_draw, lf_drawn_by, lf_sought, lf_dropped, lf_told_again, lf_ended, lf_paired, lf_followed, word_num, word_fin, word_long, df_book, df_lost, df_back, df_stuck, df_sources, df_top, df_next, df_drawn, df_undone, df_put_back, df_len, dp_stuck, fTupleT, mPopAt, iZipG, gDGet, hDPut, gNewT, gDisp, gPairs, gSetdT, lv_over, lv_told, lv_last, lv_left, lu_over, lu_told, lu_last, lu_left, ln_own, ln_ld, ld_chain, ld_makers, ld_lost, ld_back, ld_stuck, ld_book, ld_given, ld_own, lp_book, lp_book0, lp_book1, lu_told1, lu_left1, lu_leftS, lp_stuck2, Ob.dk.injEq, Ob.dt.injEq])

theorem FinX.shr {W : Wd} {H : Hp} {E : XK} {Ed : XD} (f : FinX W H E Ed) : FinX W H E (fun C dx W' => dx = none ∧ ∃ W'', (∀ x ob, W'' x = some ob → W' x = some ob) ∧ Ed C none W'') :=
  ⟨fun C W' H' ⟨_, W'', h, q⟩ s o => f.plain C W'' H' q (s.trans (step_shrink fun x e => none_of h e)) (own_shrink h (fun x e => none_of h e) o), fun C x W' H' a v ⟨z, _⟩ => by cases z⟩
def gShr (gx : XD → GE) : XD → GE := fun Ed => gx (fun C dx W' => dx = none ∧ ∃ W'', (∀ x ob, W'' x = some ob → W' x = some ob) ∧ Ed C none W'')
theorem LamOk.shr {P : Program} {w : World} {K : PySem.W.Frag} {mg : Str → Option Value} {base : Heap} {k : Nat} {x q : Str} {pr : Arguments} {bd : Expr} {sc : Scope} {gx : XD → GE} (h : LamOk P w K mg base k x q pr bd sc gx) : LamOk P w K mg base k x q pr bd sc (gShr gx) :=
  ⟨h.nm, h.bind, fun c f cd A outer s H E W0 H0 Ed hr fx => h.body c f cd A outer s H E W0 H0 _ hr fx.shr⟩
def lamNB (sc : Scope) (x : Str) : Bool := decide (sc.kind = .function) && !sc.isCoroutine && !sc.isGenerator && sc.names.all fun y => !decide (y.2 = .local) && !decide (y.2 = .cell) && (!decide (y.2 = .free) || y.1 == x)
theorem lamN_by {sc : Scope} {x : Str} (h : lamNB sc x = true) (c : Addr) : LamN sc [(x, c)] := by
  simp only [lamNB, Bool.and_eq_true, Bool.not_eq_true', decide_eq_true_eq, List.all_eq_true, Bool.or_eq_true, decide_eq_false_iff_not, beq_iff_eq] at h
  obtain ⟨⟨⟨h1, h2⟩, h3⟩, h4⟩ := h
  refine ⟨h1, h2, h3, fun y hy => ⟨(h4 y hy).1.1, (h4 y hy).1.2⟩, fun y hy hf => ?_, fun y z b e1 e2 => ?_⟩
  · rcases (h4 y hy).2 with e | e
    · exact absurd hf e
    · exact ⟨c, by simp [List.lookup, e]⟩
  · have one : ∀ {u : Str}, List.lookup u [(x, c)] = some b → u = x := fun {u} e => by
      simp only [List.lookup] at e
      split at e
      · rename_i h; exact eq_of_beq h
      · cases e
    rw [one e1, one e2]
def wkQ : Str := ("_law_works" : Str) ++ ".<locals>." ++ "<lambda>"
/-- at f stands a lambda over the chain d at c, that refuses it -/
def Refuses (P : Program) (w : World) (K : PySem.W.Frag) (mg : Str → Option Value) (base : Heap) (a : Ads) (k : Nat) (W : Wd) (c : Addr) (d : D) (f : Addr) : Prop :=
  ∃ q pr bd sc gx, W f = some (.lam q pr bd sc [("_law_chain_here", c)]) ∧ LamOk P w K mg base k "_law_chain_here" q pr bd sc gx ∧ ∀ W1 Ed Q, Ed a.BadChain none W1 → gx Ed [some d] W1 Q
theorem Refuses.keep {P : Program} {w : World} {K : PySem.W.Frag} {mg : Str → Option Value} {base : Heap} {a : Ads} {k : Nat} {W W' : Wd} {c f : Addr} {d : D} (h : Refuses P w K mg base a k W c d f) (e : ∀ ob, W f = some ob → (∀ q, ob ≠ .tbl q) → W' f = some ob) : Refuses P w K mg base a k W' c d f := by
  obtain ⟨q, pr, bd, sc, gx, h1, h2⟩ := h
  exact ⟨q, pr, bd, sc, gx, e _ h1 (fun q z => by cases z), h2⟩
/-- some lambdas stand in the list at p -/
structure WkS (P : Program) (w : World) (K : PySem.W.Frag) (mg : Str → Option Value) (base : Heap) (a : Ads) (k : Nat) (T : List (Addr × Str)) (W0 : Wd) (c : Addr) (d : D) (p : Addr) (W : Wd) (l : List Addr) : Prop where
  lst : W p = some (.lst (l.map D.ref))
  ne : ∀ f ∈ l, f ≠ p
  ref : ∀ f ∈ l, Refuses P w K mg base a k W c d f
  tab : ∀ p ∈ T, W p.1 = some (.tbl p.2)
  keep : ∀ u ob, W0 u = some ob → (∀ q, ob = .tbl q → (u, q) ∈ T) → u ≠ p ∧ W u = some ob
section
variable {P : Program} {w : World} {K : PySem.W.Frag} {mg : Str → Option Value} {base : Heap} {a : Ads} {k : Nat} {T : List (Addr × Str)} {W0 W W1 : Wd} {c p f : Addr} {d : D} {l : List Addr} {ob : Ob}
theorem WkS.next (h : WkS P w K mg base a k T W0 c d p W l) (s : SubT T W W1) (n : W1 f = none) (r : Refuses P w K mg base a k (put W1 f ob) c d f) : put W1 f ob p = some (.lst (l.map D.ref)) ∧ WkS P w K mg base a k T W0 c d p (put (put W1 f ob) p (.lst ((l ++ [f]).map D.ref))) (l ++ [f]) := by
  have lp : W1 p = some (.lst (l.map D.ref)) := s.keep _ _ h.lst (fun q z => by cases z)
  have pf : p ≠ f := fun z => by rw [z, n] at lp; cases lp
  have tb : ∀ q ∈ T, W1 q.1 = some (.tbl q.2) := fun q hq => s.keep _ _ (h.tab q hq) (fun x z => by cases z; exact hq)
  have kp : ∀ u ob', W1 u = some ob' → u ≠ f := fun u ob' e z => by rw [z, n] at e; cases e
  refine ⟨by rw [put_ne pf]; exact lp, put_same, fun g hg => ?_, fun g hg => ?_, fun q hq => ?_, fun u ob' e t => ?_⟩
  · rcases List.mem_append.mp hg with hg | hg
    · exact h.ne g hg
    · rw [List.mem_singleton.mp hg]; exact pf.symm
  · rcases List.mem_append.mp hg with hg | hg
    · refine (h.ref g hg).keep fun ob' e t => ?_
      have e1 := s.keep _ _ e (fun q z => absurd z (t q))
      rw [put_ne (h.ne g hg), put_ne (kp _ _ e1)]
      exact e1
    · rw [List.mem_singleton.mp hg]
      exact r.keep fun ob' e _ => by rw [put_ne pf.symm]; exact e
  · have e1 := tb q hq
    have np : q.1 ≠ p := fun z => by rw [z, lp] at e1; cases e1
    rw [put_ne np, put_ne (kp _ _ e1)]
    exact e1
  · obtain ⟨np, e1⟩ := h.keep u ob' e t
    have e2 := s.keep _ _ e1 t
    exact ⟨np, by rw [put_ne np, put_ne (kp _ _ e2)]; exact e2⟩
end
section
variable {P : Program} {w : World} {K : PySem.W.Frag} {mg : Str → Option Value} {base : Heap} {a : Ads}
def sp_works (P : Program) (w : World) (K : PySem.W.Frag) (mg : Str → Option Value) (base : Heap) (a : Ads) (T : List (Addr × Str)) : DSp := fun ds W Q _ => ∃ d n, ds = [d] ∧ Any n d ∧ n ≤ 40 ∧ chainB d = false ∧ (∀ p ∈ T, W p.1 = some (.tbl p.2)) ∧
  ∀ (fs : List Addr) (c : Addr) (W' : Wd), fs.length = 5 → (∀ f ∈ fs, Refuses P w K mg base a 63 W' c d f) → W' c = some (.cel d) → (∀ u ob, W u = some ob → (∀ q, ob = .tbl q → (u, q) ∈ T) → W' u = some ob) → Q (.lst (fs.map D.ref)) W'
theorem gLam_intro {q : Str} {pr : Arguments} {bd : Expr} {sc : Scope} {cl : List (Str × Addr)} {δ : Dt} {Q : D → Wd → Prop} {T : List (Addr × Str)} {W : Wd} (hT : ∀ p ∈ T, W p.1 = some (.tbl p.2)) (h : ∀ W1, SubT T W W1 → ∀ f, W1 f = none → ∀ ob W2, W2 = put W1 f ob → W2 f = some (.lam q pr bd sc cl) → Q (.ref f) W2) : gLam T q pr bd sc cl δ W Q :=
  ⟨hT, fun W1 s1 f n => h W1 s1 f n _ _ rfl put_same⟩
theorem ok_works {T : List (Addr × Str)} {Pt c la f1 f2 f3 f4 : Addr} {fd : FuncData} (F : Fun K "_law_works" "_law_works" s__law_works la fd) (hcode : fd.code = .ref c) (TB : LamX.TabB base mg c Pt) (hmT : (Pt, wkQ) ∈ T) (huT : ∀ p ∈ T, p.1 = Pt → p.2 = wkQ) (TX : Txt w K mg a)
    (h_makers : Has P w K mg base (L2.CX P w) 6 "makers" f1 ["chain"] (sp_ref1 a)) (h_Drawer : HasC P w K mg base (L2.CX P w) 13 "Drawer" a.Drawer a.Drawer_init ["self", "chain"] (sp_refC a)) (h_first : Has P w K mg base (L2.CX P w) 63 "first" f2 ["chain", "many"] (sp_ref2 a))
    (h_whole : Has P w K mg base (L2.CX P w) 42 "whole" f3 ["chain"] (sp_ref1 a)) (h_written : Has P w K mg base (L2.CX P w) 5 "written" f4 ["chain"] (sp_ref1 a)) :
    FnOk P w K mg base (L2.CX P w) 1 la fd ["_law_chain_here"] (liftSp (sp_works P w K mg base a T)) := by
  refine fn_cellD F hcode sc__law_works rfl rfl (fun n => by rfl) (fun ds W Q E h => by obtain ⟨d, _, rfl, _⟩ := h; rfl) (fun A outer s H E W0 d0 Qd Ed hr h => ?_)
  obtain ⟨d, n, e, hA, hn, hb, hT, q⟩ := h
  cases e
  refine ⟨_, (j_cons (s_set (i := 1) sc__law_works.nd rfl (Or.inl rfl) (d_own (d_cons (d_lam TB rfl hmT huT rfl (show LamX.LamS (defScope s__law_works) _ from LamX.lamS_by (by decide +kernel))) d_nil)))
  (j_cons (s_expr (d_lm PySem.F.plainAttrs_list PySem.F.slot_list_append PySem.F.type_list_append mt_append m_append (d_var 1) (d_cons (d_lam TB rfl hmT huT rfl (show LamX.LamS (defScope s__law_works) _ from LamX.lamS_by (by decide +kernel))) d_nil)))
  (j_cons (s_expr (d_lm PySem.F.plainAttrs_list PySem.F.slot_list_append PySem.F.type_list_append mt_append m_append (d_var 1) (d_cons (d_lam TB rfl hmT huT rfl (show LamX.LamS (defScope s__law_works) _ from LamX.lamS_by (by decide +kernel))) d_nil)))
  (j_cons (s_expr (d_lm PySem.F.plainAttrs_list PySem.F.slot_list_append PySem.F.type_list_append mt_append m_append (d_var 1) (d_cons (d_lam TB rfl hmT huT rfl (show LamX.LamS (defScope s__law_works) _ from LamX.lamS_by (by decide +kernel))) d_nil)))
  (j_cons (s_expr (d_lm PySem.F.plainAttrs_list PySem.F.slot_list_append PySem.F.type_list_append mt_append m_append (d_var 1) (d_cons (d_lam TB rfl hmT huT rfl (show LamX.LamS (defScope s__law_works) _ from LamX.lamS_by (by decide +kernel))) d_nil)))
  (j_ret (d_var 1))))))), ?_⟩
  simp only [jSeq, jRet]
  walk_at "g"
  refine gLam_intro hT fun W1 s1 a1 n1 ob1 W2 e2 l2 => ?_
  have r1 : Refuses P w K mg base a 63 W2 (s.heap.objs.size + 1) d0 a1 := ⟨_, _, _, _, gShr (fun Ed => gCall (sp_ref1 a) Ed (gCons (gVar 0) gNil)), l2, LamOk.shr ⟨fun c => lamN_by (by decide +kernel) c, fun _ _ _ _ => by rfl, fun c f cd A outer s H E W0 H0 Ed hr fx => d_callE h_makers (hr.mono (by omega)) (by rfl) fx (takes_of rfl rfl rfl rfl) (d_cons (d_var 0) d_nil)⟩, fun W1 Ed Q e => ⟨d0, rfl, d0, n, rfl, hA, hn, hb, rfl, W1, fun _ _ z => z, e⟩⟩
  clear l2
  intro p hp
  have S1 : WkS P w K mg base a 63 T W0 (s.heap.objs.size + 1) d0 p (put W2 p (.lst ([a1].map D.ref))) [a1] := by
    subst e2
    have tb : ∀ q ∈ T, W1 q.1 = some (.tbl q.2) := fun q hq => s1.keep _ _ (hT q hq) (fun x z => by cases z; exact hq)
    have pf : a1 ≠ p := fun z => by rw [← z, put_same] at hp; cases hp
    have kp : ∀ u ob', W1 u = some ob' → u ≠ a1 := fun u ob' e z => by rw [z, n1] at e; cases e
    have kq : ∀ u ob', put W1 a1 ob1 u = some ob' → u ≠ p := fun u ob' e z => by rw [z, hp] at e; cases e
    refine ⟨put_same, fun f hf => by rw [List.mem_singleton.mp hf]; exact pf, fun f hf => ?_, fun q hq => ?_, fun u ob' e t => ?_⟩
    · rw [List.mem_singleton.mp hf]
      exact r1.keep fun ob' e _ => by rw [put_ne pf]; exact e
    · have e1 := tb q hq
      have e2 : put W1 a1 ob1 q.1 = some (.tbl q.2) := by rw [put_ne (kp _ _ e1)]; exact e1
      rw [put_ne (kq _ _ e2)]
      exact e2
    · have e1 := s1.keep _ _ e t
      have e2 : put W1 a1 ob1 u = some ob' := by rw [put_ne (kp _ _ e1)]; exact e1
      exact ⟨kq _ _ e2, by rw [put_ne (kq _ _ e2)]; exact e2⟩

  clear r1
  simp only [jSeq]
  walk_at "g"
  refine gLam_intro S1.tab fun U2 s2 b2 n2 ob2 V2 e2 l2 => ?_
  have r2 : Refuses P w K mg base a 63 V2 (s.heap.objs.size + 1) d0 b2 := ⟨_, _, _, _, gShr (fun Ed => gMake a.Drawer (sp_refC a) Ed (gCons (gVar 0) gNil)), l2, LamOk.shr ⟨fun c => lamN_by (by decide +kernel) c, fun _ _ _ _ => by rfl, fun c f cd A outer s H E W0 H0 Ed hr fx => d_makeE h_Drawer (hr.mono (by omega)) (by rfl) fx (takes_of rfl rfl rfl rfl) (d_cons (d_var 0) d_nil)⟩, fun W1 Ed Q e => ⟨d0, rfl, fun x hx => ⟨x, d0, n, rfl, hA, hn, hb, rfl, W1, fun u ob z => by rw [put_ne (fun y => by rw [y, hx] at z; cases z)]; exact z, e⟩⟩⟩
  clear l2
  subst e2
  obtain ⟨lp2, S2⟩ := S1.next s2 n2 r2
  clear r2
  refine ⟨[a1].map D.ref, lp2, by simp, ?_⟩
  simp only [jSeq]
  walk_at "g"
  refine gLam_intro S2.tab fun U3 s3 b3 n3 ob3 V3 e3 l3 => ?_
  have r3 : Refuses P w K mg base a 63 V3 (s.heap.objs.size + 1) d0 b3 := ⟨_, _, _, _, gShr (fun Ed => gCall (sp_ref2 a) Ed (gCons (gVar 0) (gCons (gOp fSub (gC (.int 0)) (gC (.int 1))) gNil))), l3, LamOk.shr ⟨fun c => lamN_by (by decide +kernel) c, fun _ _ _ _ => by rfl, fun c f cd A outer s H E W0 H0 Ed hr fx => d_callE h_first (hr.mono (by omega)) (by rfl) fx (takes_of rfl rfl rfl rfl) (d_cons (d_var 0) (d_cons (d_op op_sub s_sub d_int d_int) d_nil))⟩, fun W1 Ed Q e => ⟨d0, rfl, 0, 1, rfl, rfl, d0, -1, n, rfl, hA, hn, hb, rfl, W1, fun _ _ z => z, e⟩⟩
  clear l3
  subst e3
  obtain ⟨lp3, S3⟩ := S2.next s3 n3 r3
  clear r3
  refine ⟨[a1, b2].map D.ref, lp3, by simp, ?_⟩
  simp only [jSeq]
  walk_at "g"
  refine gLam_intro S3.tab fun U4 s4 b4 n4 ob4 V4 e4 l4 => ?_
  have r4 : Refuses P w K mg base a 63 V4 (s.heap.objs.size + 1) d0 b4 := ⟨_, _, _, _, gShr (fun Ed => gCall (sp_ref1 a) Ed (gCons (gVar 0) gNil)), l4, LamOk.shr ⟨fun c => lamN_by (by decide +kernel) c, fun _ _ _ _ => by rfl, fun c f cd A outer s H E W0 H0 Ed hr fx => d_callE h_whole (hr.mono (by omega)) (by rfl) fx (takes_of rfl rfl rfl rfl) (d_cons (d_var 0) d_nil)⟩, fun W1 Ed Q e => ⟨d0, rfl, d0, n, rfl, hA, hn, hb, rfl, W1, fun _ _ z => z, e⟩⟩
  clear l4
  subst e4
  obtain ⟨lp4, S4⟩ := S3.next s4 n4 r4
  clear r4
  refine ⟨[a1, b2, b3].map D.ref, lp4, by simp, ?_⟩
  simp only [jSeq]
  walk_at "g"
  refine gLam_intro S4.tab fun U5 s5 b5 n5 ob5 V5 e5 l5 => ?_
  have r5 : Refuses P w K mg base a 63 V5 (s.heap.objs.size + 1) d0 b5 := ⟨_, _, _, _, gShr (fun Ed => gCall (sp_ref1 a) Ed (gCons (gVar 0) gNil)), l5, LamOk.shr ⟨fun c => lamN_by (by decide +kernel) c, fun _ _ _ _ => by rfl, fun c f cd A outer s H E W0 H0 Ed hr fx => d_callE h_written (hr.mono (by omega)) (by rfl) fx (takes_of rfl rfl rfl rfl) (d_cons (d_var 0) d_nil)⟩, fun W1 Ed Q e => ⟨d0, rfl, d0, n, rfl, hA, hn, hb, rfl, W1, fun _ _ z => z, e⟩⟩
  clear l5
  subst e5
  obtain ⟨lp5, S5⟩ := S4.next s5 n5 r5
  clear r5
  refine ⟨[a1, b2, b3, b4].map D.ref, lp5, by simp, ?_⟩
  simp only [jRet]
  walk_at "g"
  intro hc
  have hc : put (put U5 b5 ob5) p (.lst (([a1] ++ [b2] ++ [b3] ++ [b4] ++ [b5]).map D.ref)) (s.heap.objs.size + 1) = none := hc
  show done Qd (.ref p) (put (put (put U5 b5 ob5) p (.lst (([a1] ++ [b2] ++ [b3] ++ [b4] ++ [b5]).map D.ref))) (s.heap.objs.size + 1) (.cel d0))
  generalize hl : [a1] ++ [b2] ++ [b3] ++ [b4] ++ [b5] = fs at S5 hc ⊢
  have hlen : fs.length = 5 := by rw [← hl]; rfl
  generalize put (put U5 b5 ob5) p (.lst (fs.map D.ref)) = V at S5 hc ⊢
  have ne : ∀ u ob', V u = some ob' → u ≠ s.heap.objs.size + 1 := fun u ob' e z => by rw [z, hc] at e; cases e
  have lp : put V (s.heap.objs.size + 1) (.cel d0) p = some (.lst (fs.map D.ref)) := by rw [put_ne (ne _ _ S5.lst)]; exact S5.lst
  have cp : s.heap.objs.size + 1 ≠ p := fun z => ne _ _ S5.lst z.symm
  refine ⟨_, _, Conv.lst lp, q fs (s.heap.objs.size + 1) _ hlen (fun f hf => (S5.ref f hf).keep fun ob' e _ => ?_) ?_ fun u ob' e t => ?_⟩
  · rw [del_ne (S5.ne f hf), put_ne (ne _ _ e)]; exact e
  · rw [del_ne cp, put_same]
  · obtain ⟨np, e1⟩ := S5.keep u ob' e t
    rw [del_ne np, put_ne (ne _ _ e1)]; exact e1
end
end DL
end
section
set_option maxRecDepth 100000
set_option maxHeartbeats 4000000
namespace DL
open PySem PySem.Spec PyProof.Rows L2
abbrev s__law_bad : Stmt := top 57
abbrev n__law_bad : List Str := ["_law_state", "_law_far", "_law_rows", "_law_some"]
theorem sc__law_bad : FnScope n__law_bad ["_law_state"] (defScope s__law_bad) := ⟨rfl, rfl, rfl, by decide +kernel, rfl, by decide +kernel, by decide +kernel⟩
local macro_rules | `(tactic| walk_at "g") => `(tactic| simp only [hNext, hSeq, hDrop, hRet, hRetN, hIf, hAsg, hPar, kName, kNil, kCons, kTup, gVar, gC, gUn, gOp, gNil, gCons, gN, gTup, gLst, gB, gAnd, gOr, gNot, gTNot, gTAnd, gTOr, gIf, gChain, gCall, gMeth, gFld, hFld, gLc, gLcO, gYes, hFor, iTupG, iLst, iOwn, iR1, iR2, gOwn, fSl, gNone, gPart, rSlTup, rSlLst, rSlStr, gLM, mAppend, mExtend, mPop, mClear, gMake, hKPair, gKGetI, gNotInK, kSub, hRaise,
  fI, fI0, fU, fIsi, fIsi2, fLen, fLenS, fList, fListO, fTuple, fIdx, fCatL, fCatT, fCatO, fIn, fIntB, fMin2, seqOf_lst, seqOf_tup, seqOf_frz, seqOf_put, listOf_lst, listOf_put, wipeD, dstart, List.map_cons, List.map_nil, List.length_cons, List.length_nil, List.cons_append, List.nil_append, List.getElem?_cons_zero, List.getElem?_cons_succ, List.set_cons_zero, List.set_cons_succ, List.replicate_zero, List.replicate_succ, Nat.sub_self,
  fEq_int, fEq_str, fNe_int, fNe_str, fEq_bl, fNe_bl, str_beq, str_inj, String.reduceEq, decide_true, decide_false, Bool.not_true, Bool.not_false, Bool.true_and, Bool.and_true, Bool.false_and, Bool.and_false, Bool.or_true, Bool.true_or, Bool.or_false, Bool.false_or,
  atI_0, atI_1, atI_2, atI_3, cut_1, List.drop_succ_cons, List.drop_zero, Option.some.injEq, exists_eq_left', exists_eq_left, exists_eq_right, exists_eq_right', exists_eq, exists_eq', D.bl.injEq, D.int.injEq, D.str.injEq, D.ty.injEq, D.ref.injEq, D.tup.injEq, D.lst.injEq, D.frz.injEq, Ob.lst.injEq, Ob.ins.injEq, List.cons.injEq, and_true, true_and, and_assoc, exists_and_left, exists_and_right, exists_const, if_true, if_false, reduceIte, Bool.false_eq_true, reduceCtorEq, false_and, and_false, exists_false, false_or, or_false, ne_eq, not_false_eq_true, not_true_eq_false, implies_true, Nat.reduceLeDiff, Nat.reduceAdd, Nat.reduceSub, Nat.reduceEqDiff, sizeLine, Nat.reducePow, List.append_nil, List.length_append, put_put, put_same,
  kb_NoneType_int, kb_NoneType_bool, kb_NoneType_str, kb_NoneType_tuple, kb_NoneType_list, kb_bool_int, kb_bool_bool, kb_bool_str, kb_bool_tuple, kb_bool_list, kb_int_int, kb_int_bool, kb_int_str, kb_int_tuple, kb_int_list, kb_str_int, kb_str_bool, kb_str_str, kb_str_tuple, kb_str_list, kb_tuple_int, kb_tuple_bool, kb_tuple_str, kb_tuple_tuple, kb_tuple_list, kb_list_int, kb_list_bool, kb_list_str, kb_list_tuple, kb_list_list, kindOf_non, kindOf_bl, kindOf_int, kindOf_str, kindOf_tup, kindOf_lst, kindOf_frz, len_0, Int.cast_ofNat_Int, Int.natCast_add, Int.natCast_zero, Int.natCast_one, Int.reduceAdd, Int.reduceSub, Int.reduceLT, Int.reduceLE, Int.reduceBEq, Int.reduceEq, Int.reduceNe, beq_self_eq_true, beq_iff_eq, beq_eq_false_iff_ne, decide_eq_true_eq, decide_eq_false_iff_not, Bool.not_eq_true', Bool.not_eq_false', mkD_count, mkD_row, opD_add, opD_times, opD_keep, opD_drop, opD_take, opD_each, opD_til, opD_unlike, stgD_op, stgD_both, stgD_thn, List.map_map, List.any_cons, List.any_nil, List.all_cons, List.all_nil, inD, eqF, flatD, ixN_1_0, ixN_2_0, ixN_2_1, ixN_3_0, ixN_3_1, ixN_3_2, ixN_4_0, ixN_4_1, ixN_4_2, ixN_4_3, List.length_set, List.dropLast_concat, sf_gives, sf_book, sf_given, sf_put, sf_put1, lp_told1, lp_left1, sf_len, Int.add_sub_cancel, sf_draw, lf_rule, lf_ahead, lf_beside, lf_lost, lf_over, lf_told, lf_last, lf_left, lf_len, lp_over, lp_told, lp_last, lp_left, lf_draw, lf_drawn_by, lf_sought, lf_dropped, lf_told_again, lf_ended, lf_paired, lf_followed, word_num, word_fin, word_long, df_book, df_lost, df_back, df_stuck, df_sources, df_top, df_next, df_drawn, df_undone, df_put_back, df_len, dp_stuck, fTupleT, mPopAt, iZipG, gDGet, hDPut, gNewT, gDisp, gPairs, gSetdT, lv_over, lv_told, lv_last, lv_left, lu_over, lu_told, lu_last, lu_left, ln_own, ln_ld, ld_chain, ld_makers, ld_lost, ld_back, ld_stuck, ld_book, ld_given, ld_own, lp_book, lp_book0, lp_book1, lu_told1, lu_left1, lu_leftS, lp_stuck2, Ob.dk.injEq, Ob.dt.injEq])

section
variable {P : Program} {w : World} {K : PySem.W.Frag} {mg : Str → Option Value} {base : Heap} {a : Ads} {b : LawAds} {n : Nat}
def anyB : Nat → D → Bool
  | _, .int _ => true
  | _, .str w => decide (w ∈ wordsL)
  | n + 1, .tup ds => decide (ds.length ≤ 100000) && ds.all (anyB n)
  | _, _ => false
theorem any_of {n : Nat} : ∀ {d : D}, anyB n d = true → Any n d := by
  induction n with
  | zero =>
    intro d h
    cases d with
    | int i => exact .int i
    | str w => exact .str (of_decide_eq_true h)
    | _ => cases h
  | succ n ih =>
    intro d h
    cases d with
    | int i => exact .int i
    | str w => exact .str (of_decide_eq_true h)
    | tup ds =>
      have h : (decide (ds.length ≤ 100000) && ds.all (anyB n)) = true := h
      simp only [Bool.and_eq_true, decide_eq_true_eq, List.all_eq_true] at h
      exact .tup h.1 fun d hd => ih (h.2 d hd)
    | _ => cases h
theorem atI_ex {l : List D} {k : Int} {C : D → Prop} (h0 : 0 ≤ k) (h1 : k < l.length) (h : ∀ d ∈ l, C d) : ∃ x, atI l k = some x ∧ C x := by
  obtain ⟨d, e, hd⟩ := atI_mem h0 h1
  exact ⟨d, e, h d hd⟩
def BadM (d : D) : Prop := Any 3 d ∧ mkB d = false
def BadS (d : D) : Prop := Any 9 d ∧ (stB d = false ∨ (isInn d = true ∧ goodTop (innD d) = none))
def sp_lawbad : DSp := fun ds W Q _ => ∃ (s : Addr) (o : Ob), ds = [.ref s] ∧ W s = some o ∧ StOb o ∧ ∀ (m t : D) o', BadM m → BadS t → StOb o' → Q (.tup [m, t]) (put W s o')
theorem ok_lawbad {fd : FuncData} {f : Addr} (F : Fun K "_law_bad" "_law_bad" s__law_bad f fd) (T : Txt w K mg a) (h__law_drawn : Has P w K mg base CX0 1 "_law_drawn" b.drawn ["_law_state", "_law_many"] sp_lawdrawn) : FnOk P w K mg base CX0 2 f fd ["_law_state"] (liftSp sp_lawbad) := by
  refine F.dok sc__law_bad (fun ds W Qd Ed h => ?_) (fun cdv A outer s H E W0 ds Qd Ed hr h => ?_)
  · obtain ⟨_, _, rfl, _⟩ := h; rfl
  · obtain ⟨s, o, rfl, hs, so, q⟩ := h
    refine ⟨_, (s_cons (s_set (i := 1) sc__law_bad.nd rfl (Or.inl rfl) (d_op op_add s_add d_int (d_callH h__law_drawn (hr.mono (by omega)) (by rfl) (d_cons (d_var 0) (d_cons (d_op op_pow s_pow d_int d_int) d_nil)))))
  (s_cons (s_set (i := 2) sc__law_bad.nd rfl (Or.inl rfl) (d_lst (d_cons (d_tup d_nil) (d_cons (d_tup (d_cons d_str d_nil)) (d_cons (d_tup (d_cons d_str (d_cons (d_tup (d_cons d_int (d_cons d_str d_nil))) d_nil))) (d_cons (d_tup (d_cons d_str (d_cons (d_op op_repTA s_repT (d_tup (d_cons d_int d_nil)) d_int) d_nil))) (d_cons (d_tup (d_cons d_str (d_cons d_int d_nil))) (d_cons (d_tup (d_cons d_str (d_cons d_int (d_cons d_int (d_cons d_int d_nil))))) (d_cons (d_tup (d_cons d_str (d_cons d_int (d_cons d_int d_nil)))) d_nil)))))))))
  (s_cons (s_set (i := 2) sc__law_bad.nd rfl (Or.inl rfl) (d_op op_cat s_catL (d_var 2) (d_lst (d_cons (d_tup (d_cons d_str (d_cons d_str (d_cons d_int d_nil)))) (d_cons (d_tup (d_cons d_str (d_cons d_int d_nil))) (d_cons (d_tup (d_cons d_str (d_cons d_int (d_cons d_int d_nil)))) d_nil))))))
  (s_cons (s_set (i := 3) sc__law_bad.nd rfl (Or.inl rfl) (d_lst (d_cons (d_tup d_nil) (d_cons (d_tup (d_cons d_str d_nil)) (d_cons (d_tup (d_cons d_str (d_cons d_int (d_cons d_int d_nil)))) (d_cons (d_tup (d_cons d_str (d_cons d_str d_nil))) (d_cons (d_tup (d_cons d_str (d_cons d_int (d_cons d_int d_nil)))) (d_cons (d_tup (d_cons d_str (d_cons (d_op op_sub s_sub d_int d_int) (d_cons d_int d_nil)))) (d_cons (d_tup (d_cons d_str (d_cons d_int (d_cons d_int d_nil)))) d_nil)))))))))
  (s_cons (s_set (i := 3) sc__law_bad.nd rfl (Or.inl rfl) (d_op op_cat s_catL (d_var 3) (d_lst (d_cons (d_tup (d_cons d_str (d_cons d_int d_nil))) (d_cons (d_tup (d_cons d_str (d_cons d_int (d_cons d_int d_nil)))) (d_cons (d_tup (d_cons d_str (d_cons (d_var 1) d_nil))) (d_cons (d_tup (d_cons d_str (d_cons (d_op op_sub s_sub d_int (d_var 1)) d_nil))) (d_cons (d_tup (d_cons d_str (d_cons d_int d_nil))) d_nil))))))))
  (s_cons (s_set (i := 3) sc__law_bad.nd rfl (Or.inl rfl) (d_op op_cat s_catL (d_var 3) (d_lst (d_cons (d_tup (d_cons d_str (d_cons (d_op op_sub s_sub d_int d_int) d_nil))) (d_cons (d_tup (d_cons d_str (d_cons d_int d_nil))) (d_cons (d_tup (d_cons d_str (d_cons d_int d_nil))) (d_cons (d_tup (d_cons d_str d_nil)) (d_cons (d_tup (d_cons d_str (d_cons d_int d_nil))) (d_cons (d_tup (d_cons d_str d_nil)) d_nil)))))))))
  (s_cons (s_set (i := 3) sc__law_bad.nd rfl (Or.inl rfl) (d_op op_cat s_catL (d_var 3) (d_lst (d_cons (d_tup (d_cons d_str (d_cons d_int d_nil))) (d_cons (d_tup (d_cons d_str (d_cons (d_tup d_nil) d_nil))) (d_cons (d_tup (d_cons d_str (d_cons d_int d_nil))) (d_cons (d_tup (d_cons d_str (d_cons d_int d_nil))) d_nil)))))))
  (s_cons (s_set (i := 3) sc__law_bad.nd rfl (Or.inl rfl) (d_op op_cat s_catL (d_var 3) (d_lst (d_cons (d_tup (d_cons d_str (d_cons (d_tup (d_cons (d_tup (d_cons d_str (d_cons d_int (d_cons d_int d_nil)))) d_nil)) d_nil))) (d_cons (d_tup (d_cons d_str (d_cons (d_tup (d_cons (d_tup (d_cons d_str (d_cons (d_tup d_nil) d_nil))) (d_cons d_int d_nil))) d_nil))) (d_cons (d_tup (d_cons d_str (d_cons (d_tup (d_cons (d_tup (d_cons d_str (d_cons d_int d_nil))) (d_cons (d_tup d_nil) d_nil))) d_nil))) d_nil))))))
  (s_one (s_ret (d_tup (d_cons (d_ix s_idx (d_var 2) (d_callH h__law_drawn (hr.mono (by omega)) (by rfl) (d_cons (d_var 0) (d_cons d_int d_nil))) (fun _ _ => rfl)) (d_cons (d_ix s_idx (d_var 3) (d_callH h__law_drawn (hr.mono (by omega)) (by rfl) (d_cons (d_var 0) (d_cons d_int d_nil))) (fun _ _ => rfl)) d_nil))))))))))))), ?_⟩
    walk_at "g"
    refine ⟨⟨by decide, by decide, by decide⟩, s, o, 10 ^ 29, rfl, hs, so, by decide, by decide, fun k1 o1 a1 b1 so1 => ?_⟩
    walk_at "g"
    refine ⟨_, _, rfl, rfl, by simp, by decide, by decide, by decide, s, o1, 10, rfl, put_same, so1, by decide, by decide, fun k2 o2 a2 b2 so2 => ?_⟩
    walk_at "g"
    refine atI_ex a2 b2 fun m hm => ?_
    have bm : BadM m := by
      simp only [List.mem_cons, List.not_mem_nil, or_false] at hm
      rcases hm with rfl | rfl | rfl | rfl | rfl | rfl | rfl | rfl | rfl | rfl <;> exact ⟨any_of (by decide +kernel), by decide +kernel⟩
    clear hm
    refine ⟨s, o2, 25, rfl, put_same, so2, by decide, by decide, fun k3 o3 a3 b3 so3 => ?_⟩
    walk_at "g"
    refine atI_ex a3 b3 fun t ht => ?_
    have bt : BadS t := by
      simp only [List.mem_cons, List.not_mem_nil, or_false] at ht
      rcases ht with rfl | rfl | rfl | rfl | rfl | rfl | rfl | rfl | rfl | rfl | rfl | rfl | rfl | rfl | rfl | rfl | rfl | rfl | rfl | rfl | rfl | rfl | rfl | rfl | rfl
      all_goals first
        | exact ⟨any_of (by decide +kernel), .inl (by decide +kernel)⟩
        | exact ⟨any_of (by decide +kernel), .inr ⟨by decide +kernel, by rfl⟩⟩
        | exact ⟨any_of rfl, .inl (by show (decide _ && decide _) = false; simp; omega)⟩
    exact done.here (q m t o3 bm bt so3)
end
end DL
end
section
set_option maxRecDepth 100000
set_option maxHeartbeats 4000000
namespace DL
open PySem PySem.Spec PyProof.Rows L2
local macro_rules | `(tactic| walk_at "g") => `(tactic| simp only [hNext, hSeq, hDrop, hRet, hRetN, hIf, hAsg, hPar, kName, kNil, kCons, kTup, gVar, gC, gUn, gOp, gNil, gCons, gN, gTup, gLst, gB, gAnd, gOr, gNot, gTNot, gTAnd, gTOr, gIf, gChain, gCall, gMeth, gFld, hFld, gLc, gLcO, gYes, hFor, iTupG, iLst, iOwn, iR1, iR2, gOwn, fSl, gNone, gPart, rSlTup, rSlLst, rSlStr, gLM, mAppend, mExtend, mPop, mClear, gMake, hKPair, gKGetI, gNotInK, kSub, hRaise,
  fI, fI0, fU, fIsi, fIsi2, fLen, fLenS, fList, fListO, fTuple, fIdx, fCatL, fCatT, fCatO, fIn, fIntB, fMin2, seqOf_lst, seqOf_tup, seqOf_frz, seqOf_put, listOf_lst, listOf_put, wipeD, dstart, List.map_cons, List.map_nil, List.length_cons, List.length_nil, List.cons_append, List.nil_append, List.getElem?_cons_zero, List.getElem?_cons_succ, List.set_cons_zero, List.set_cons_succ, List.replicate_zero, List.replicate_succ, Nat.sub_self,
  fEq_int, fEq_str, fNe_int, fNe_str, fEq_bl, fNe_bl, str_beq, str_inj, String.reduceEq, decide_true, decide_false, Bool.not_true, Bool.not_false, Bool.true_and, Bool.and_true, Bool.false_and, Bool.and_false, Bool.or_true, Bool.true_or, Bool.or_false, Bool.false_or,
  atI_0, atI_1, atI_2, atI_3, cut_1, List.drop_succ_cons, List.drop_zero, Option.some.injEq, exists_eq_left', exists_eq_left, exists_eq_right, exists_eq_right', exists_eq, exists_eq', D.bl.injEq, D.int.injEq, D.str.injEq, D.ty.injEq, D.ref.injEq, D.tup.injEq, D.lst.injEq, D.frz.injEq, Ob.lst.injEq, Ob.ins.injEq, List.cons.injEq, and_true, true_and, and_assoc, exists_and_left, exists_and_right, exists_const, if_true, if_false, reduceIte, Bool.false_eq_true, reduceCtorEq, false_and, and_false, exists_false, false_or, or_false, ne_eq, not_false_eq_true, not_true_eq_false, implies_true, Nat.reduceLeDiff, Nat.reduceAdd, Nat.reduceSub, Nat.reduceEqDiff, sizeLine, Nat.reducePow, List.append_nil, List.length_append, put_put, put_same,
  kb_NoneType_int, kb_NoneType_bool, kb_NoneType_str, kb_NoneType_tuple, kb_NoneType_list, kb_bool_int, kb_bool_bool, kb_bool_str, kb_bool_tuple, kb_bool_list, kb_int_int, kb_int_bool, kb_int_str, kb_int_tuple, kb_int_list, kb_str_int, kb_str_bool, kb_str_str, kb_str_tuple, kb_str_list, kb_tuple_int, kb_tuple_bool, kb_tuple_str, kb_tuple_tuple, kb_tuple_list, kb_list_int, kb_list_bool, kb_list_str, kb_list_tuple, kb_list_list, kindOf_non, kindOf_bl, kindOf_int, kindOf_str, kindOf_tup, kindOf_lst, kindOf_frz, len_0, Int.cast_ofNat_Int, Int.natCast_add, Int.natCast_zero, Int.natCast_one, Int.reduceAdd, Int.reduceSub, Int.reduceLT, Int.reduceLE, Int.reduceBEq, Int.reduceEq, Int.reduceNe, beq_self_eq_true, beq_iff_eq, beq_eq_false_iff_ne, decide_eq_true_eq, decide_eq_false_iff_not, Bool.not_eq_true', Bool.not_eq_false', mkD_count, mkD_row, opD_add, opD_times, opD_keep, opD_drop, opD_take, opD_each, opD_til, opD_unlike, stgD_op, stgD_both, stgD_thn, List.map_map, List.any_cons, List.any_nil, List.all_cons, List.all_nil, inD, eqF, flatD, ixN_1_0, ixN_2_0, ixN_2_1, ixN_3_0, ixN_3_1, ixN_3_2, ixN_4_0, ixN_4_1, ixN_4_2, ixN_4_3, List.length_set, List.dropLast_concat, sf_gives, sf_book, sf_given, sf_put, sf_put1, lp_told1, lp_left1, sf_len, Int.add_sub_cancel, sf_draw, lf_rule, lf_ahead, lf_beside, lf_lost, lf_over, lf_told, lf_last, lf_left, lf_len, lp_over, lp_told, lp_last, lp_left, lf_draw, lf_drawn_by, lf_sought, lf_dropped, lf_told_again, lf_ended, lf_paired, lf_followed, word_num, word_fin, word_long, df_book, df_lost, df_back, df_stuck, df_sources, df_top, df_next, df_drawn, df_undone, df_put_back, df_len, dp_stuck, fTupleT, mPopAt, iZipG, gDGet, hDPut, gNewT, gDisp, gPairs, gSetdT, lv_over, lv_told, lv_last, lv_left, lu_over, lu_told, lu_last, lu_left, ln_own, ln_ld, ld_chain, ld_makers, ld_lost, ld_back, ld_stuck, ld_book, ld_given, ld_own, lp_book, lp_book0, lp_book1, lu_told1, lu_left1, lu_leftS, lp_stuck2, Ob.dk.injEq, Ob.dt.injEq])

theorem any_str (s : String) (h : decide (Str.ofString s ∈ wordsL) = true) {n : Nat} : Any n (.str (Str.ofString s)) := .str (of_decide_eq_true h)
theorem any_t1 {n : Nat} {x : D} (a : Any n x) : Any (n + 1) (.tup [x]) := .tup (by simp) (by simpa using a)
theorem any_t2 {n : Nat} {x y : D} (a : Any n x) (b : Any n y) : Any (n + 1) (.tup [x, y]) := .tup (by simp) (by simp only [List.forall_mem_cons]; exact ⟨a, b, fun _ h => by cases h⟩)
theorem any_t3 {n : Nat} {x y z : D} (a : Any n x) (b : Any n y) (c : Any n z) : Any (n + 1) (.tup [x, y, z]) := .tup (by simp) (by simp only [List.forall_mem_cons]; exact ⟨a, b, c, fun _ h => by cases h⟩)
theorem any_mkD {m : Maker} (h : okMk m) : Any 2 (mkD m) := by
  cases m with
  | count b s => exact any_t3 (any_str "count" (by decide +kernel)) (.int _) (.int _)
  | row ns =>
    refine any_t2 (any_str "row" (by decide +kernel)) (.tup ?_ fun d hd => ?_)
    · have h : ns.length ≤ 100 := h
      rw [List.length_map]; omega
    · obtain ⟨n, _, rfl⟩ := List.mem_map.mp hd
      exact .int _
theorem any_opD (o : Op) : Any 1 (opD o) := by
  cases o <;> first | exact any_t1 (.str (by decide +kernel)) | exact any_t2 (.str (by decide +kernel)) (.int _) | exact any_t3 (.str (by decide +kernel)) (.int _) (.int _)
theorem any_ch : ∀ c : Ch, okCh c → c.nst ≤ 12 → Any (3 * c.depth + 3) (chD c) ∧ ∀ d ∈ c.sts, Any (3 * c.depth + 1) d := by
  have up : ∀ c : Ch, okCh c → c.nst ≤ 12 → (∀ d ∈ c.sts, Any (3 * c.depth + 1) d) → Any (3 * c.depth + 3) (chD c) := fun c ok hs h => by
    refine any_t2 ((any_mkD (okCh_iff.mp ok).1).mono (by omega)) (.tup ?_ h)
    have e : c.sts.length = c.stl.length := by rw [sts_eq, List.length_map]
    have := stl_le c
    omega
  intro c
  induction c with
  | src m => exact fun ok hs => ⟨up _ ok hs (fun d hd => (by cases hd)), fun d hd => (by cases hd)⟩
  | op c o ih =>
    intro ok hs
    have h : ∀ d ∈ (Ch.op c o).sts, Any (3 * (Ch.op c o).depth + 1) d := fun d hd => by
      rcases List.mem_append.mp hd with hd | hd
      · exact (ih ok.1 (by have : (Ch.op c o).nst = c.nst + 1 := rfl; omega)).2 d hd
      · rw [List.mem_singleton.mp hd]; exact (any_opD o).mono (by omega)
    exact ⟨up _ ok hs h, h⟩
  | both c i ih ih2 =>
    intro ok hs
    have hs' : c.nst + i.nst + 1 ≤ 12 := hs
    have h : ∀ d ∈ (Ch.both c i).sts, Any (3 * (Ch.both c i).depth + 1) d := fun d hd => by
      have l1 : c.depth ≤ (Ch.both c i).depth := Nat.le_max_left _ _
      have l2 : i.depth + 1 ≤ (Ch.both c i).depth := Nat.le_max_right _ _
      rcases List.mem_append.mp hd with hd | hd
      · exact ((ih ok.1 (by omega)).2 d hd).mono (by omega)
      · rw [List.mem_singleton.mp hd]
        exact (any_t2 (any_str "both" (by decide +kernel)) (ih2 ok.2 (by omega)).1).mono (by omega)
    exact ⟨up _ ok hs h, h⟩
  | thn c i ih ih2 =>
    intro ok hs
    have hs' : c.nst + i.nst + 1 ≤ 12 := hs
    have h : ∀ d ∈ (Ch.thn c i).sts, Any (3 * (Ch.thn c i).depth + 1) d := fun d hd => by
      have l1 : c.depth ≤ (Ch.thn c i).depth := Nat.le_max_left _ _
      have l2 : i.depth + 1 ≤ (Ch.thn c i).depth := Nat.le_max_right _ _
      rcases List.mem_append.mp hd with hd | hd
      · exact ((ih ok.1 (by omega)).2 d hd).mono (by omega)
      · rw [List.mem_singleton.mp hd]
        exact (any_t2 (any_str "then" (by decide +kernel)) (ih2 ok.2 (by omega)).1).mono (by omega)
    exact ⟨up _ ok hs h, h⟩
theorem runB_bad : ∀ (f : Nat) (l : List D) (x y : Nat), (∃ d ∈ l, goodTop d = none) → runB f l x y = false
  | 0, _, _, _, _ => rfl
  | f + 1, l, x, y, ⟨d, hd, hb⟩ => by
    rcases List.eq_nil_or_concat l with rfl | ⟨l', z, rfl⟩
    · cases hd
    rw [List.concat_eq_append] at hd ⊢
    cases hz : goodTop z with
    | none => exact runB_none hz
    | some ss =>
      rw [runB_some hz]
      split
      · rfl
      · refine runB_bad f _ _ _ ⟨d, ?_, hb⟩
        rcases List.mem_append.mp hd with h | h
        · exact List.mem_append_left _ h
        · rw [List.mem_singleton.mp h, hz] at hb; cases hb
theorem bad_top {d : D} (h : goodTop d = none) : chainB d = false := runB_bad 5 [d] 0 0 ⟨d, List.mem_singleton.mpr rfl, h⟩
theorem bad_inner {m : D} {ss : List D} {t : D} (ht : t ∈ ss) (h : BadS t) : chainB (.tup [m, .tup ss]) = false := by
  cases e : goodTop (.tup [m, .tup ss]) with
  | none => exact bad_top e
  | some ss' =>
    have e' : (if mkB m && ss.all stB then some ss else none) = some ss' := e
    split at e'
    · rename_i hc
      cases e'
      rw [Bool.and_eq_true, List.all_eq_true] at hc
      rcases h.2 with h2 | ⟨h2, h3⟩
      · rw [hc.2 t ht] at h2; cases h2
      · show runB (4 + 1) ([] ++ [_]) 0 0 = false
        rw [runB_some e]
        split
        · rfl
        · exact runB_bad _ _ _ _ ⟨innD t, List.mem_append_right _ (List.mem_map.mpr ⟨t, List.mem_filter.mpr ⟨ht, h2⟩, rfl⟩), h3⟩
    · cases e'
theorem bad_maker {m s : D} (h : mkB m = false) : goodTop (.tup [m, s]) = none := by
  cases s <;> simp [goodTop, h]
end DL
end
section
set_option maxRecDepth 100000
set_option maxHeartbeats 4000000
namespace DL
open PySem PySem.Spec PyProof.Rows L2
abbrev s_law : Stmt := top 58
abbrev n_law : List Str := ["_law_script", "_law_row", "_law_turn", "_law_maker_here", "_law_endless", "_law_stage_here", "_law_at", "_law_odd", "_law_chain_here", "_law_good", "_law_state", "_law_work"]
theorem sc_law : FnScope n_law ["_law_script"] (defScope s_law) := ⟨rfl, rfl, rfl, by decide +kernel, rfl, by decide +kernel, by decide +kernel⟩
local macro_rules | `(tactic| walk_at "g") => `(tactic| simp only [hNext, hSeq, hDrop, hRet, hRetN, hIf, hAsg, hPar, kName, kNil, kCons, kTup, gVar, gC, gUn, gOp, gNil, gCons, gN, gTup, gLst, gB, gAnd, gOr, gNot, gTNot, gTAnd, gTOr, gIf, gChain, gCall, gMeth, gFld, hFld, gLc, gLcO, gYes, hFor, iTupG, iLst, iOwn, iR1, iR2, gOwn, fSl, gNone, gPart, rSlTup, rSlLst, rSlStr, gLM, mAppend, mExtend, mPop, mClear, gMake, hKPair, gKGetI, gNotInK, kSub, hRaise,
  fI, fI0, fU, fIsi, fIsi2, fLen, fLenS, fList, fListO, fTuple, fIdx, fCatL, fCatT, fCatO, fIn, fIntB, fMin2, seqOf_lst, seqOf_tup, seqOf_frz, seqOf_put, listOf_lst, listOf_put, wipeD, dstart, List.map_cons, List.map_nil, List.length_cons, List.length_nil, List.cons_append, List.nil_append, List.getElem?_cons_zero, List.getElem?_cons_succ, List.set_cons_zero, List.set_cons_succ, List.replicate_zero, List.replicate_succ, Nat.sub_self,
  fEq_int, fEq_str, fNe_int, fNe_str, fEq_bl, fNe_bl, str_beq, str_inj, String.reduceEq, decide_true, decide_false, Bool.not_true, Bool.not_false, Bool.true_and, Bool.and_true, Bool.false_and, Bool.and_false, Bool.or_true, Bool.true_or, Bool.or_false, Bool.false_or,
  atI_0, atI_1, atI_2, atI_3, cut_1, List.drop_succ_cons, List.drop_zero, Option.some.injEq, exists_eq_left', exists_eq_left, exists_eq_right, exists_eq_right', exists_eq, exists_eq', D.bl.injEq, D.int.injEq, D.str.injEq, D.ty.injEq, D.ref.injEq, D.tup.injEq, D.lst.injEq, D.frz.injEq, Ob.lst.injEq, Ob.ins.injEq, List.cons.injEq, and_true, true_and, and_assoc, exists_and_left, exists_and_right, exists_const, if_true, if_false, reduceIte, Bool.false_eq_true, reduceCtorEq, false_and, and_false, exists_false, false_or, or_false, ne_eq, not_false_eq_true, not_true_eq_false, implies_true, Nat.reduceLeDiff, Nat.reduceAdd, Nat.reduceSub, Nat.reduceEqDiff, sizeLine, Nat.reducePow, List.append_nil, List.length_append, put_put, put_same,
  kb_NoneType_int, kb_NoneType_bool, kb_NoneType_str, kb_NoneType_tuple, kb_NoneType_list, kb_bool_int, kb_bool_bool, kb_bool_str, kb_bool_tuple, kb_bool_list, kb_int_int, kb_int_bool, kb_int_str, kb_int_tuple, kb_int_list, kb_str_int, kb_str_bool, kb_str_str, kb_str_tuple, kb_str_list, kb_tuple_int, kb_tuple_bool, kb_tuple_str, kb_tuple_tuple, kb_tuple_list, kb_list_int, kb_list_bool, kb_list_str, kb_list_tuple, kb_list_list, kindOf_non, kindOf_bl, kindOf_int, kindOf_str, kindOf_tup, kindOf_lst, kindOf_frz, len_0, Int.cast_ofNat_Int, Int.natCast_add, Int.natCast_zero, Int.natCast_one, Int.reduceAdd, Int.reduceSub, Int.reduceLT, Int.reduceLE, Int.reduceBEq, Int.reduceEq, Int.reduceNe, beq_self_eq_true, beq_iff_eq, beq_eq_false_iff_ne, decide_eq_true_eq, decide_eq_false_iff_not, Bool.not_eq_true', Bool.not_eq_false', mkD_count, mkD_row, opD_add, opD_times, opD_keep, opD_drop, opD_take, opD_each, opD_til, opD_unlike, stgD_op, stgD_both, stgD_thn, List.map_map, List.any_cons, List.any_nil, List.all_cons, List.all_nil, inD, eqF, flatD, ixN_1_0, ixN_2_0, ixN_2_1, ixN_3_0, ixN_3_1, ixN_3_2, ixN_4_0, ixN_4_1, ixN_4_2, ixN_4_3, List.length_set, List.dropLast_concat, sf_gives, sf_book, sf_given, sf_put, sf_put1, lp_told1, lp_left1, sf_len, Int.add_sub_cancel, sf_draw, lf_rule, lf_ahead, lf_beside, lf_lost, lf_over, lf_told, lf_last, lf_left, lf_len, lp_over, lp_told, lp_last, lp_left, lf_draw, lf_drawn_by, lf_sought, lf_dropped, lf_told_again, lf_ended, lf_paired, lf_followed, word_num, word_fin, word_long, df_book, df_lost, df_back, df_stuck, df_sources, df_top, df_next, df_drawn, df_undone, df_put_back, df_len, dp_stuck, fTupleT, mPopAt, iZipG, gDGet, hDPut, gNewT, gDisp, gPairs, gSetdT, lv_over, lv_told, lv_last, lv_left, lu_over, lu_told, lu_last, lu_left, ln_own, ln_ld, ld_chain, ld_makers, ld_lost, ld_back, ld_stuck, ld_book, ld_given, ld_own, lp_book, lp_book0, lp_book1, lu_told1, lu_left1, lu_leftS, lp_stuck2, Ob.dk.injEq, Ob.dt.injEq])

def lmk : D := .tup [.str (Str.ofString "row"), .tup [.int 1, .int 2]]
def lrow : D := .tup [.tup [.str (Str.ofString "row"), .tup [.int 1, .int 2]], .tup []]
def sp_f1 (a : Ads) : DSp := fun ds W Q E => sp_first ds W Q E ∨ sp_many a ds W Q E
/-- the law, the tables of its lambdas and of those of _law_works -/
def sp_law2 (Pt Pw : Addr) : DSp := fun ds W Q _ => ∃ ns : List Int, ds = [.frz (ns.map D.int)] ∧ ns.length ≤ 63 ∧ W = put (put (fun _ => none) Pt (.tbl lamQ)) Pw (.tbl wkQ) ∧ ∀ W', Q (.bl true) W'
def B1w (P : Program) (w : World) (K : PySem.W.Frag) (mg : Str → Option Value) (base : Heap) (a : Ads) (Pt : Addr) (Pw : Addr) : GS := (hIf (gB (gOp fNe (gLc (iLst (gCall (sp_works P w K mg base a [(Pt, lamQ), (Pw, wkQ)]) XD0 (gCons (gVar 7) gNil))) (kName 11) (gB (gOp fNe (gCall (sp_kindV P w K mg base 63 (kinds a)) XD0 (gCons (gVar 11) gNil)) (gC (D.str (Str.ofString "BadChain"))))) (gVar 11) [11]) (gLst gNil))) (hRet (gC (D.bl false))) hNext)
def B1b (P : Program) (w : World) (K : PySem.W.Frag) (mg : Str → Option Value) (base : Heap) (a : Ads) (Pt : Addr) (Pw : Addr) : GS := (hSeq (hAsg (gCall sp_lawbad XD0 (gCons (gVar 10) gNil)) (kTup 2 (kCons (kName 3) (kCons (kName 5) kNil)))) (hSeq (hAsg (gCall sp_lawdrawn XD0 (gCons (gVar 10) (gCons (gOp fAdd (gN fLen (gCons (gOp fIdx (gVar 8) (gC (D.int 1))) gNil)) (gC (D.int 1))) gNil))) (kName 6)) (hSeq (hAsg (gLst (gCons (gTup (gCons (gVar 3) (gCons (gOp fIdx (gVar 8) (gC (D.int 1))) gNil))) (gCons (gTup (gCons (gOp fIdx (gVar 8) (gC (D.int 0))) (gCons (gOp fCatT (gOp fCatT (fSl rSlTup (gOp fIdx (gVar 8) (gC (D.int 1))) gNone (gPart (gVar 6))) (gTup (gCons (gVar 5) gNil))) (fSl rSlTup (gOp fIdx (gVar 8) (gC (D.int 1))) (gPart (gVar 6)) gNone)) gNil))) (gCons (gTup gNil) (gCons (gTup (gCons (gOp fIdx (gVar 8) (gC (D.int 0))) gNil)) gNil))))) (kName 7)) (hSeq (hAsg (gOp fCatL (gVar 7) (gLst (gCons (gTup (gCons (gOp fIdx (gVar 1) (gC (D.int 0))) (gCons (gTup (gCons (gTup (gCons (gC (D.str (Str.ofString "both"))) (gCons (gVar 1) gNil))) (gCons (gTup (gCons (gC (D.str (Str.ofString "then"))) (gCons (gVar 1) gNil))) (gCons (gTup (gCons (gC (D.str (Str.ofString "then"))) (gCons (gVar 1) gNil))) (gCons (gTup (gCons (gC (D.str (Str.ofString "both"))) (gCons (gVar 1) gNil))) gNil))))) gNil))) gNil))) (kName 7)) (hSeq (hAsg (gOp fIdx (gOp fCatL (gVar 7) (gLst (gCons (gTup (gCons (gOp fIdx (gVar 1) (gC (D.int 0))) (gCons (gOp fRepT (gTup (gCons (gTup (gCons (gC (D.str (Str.ofString "unlike"))) gNil)) gNil)) (gC (D.int 13))) gNil))) (gCons (gTup (gCons (gOp fIdx (gVar 1) (gC (D.int 0))) (gCons (gTup (gCons (gTup (gCons (gC (D.str (Str.ofString "both"))) (gCons (gTup (gCons (gVar 3) (gCons (gTup gNil) gNil))) gNil))) gNil)) gNil))) gNil)))) (gCall sp_lawdrawn XD0 (gCons (gVar 10) (gCons (gC (D.int 7)) gNil)))) (kName 7)) (B1w P w K mg base a Pt Pw))))))
def B1 (P : Program) (w : World) (K : PySem.W.Frag) (mg : Str → Option Value) (base : Heap) (a : Ads) (Pt : Addr) (Pw : Addr) : GS := (hSeq (hAsg (gCall sp_lawany XD0 (gCons (gVar 10) (gCons (gC (D.bl false)) gNil))) (kName 8)) (hSeq (hIf (gTNot (gB (gCall (sp_same 3) XD0 (gCons (gCall sp_makers XD0 (gCons (gVar 8) gNil)) (gCons (gCall (sp_lmakers 20) XD0 (gCons (gVar 8) gNil)) gNil))))) (hRet (gC (D.bl false))) hNext) (hSeq (hIf (gB (gOp fNe (gKind [(Pt, lamQ), (Pw, wkQ)] (kinds a) fun x => gCall (sp_f1 a) x (gCons (gVar 8) (gCons (gOp fIdx (gLst (gCons (gOp fSub (gC (D.int 0)) (gC (D.int 1))) (gCons (gC (D.int 1001)) (gCons (gOp fPow (gC (D.int 10)) (gC (D.int 20))) gNil)))) (gCall sp_lawdrawn XD0 (gCons (gVar 10) (gCons (gC (D.int 3)) gNil)))) gNil))) (gC (D.str (Str.ofString "BadMany"))))) (hRet (gC (D.bl false))) hNext) (hSeq (hAsg (gOp fNe (gLc (iLst (gCall (sp_lmakers 20) XD0 (gCons (gVar 8) gNil))) (kName 3) (gB (gOp fEq (gOp fIdx (gVar 3) (gC (D.int 0))) (gC (D.str (Str.ofString "count"))))) (gVar 3) [3]) (gLst gNil)) (kName 4)) (hSeq (hIf (gTAnd (gB (gVar 4)) (gB (gOp fNe (gKind [(Pt, lamQ), (Pw, wkQ)] (kinds a) fun x => gCall (sp_endless a) x (gCons (gVar 8) gNil)) (gC (D.str (Str.ofString "NoWhole")))))) (hRet (gC (D.bl false))) hNext) (B1b P w K mg base a Pt Pw))))))
def BEr (a : Ads) (Pt : Addr) (Pw : Addr) : GS := (hRet (gAnd (gOp fEq (gN fLen (gCons (gCall sp_makers XD0 (gCons (gVar 9) gNil)) gNil)) (gC (D.int 4))) (gN fIsi (gCons (gKind [(Pt, lamQ), (Pw, wkQ)] (kinds a) fun x => gCall (sp_f1 a) x (gCons (gVar 9) (gCons (gC (D.int 1000)) gNil))) (gCons (gC (D.ty "tuple")) gNil)))))
def BE1 (a : Ads) (Pt : Addr) (Pw : Addr) : GS := (hSeq (hAsg (gTup (gCons (gOp fIdx (gVar 1) (gC (D.int 0))) (gCons (gOp fCatT (gTup (gCons (gTup (gCons (gC (D.str (Str.ofString "both"))) (gCons (gVar 1) gNil))) (gCons (gTup (gCons (gC (D.str (Str.ofString "then"))) (gCons (gVar 1) gNil))) (gCons (gTup (gCons (gC (D.str (Str.ofString "both"))) (gCons (gVar 1) gNil))) gNil)))) (gOp fRepT (gTup (gCons (gTup (gCons (gC (D.str (Str.ofString "add"))) (gCons (gC (D.int 0)) gNil))) gNil)) (gC (D.int 9)))) gNil))) (kName 9)) (BEr a Pt Pw))
theorem al_mkD {W : Wd} {m : Maker} (h : okMk m) : Al W 2 (mkD m) (mkD m) := by
  cases m with
  | count b s =>
    refine .inr ⟨_, _, .inr ⟨rfl, rfl⟩, rfl, by simp, fun i x y e1 e2 => ?_⟩
    obtain rfl : x = y := Option.some.inj (e1.symm.trans e2)
    have hx := List.mem_of_getElem? e1
    simp only [List.mem_cons, List.not_mem_nil, or_false] at hx
    rcases hx with rfl | rfl | rfl
    · exact .inl (.inr ⟨_, rfl, rfl⟩)
    · exact .inl (.inl ⟨_, rfl, rfl⟩)
    · exact .inl (.inl ⟨_, rfl, rfl⟩)
  | row ns =>
    have h : ns.length ≤ 100 := h
    refine .inr ⟨_, _, .inr ⟨rfl, rfl⟩, rfl, by simp, fun i x y e1 e2 => ?_⟩
    obtain rfl : x = y := Option.some.inj (e1.symm.trans e2)
    have hx := List.mem_of_getElem? e1
    simp only [List.mem_cons, List.not_mem_nil, or_false] at hx
    rcases hx with rfl | rfl
    · exact .inl (.inr ⟨_, rfl, rfl⟩)
    · refine .inr ⟨_, _, .inr ⟨rfl, rfl⟩, rfl, by rw [List.length_map]; omega, fun i x y e1 e2 => ?_⟩
      obtain rfl : x = y := Option.some.inj (e1.symm.trans e2)
      obtain ⟨k, _, rfl⟩ := List.mem_map.mp (List.mem_of_getElem? e1)
      exact .inl ⟨_, rfl, rfl⟩
theorem al_mks {W : Wd} {l : List Maker} (h : ∀ m ∈ l, okMk m) (hl : l.length ≤ 100) : Al W 3 (.lst (l.map mkD)) (.lst (l.map mkD)) := by
  refine .inr ⟨_, _, .inl ⟨rfl, rfl⟩, rfl, by rw [List.length_map]; omega, fun i x y e1 e2 => ?_⟩
  obtain rfl : x = y := Option.some.inj (e1.symm.trans e2)
  obtain ⟨m, hm, rfl⟩ := List.mem_map.mp (List.mem_of_getElem? e1)
  exact al_mkD (h m hm)
def lgr : Ch := rowCh [1, 2] []
def lgst : List Stg := [.both lgr] ++ ([.thn lgr] ++ ([.both lgr] ++ List.replicate 9 (.op (.add 0))))
def lgood : Ch := rowCh [1, 2] lgst
theorem lgr_ok : RwOk 1 0 lgr := rowCh_ok (m := 0) (n := 0) .nil (by decide) (by decide) (by decide) (by decide)
theorem pts_rep {o : Op} (h : okOp o) (k : numOp o) : ∀ n, PtS 0 n (List.replicate n (.op o))
  | 0 => .nil
  | n + 1 => by
    have := (PtS.op (m := 0) h k (Nat.le_refl 1)).app (pts_rep h k n)
    rw [Nat.add_comm 1 n] at this
    exact this
theorem lgood_ok : RwOk 4 12 lgood := rowCh_ok (m := 3) (n := 12) ((PtS.both (m := 1) (n := 1) lgr_ok.gd.ok lgr_ok.nb lgr_ok.rc lgr_ok.mks (by have := lgr_ok.st; omega)).app ((PtS.thn (m := 1) (n := 1) lgr_ok.gd.ok lgr_ok.nb lgr_ok.rc lgr_ok.mks (by have := lgr_ok.st; omega)).app ((PtS.both (m := 1) (n := 1) lgr_ok.gd.ok lgr_ok.nb lgr_ok.rc lgr_ok.mks (by have := lgr_ok.st; omega)).app (pts_rep (o := .add 0) trivial (show (0 : Int).natAbs < 2 ^ 128 by decide) 9)))) (by decide) (by decide) (by decide) (by decide)
theorem lgood_D : D.tup [lmk, .tup (.tup [.str (Str.ofString "both"), .tup [lmk, .tup []]] :: .tup [.str (Str.ofString "then"), .tup [lmk, .tup []]] :: .tup [.str (Str.ofString "both"), .tup [lmk, .tup []]] :: (List.replicate 9 [D.tup [.str (Str.ofString "add"), .int 0]]).flatten)] = chD lgood := by rfl
theorem mks_ok : ∀ {c : Ch}, okCh c → ∀ m ∈ c.mks, okMk m
  | .src m, h, m', hm => by rw [List.mem_singleton.mp hm]; exact h
  | .op c o, h, m', hm => mks_ok (c := c) h.1 m' hm
  | .both c i, h, m', hm => (List.mem_append.mp hm).elim (mks_ok (c := c) h.1 m') (mks_ok (c := i) h.2 m')
  | .thn c i, h, m', hm => (List.mem_append.mp hm).elim (mks_ok (c := c) h.1 m') (mks_ok (c := i) h.2 m')
abbrev T2 (Pt Pw : Addr) : List (Addr × Str) := [(Pt, lamQ), (Pw, wkQ)]
theorem tabs {Pt Pw : Addr} {W : Wd} (h1 : W Pt = some (.tbl lamQ)) (h2 : W Pw = some (.tbl wkQ)) : ∀ p ∈ T2 Pt Pw, W p.1 = some (.tbl p.2) := fun p hp => by
  simp only [List.mem_cons, List.not_mem_nil, or_false] at hp
  rcases hp with rfl | rfl
  · exact h1
  · exact h2
theorem sub2 {Pt Pw s : Addr} {W W' : Wd} {o : Ob} (st : SubT (T2 Pt Pw) W W') (h0 : W s = some o) (so : StOb o) (h1 : W Pt = some (.tbl lamQ)) (h2 : W Pw = some (.tbl wkQ)) : W' s = some o ∧ W' Pt = some (.tbl lamQ) ∧ W' Pw = some (.tbl wkQ) :=
  ⟨st.keep _ _ h0 (fun q z => by obtain ⟨_, _, _, _, e, _⟩ := so; rw [e] at z; cases z), st.keep _ _ h1 (fun q z => by cases z; simp), st.keep _ _ h2 (fun q z => by cases z; simp)⟩
theorem kindM {a : Ads} : (Str.ofString "BadMany", a.BadMany) ∈ kinds a := by simp [kinds]
theorem kindN {a : Ads} : (Str.ofString "NoWhole", a.NoWhole) ∈ kinds a := by simp [kinds]
theorem kindC {a : Ads} : (Str.ofString "BadChain", a.BadChain) ∈ kinds a := by simp [kinds]
theorem cutG_sub {α : Type} {l : List α} {lo hi : Option Int} : (cutG l lo hi).length ≤ l.length ∧ ∀ d ∈ cutG l lo hi, d ∈ l := by
  unfold cutG
  refine ⟨?_, fun d hd => List.mem_of_mem_drop (List.mem_of_mem_take hd)⟩
  rw [List.length_take, List.length_drop]
  omega
theorem put_del {W : Wd} {c : Addr} {ob : Ob} (h : W c = some ob) : put (del W c) c ob = W := by
  funext b
  by_cases e : b = c
  · subst e; rw [put_same, h]
  · rw [put_ne e, del_ne e]
theorem turn1b {P : Program} {w : World} {K : PySem.W.Frag} {mg : Str → Option Value} {base : Heap} {a : Ads} {Pt Pw s : Addr} {o : Ob} {c : Ch} {W : Wd} {G : GEnds} {x0 x2 x3 x4 x5 x6 x7 x9 x11 : Option D} (nPs : Pt ≠ s) (nQs : Pw ≠ s) (gd : Good c) (hs : W s = some o) (so : StOb o) (hT : W Pt = some (.tbl lamQ)) (hU : W Pw = some (.tbl wkQ))
    (nx : ∀ x3 x4 x5 x6 x7 x8 x11 W' o', W' s = some o' → StOb o' → W' Pt = some (.tbl lamQ) → W' Pw = some (.tbl wkQ) → G.nx [x0, some lrow, x2, x3, x4, x5, x6, x7, x8, x9, some (.ref s), x11] W') :
    B1b P w K mg base a Pt Pw G [x0, some lrow, x2, x3, x4, x5, x6, x7, some (chD c), x9, some (.ref s), x11] W := by
  have hd := depth_lt c
  have g1 := gd.nm
  obtain ⟨hA, hAs⟩ := any_ch c gd.ok gd.st
  have hA := hA.mono (show _ ≤ 12 by omega)
  have hlen : c.sts.length ≤ 12 := by rw [sts_eq, List.length_map]; exact Nat.le_trans (stl_le c) gd.st
  have ec : chD c = .tup [mkD c.mk, .tup c.sts] := rfl
  rw [ec] at hA ⊢
  generalize mkD c.mk = mk at hA ec ⊢
  generalize c.sts = ss at hA hlen hAs ec ⊢
  have el : lrow = .tup [lmk, .tup []] := rfl
  rw [el] at nx ⊢
  have hAm : Any 3 lmk := any_of (by decide +kernel)
  have hgm : mkB lmk = true := by decide +kernel
  generalize hlm : lmk = lm at hAm hgm nx ⊢
  unfold B1b
  walk_at "g"
  refine ⟨s, o, rfl, hs, so, fun m t o1 bm bt so1 => ?_⟩
  have hs1 : put W s o1 s = some o1 := put_same
  have hT1 : put W s o1 Pt = some (.tbl lamQ) := by rw [put_ne nPs]; exact hT
  have hU1 : put W s o1 Pw = some (.tbl wkQ) := by rw [put_ne nQs]; exact hU
  generalize put W s o1 = W1 at hs1 hT1 hU1 ⊢
  walk_at "g"
  refine ⟨s, o1, (ss.length : Int) + 1, rfl, hs1, so1, by omega, by omega, fun k2 o2 a2 b2 so2 => ?_⟩
  have hs2 : put W1 s o2 s = some o2 := put_same
  have hT2 : put W1 s o2 Pt = some (.tbl lamQ) := by rw [put_ne nPs]; exact hT1
  have hU2 : put W1 s o2 Pw = some (.tbl wkQ) := by rw [put_ne nQs]; exact hU1
  generalize put W1 s o2 = W2 at hs2 hT2 hU2 ⊢
  walk_at "g"
  obtain ⟨c1, c1'⟩ := cutG_sub (l := ss) (lo := none) (hi := some k2)
  obtain ⟨c2, c2'⟩ := cutG_sub (l := ss) (lo := some k2) (hi := none)
  refine ⟨by omega, by omega, _, _, rfl, rfl, by simp, by decide, by decide, by simp, s, o2, 7, rfl, hs2, so2, by decide, by decide, fun k3 o3 a3 b3 so3 => ?_⟩
  have hs3 : put W2 s o3 s = some o3 := put_same
  have hT3 : put W2 s o3 Pt = some (.tbl lamQ) := by rw [put_ne nPs]; exact hT2
  have hU3 : put W2 s o3 Pw = some (.tbl wkQ) := by rw [put_ne nQs]; exact hU2
  generalize put W2 s o3 = W3 at hs3 hT3 hU3 ⊢
  walk_at "g"
  refine atI_ex a3 b3 fun odd hodd => ?_
  have hmk : Any 11 mk := by cases hA with | tup _ h => exact h mk (by simp)
  have hss : ∀ d ∈ ss, Any 10 d := fun d hd => (hAs d hd).mono (by omega)
  have ho : chainB odd = false ∧ Any 16 odd := by
    simp only [List.mem_cons, List.not_mem_nil, or_false] at hodd
    rcases hodd with rfl | rfl | rfl | rfl | rfl | rfl | rfl
    · exact ⟨bad_top (bad_maker bm.2), any_t2 (bm.1.mono (by omega)) (.tup (n := 14) (by omega) fun d hd => (hss d hd).mono (by omega))⟩
    · refine ⟨bad_inner (t := t) (by simp) bt, any_t2 (hmk.mono (by omega)) (.tup (n := 14) (by simp only [List.length_append, List.length_singleton]; omega) fun d hd => ?_)⟩
      rcases List.mem_append.mp hd with hd | hd
      · rcases List.mem_append.mp hd with hd | hd
        · exact (hss d (c1' d hd)).mono (by omega)
        · rw [List.mem_singleton.mp hd]; exact bt.1.mono (by omega)
      · exact (hss d (c2' d hd)).mono (by omega)
    · exact ⟨bad_top rfl, .tup (by simp) (fun _ h => by cases h)⟩
    · exact ⟨bad_top rfl, any_t1 (hmk.mono (by omega))⟩
    · subst hlm
      exact ⟨by decide +kernel, any_of (by decide +kernel)⟩
    · subst hlm
      exact ⟨by decide +kernel, any_of (by decide +kernel)⟩
    · have hi : Any 9 (.tup [.str (Str.ofString "both"), .tup [m, .tup []]]) := any_t2 (any_str "both" (by decide +kernel)) (any_t2 (bm.1.mono (by omega)) (.tup (n := 6) (by simp) (fun _ h => by cases h)))
      exact ⟨bad_inner (t := .tup [.str (Str.ofString "both"), .tup [m, .tup []]]) (by simp) ⟨hi, .inr ⟨show inD (.str (Str.ofString "both")) [.str (Str.ofString "both"), .str (Str.ofString "then")] = true by decide +kernel, bad_maker bm.2⟩⟩, any_t2 (hAm.mono (by omega)) (any_t1 (hi.mono (by omega)))⟩
  clear hodd
  unfold B1w
  walk_at "g"
  refine ⟨odd, 16, rfl, ho.2, by decide, ho.1, tabs hT3 hU3, fun fs cc W4 hfl hrf hcc keep => ?_⟩
  have hs4 : W4 s = some o3 := keep _ _ hs3 (fun q z => by obtain ⟨_, _, _, _, e, _⟩ := so3; rw [e] at z; cases z)
  have hT4 : W4 Pt = some (.tbl lamQ) := keep _ _ hT3 (fun q z => by cases z; simp)
  have hU4 : W4 Pw = some (.tbl wkQ) := keep _ _ hU3 (fun q z => by cases z; simp)
  walk_at "g"
  refine lc_done (F := fun p W2 => ∃ acc, W2 p = some (.lst acc) ∧ fNe (D.lst acc) (D.lst []) (del W2 p) _) (fun _ => false) id (fun d hd W' Q' ag q' => ?_) (fun d hd hf W' Q' _ q' => by cases hf) (by rw [List.length_map]; omega) (fun p hp => ?_)
  · obtain ⟨f, hf, rfl⟩ := List.mem_map.mp hd
    obtain ⟨q, pr, bd, sc, gx, e1, e2, e3⟩ := hrf f hf
    have hc' := ag _ _ hcc
    walk_at "g"
    refine ⟨f, cc, _, q, pr, bd, sc, gx, odd, rfl, ag _ _ e1, hc', e2, e3 _ _ _ ⟨rfl, _, kindC, rfl, ?_⟩⟩
    rw [put_del hc']
    walk_at "g"
    exact q'
  · refine ⟨_, put_same, ?_⟩
    rw [del_put hp, List.filter_eq_nil_iff.mpr (by simp), List.map_nil]
    refine fNe_fine (n := 1) (m := 1) (fine_lst.mpr (by simp)) (fine_lst.mpr (by simp)) (by decide) (by decide) ?_
    rw [eqD_nil]
    walk_at "g"
    exact nx _ _ _ _ _ _ _ _ _ hs4 so3 hT4 hU4
theorem turn1 {P : Program} {w : World} {K : PySem.W.Frag} {mg : Str → Option Value} {base : Heap} {a : Ads} {Pt Pw s : Addr} {o : Ob} {W : Wd} {G : GEnds} {x0 x2 x3 x4 x5 x6 x7 x8 x9 x11 : Option D} (hPP : Pt ≠ Pw) (nPs : Pt ≠ s) (nQs : Pw ≠ s) (hs : W s = some o) (so : StOb o) (hT : W Pt = some (.tbl lamQ)) (hU : W Pw = some (.tbl wkQ))
    (nx : ∀ x3 x4 x5 x6 x7 x8 x11 W' o', W' s = some o' → StOb o' → W' Pt = some (.tbl lamQ) → W' Pw = some (.tbl wkQ) → G.nx [x0, some lrow, x2, x3, x4, x5, x6, x7, x8, x9, some (.ref s), x11] W') :
    B1 P w K mg base a Pt Pw G [x0, some lrow, x2, x3, x4, x5, x6, x7, x8, x9, some (.ref s), x11] W := by
  unfold B1
  walk_at "g"
  refine ⟨s, o, false, rfl, hs, so, fun c W1 o1 g1 g2 gm gn hs1 so1 keep1 => ?_⟩
  have gd : Good c := ⟨g1, gm, gn⟩
  have hT1 := keep1 _ _ nPs hT
  have hU1 := keep1 _ _ nQs hU
  walk_at "g"
  have hd := depth_lt c
  refine ⟨c, rfl, gd, ?_⟩
  walk_at "g"
  refine ⟨c, rfl, by omega, gm, gn, ?_⟩
  walk_at "g"
  refine ⟨_, _, rfl, al_mks (mks_ok g1) (by omega), _, rfl, ?_⟩
  walk_at "g"
  refine ⟨tabs hT1 hU1, fun W2 s2 => ?_⟩
  obtain ⟨hs2, hT2, hU2⟩ := sub2 s2 hs1 so1 hT1 hU1
  walk_at "g"
  refine ⟨⟨by decide, by decide, by decide⟩, s, o1, 3, rfl, hs2, so1, by decide, by decide, fun k2 o2 a2 b2 so2 => ?_⟩
  walk_at "g"
  refine atI_ex a2 b2 fun m hm => ?_
  have hmi : ∃ i, m = .int i ∧ (i < 0 ∨ 1000 < i) := by
    simp only [List.mem_cons, List.not_mem_nil, or_false] at hm
    rcases hm with rfl | rfl | rfl <;> exact ⟨_, rfl, by decide⟩
  clear hm
  obtain ⟨i, rfl, hi⟩ := hmi
  refine .inr ⟨c, i, rfl, gd, hi, rfl, _, kindM, rfl, ?_⟩
  have hs3 : put W2 s o2 s = some o2 := put_same
  have hT3 : put W2 s o2 Pt = some (.tbl lamQ) := by rw [put_ne nPs]; exact hT2
  have hU3 : put W2 s o2 Pw = some (.tbl wkQ) := by rw [put_ne nQs]; exact hU2
  generalize put W2 s o2 = W3 at hs3 hT3 hU3 ⊢
  walk_at "g"
  refine ⟨c, rfl, by omega, gm, gn, _, .inl rfl, ?_⟩
  refine lc_done (F := fun p W2 => ∃ acc, W2 p = some (.lst acc) ∧ fNe (D.lst acc) (D.lst []) (del W2 p) _) cntB (fun d => d) (fun d hd W' Q' _ q' => ?_) (fun d hd hf W' Q' _ q' => ?_) (by rw [List.length_map]; omega) (fun p hp => ?_)
  · obtain ⟨m, hm, rfl⟩ := List.mem_map.mp hd
    cases m with
    | count b s => walk_at "g"; exact q'
    | row ns => walk_at "g"; exact q'
  · walk_at "g"
    exact q'
  · refine ⟨_, put_same, ?_⟩
    rw [del_put hp, List.map_id']
    refine fNe_fine (n := 3) (m := 1) (fine_lst.mpr fun d hd => ?_) (fine_lst.mpr (by simp)) (by decide) (by decide) ?_
    · obtain ⟨m, hm, rfl⟩ := List.mem_map.mp (List.mem_filter.mp hd).1
      exact fine_mkD m
    rw [eqD_nil]
    refine ⟨_, rfl, ?_⟩
    cases hb : (List.filter cntB (List.map mkD c.mks)).isEmpty with
    | true =>
      walk_at "g"
      exact turn1b nPs nQs gd hs3 so2 hT3 hU3 fun x3 x4 x5 x6 x7 x8 x11 W' o' => nx x3 x4 x5 x6 x7 x8 x11 W' o'
    | false =>
      walk_at "g"
      have hm : ∃ m ∈ c.mks, ∀ ns, m ≠ .row ns := by
        rw [← Bool.not_eq_true, List.isEmpty_iff] at hb
        obtain ⟨d, hd⟩ := List.exists_mem_of_ne_nil _ hb
        obtain ⟨hd1, hd2⟩ := List.mem_filter.mp hd
        obtain ⟨m, hm, rfl⟩ := List.mem_map.mp hd1
        refine ⟨m, hm, fun ns e => ?_⟩
        subst e
        exact absurd hd2 (show ¬ ((Str.ofString "row" == Str.ofString "count") = true) by decide +kernel)
      refine ⟨tabs hT3 hU3, fun W4 s4 => ?_⟩
      obtain ⟨hs4, hT4, hU4⟩ := sub2 s4 hs3 so2 hT3 hU3
      walk_at "g"
      refine ⟨c, rfl, gd, hm, rfl, _, kindN, rfl, ?_⟩
      walk_at "g"
      exact turn1b nPs nQs gd hs4 so2 hT4 hU4 fun x3 x4 x5 x6 x7 x8 x11 W' o' => nx x3 x4 x5 x6 x7 x8 x11 W' o'
section
variable {P : Program} {w : World} {K : PySem.W.Frag} {mg : Str → Option Value} {base : Heap} {a : Ads} {b : LawAds}
theorem ok_law {la la_kd la_any la_mks la_bad la_wk la_wh la_sm la_mk c Pt Pw : Addr} {fd fk : FuncData} (F : Fun K "law" "law" s_law la fd) (hcode : fd.code = .ref c) (TB : LamX.TabB base mg c Pt) (hPP : Pt ≠ Pw) (T : Txt w K mg a) (KF : KindF K mg a) (FK : Fun K "_law_kind" "_law_kind" s__law_kind la_kd fk) (gK : mg "_law_kind" = some (.ref la_kd))
    (h__law_start : Has P w K mg base CX0 1 "_law_start" b.start ["_law_script"] sp_start) (h__law_drawn : Has P w K mg base CX0 1 "_law_drawn" b.drawn ["_law_state", "_law_many"] sp_lawdrawn)
    (h__law_any : Has P w K mg base CX0 21 "_law_any" la_any ["_law_state", "_law_rows"] sp_lawany) (h__law_makers : Has P w K mg base CX0 21 "_law_makers" la_mks ["_law_chain_here"] (sp_lmakers 20)) (h__law_bad : Has P w K mg base CX0 2 "_law_bad" la_bad ["_law_state"] sp_lawbad)
    (h__law_same : Has P w K mg base CX0 4 "_law_same" la_sm ["_law_found", "_law_due"] (sp_same 3)) (h_makers : Has P w K mg base (L2.CX P w) 6 "makers" la_mk ["chain"] sp_makers) (h_whole : Has P w K mg base (L2.CX P w) 42 "whole" la_wh ["chain"] (sp_endless a)) (h_first : Has P w K mg base (L2.CX P w) 63 "first" a.first ["chain", "many"] (sp_f1 a))
    (h__law_works : Has P w K mg base (L2.CX P w) 1 "_law_works" la_wk ["_law_chain_here"] (sp_works P w K mg base a [(Pt, lamQ), (Pw, wkQ)])) (h__law_kind : Has P w K mg base CX0 65 "_law_kind" la_kd ["_law_work"] (sp_kindV P w K mg base 63 (kinds a))) :
    FnOk P w K mg base (L2.CX P w) 67 la fd ["_law_script"] (liftSp (sp_law2 Pt Pw)) := by
  have hmL : (Pt, lamQ) ∈ [(Pt, lamQ), (Pw, wkQ)] := by simp
  have huL : ∀ p ∈ [(Pt, lamQ), (Pw, wkQ)], p.1 = Pt → p.2 = lamQ := fun p hp e => by
    simp only [List.mem_cons, List.not_mem_nil, or_false] at hp
    rcases hp with rfl | rfl
    · rfl
    · exact absurd e.symm hPP
  refine F.dokC hcode sc_law (fun ds W Qd Ed h => ?_) (fun A outer s H E W0 ds Qd Ed hr fx h => ?_)
  · obtain ⟨_, rfl, _⟩ := h; rfl
  · obtain ⟨ns, rfl, hl, hW, q⟩ := h
    refine ⟨_, (s_cons (s_set (i := 10) sc_law.nd rfl (Or.inr rfl) (d_callH h__law_start (hr.mono (by omega)) (by rfl) (d_cons (d_var 0) d_nil)))
  (s_cons (s_set (i := 1) sc_law.nd rfl (Or.inl rfl) (d_tup (d_cons (d_tup (d_cons d_str (d_cons (d_tup (d_cons d_int (d_cons d_int d_nil))) d_nil))) (d_cons (d_tup d_nil) d_nil))))
  (s_cons (s_for (passes_of rfl) rfl (i_r1 (by rfl) T.range (d_cons d_int d_nil)) (k_name (i := 2) sc_law.nd rfl (Or.inl rfl)) (s_cons (s_set (i := 8) sc_law.nd rfl (Or.inr rfl) (d_callH h__law_any (hr.mono (by omega)) (by rfl) (d_cons (d_var 10) (d_cons d_bl d_nil))))
  (s_cons (s_if (t_not (d_test (d_callH h__law_same (hr.mono (by omega)) (by rfl) (d_cons (d_callL h_makers (hr.mono (by omega)) (by rfl) (d_cons (d_var 8) d_nil)) (d_cons (d_callH h__law_makers (hr.mono (by omega)) (by rfl) (d_cons (d_var 8) d_nil)) d_nil))))) (s_one (s_ret d_bl)) s_nil)
  (s_cons (s_if (t_cmp (op_neA hr.units) s_ne (d_kind FK gK T KF TB rfl hmL huL (k := 63) (hr.mono (by omega)) (show LamX.LamS (defScope s_law) _ from LamX.lamS_by (by decide +kernel)) rfl (fun _ _ _ _ _ => rfl) (fun _ _ _ _ _ _ _ _ _ _ hr fx => (d_callE h_first (hr.mono (by omega)) (by rfl) fx (takes_of rfl rfl rfl rfl) (d_cons (d_var 8) (d_cons (d_ix s_idx (d_lst (d_cons (d_op op_sub s_sub d_int d_int) (d_cons d_int (d_cons (d_op op_pow s_pow d_int d_int) d_nil)))) (d_callH h__law_drawn (hr.mono (by omega)) (by rfl) (d_cons (d_var 10) (d_cons d_int d_nil))) (fun _ _ => rfl)) d_nil))))) d_str (nomark _)) (s_one (s_ret d_bl)) s_nil)
  (s_cons (s_set (i := 4) sc_law.nd rfl (Or.inl rfl) (d_cmp (op_neA hr.units) s_ne (d_lc rfl sc_law.nd (i_lst (d_callH h__law_makers (hr.mono (by omega)) (by rfl) (d_cons (d_var 8) d_nil))) (blkOk_by (own := [("_law_maker_here", 3)]) (N := n_law) (sc := defScope s_law) (by decide +kernel)) (simG_name (by decide)) (fun _ _ _ _ _ => pg_name (i := 3) sc_law.nd rfl (Or.inl rfl)) (fun _ _ _ _ _ => t_one (t_cmp (op_eqA hr.units) s_eq (d_ix s_idx (d_var 3) d_int (fun _ _ => rfl)) d_str (nomark _))) (fun _ _ _ _ _ => (d_var 3))) (d_lst d_nil) (nomark _)))
  (s_cons (s_if (t_bool (w_and (d_test (d_var 4)) (w_and1 (t_cmp (op_neA hr.units) s_ne (d_kind FK gK T KF TB rfl hmL huL (k := 63) (hr.mono (by omega)) (show LamX.LamS (defScope s_law) _ from LamX.lamS_by (by decide +kernel)) rfl (fun _ _ _ _ _ => rfl) (fun _ _ _ _ _ _ _ _ _ _ hr fx => (d_callE h_whole (hr.mono (by omega)) (by rfl) fx (takes_of rfl rfl rfl rfl) (d_cons (d_var 8) d_nil)))) d_str (nomark _))))) (s_one (s_ret d_bl)) s_nil)
  (s_cons (s_asg (d_callH h__law_bad (hr.mono (by omega)) (by rfl) (d_cons (d_var 10) d_nil)) (k_tup (n := 2) rfl (k_cons (k_name (i := 3) sc_law.nd rfl (Or.inl rfl)) (k_cons (k_name (i := 5) sc_law.nd rfl (Or.inl rfl)) k_nil))))
  (s_cons (s_set (i := 6) sc_law.nd rfl (Or.inl rfl) (d_callH h__law_drawn (hr.mono (by omega)) (by rfl) (d_cons (d_var 10) (d_cons (d_op op_add s_add (d_callB call_len_seq s_len (by rfl) T.len PySem.boot_len (d_cons (d_ix s_idx (d_var 8) d_int (fun _ _ => rfl)) d_nil)) d_int) d_nil))))
  (s_cons (s_set (i := 7) sc_law.nd rfl (Or.inl rfl) (d_lst (d_cons (d_tup (d_cons (d_var 3) (d_cons (d_ix s_idx (d_var 8) d_int (fun _ _ => rfl)) d_nil))) (d_cons (d_tup (d_cons (d_ix s_idx (d_var 8) d_int (fun _ _ => rfl)) (d_cons (d_op op_catA s_catT (d_op op_catA s_catT (d_slice sl_tupA sl_T (d_ix s_idx (d_var 8) d_int (fun _ _ => rfl)) o_none (o_some (d_var 6))) (d_tup (d_cons (d_var 5) d_nil))) (d_slice sl_tupA sl_T (d_ix s_idx (d_var 8) d_int (fun _ _ => rfl)) (o_some (d_var 6)) o_none)) d_nil))) (d_cons (d_tup d_nil) (d_cons (d_tup (d_cons (d_ix s_idx (d_var 8) d_int (fun _ _ => rfl)) d_nil)) d_nil))))))
  (s_cons (s_set (i := 7) sc_law.nd rfl (Or.inl rfl) (d_op op_cat s_catL (d_var 7) (d_lst (d_cons (d_tup (d_cons (d_ix s_idx (d_var 1) d_int (fun _ _ => rfl)) (d_cons (d_tup (d_cons (d_tup (d_cons d_str (d_cons (d_var 1) d_nil))) (d_cons (d_tup (d_cons d_str (d_cons (d_var 1) d_nil))) (d_cons (d_tup (d_cons d_str (d_cons (d_var 1) d_nil))) (d_cons (d_tup (d_cons d_str (d_cons (d_var 1) d_nil))) d_nil))))) d_nil))) d_nil))))
  (s_cons (s_set (i := 7) sc_law.nd rfl (Or.inl rfl) (d_ix s_idx (d_op op_cat s_catL (d_var 7) (d_lst (d_cons (d_tup (d_cons (d_ix s_idx (d_var 1) d_int (fun _ _ => rfl)) (d_cons (d_op op_repTA s_repT (d_tup (d_cons (d_tup (d_cons d_str d_nil)) d_nil)) d_int) d_nil))) (d_cons (d_tup (d_cons (d_ix s_idx (d_var 1) d_int (fun _ _ => rfl)) (d_cons (d_tup (d_cons (d_tup (d_cons d_str (d_cons (d_tup (d_cons (d_var 3) (d_cons (d_tup d_nil) d_nil))) d_nil))) d_nil)) d_nil))) d_nil)))) (d_callH h__law_drawn (hr.mono (by omega)) (by rfl) (d_cons (d_var 10) (d_cons d_int d_nil))) (fun _ _ => rfl)))
  (s_one (s_if (t_cmp (op_neA hr.units) s_ne (d_lc rfl sc_law.nd (i_lst (d_callL h__law_works (hr.mono (by omega)) (by rfl) (d_cons (d_var 7) d_nil))) (blkOk_by (own := [("_law_work", 11)]) (N := n_law) (sc := defScope s_law) (by decide +kernel)) (simG_name (by decide)) (fun _ _ _ _ _ => pg_name (i := 11) sc_law.nd rfl (Or.inl rfl)) (fun _ _ _ _ _ => t_one (t_cmp (op_neA hr.units) s_ne (d_callH h__law_kind (hr.mono (by omega)) (by rfl) (d_cons (d_var 11) d_nil)) d_str (nomark _))) (fun _ _ _ _ _ => (d_var 11))) (d_lst d_nil) (nomark _)) (s_one (s_ret d_bl)) s_nil)))))))))))))
  (s_cons (s_set (i := 9) sc_law.nd rfl (Or.inr rfl) (d_tup (d_cons (d_ix s_idx (d_var 1) d_int (fun _ _ => rfl)) (d_cons (d_op op_catA s_catT (d_tup (d_cons (d_tup (d_cons d_str (d_cons (d_var 1) d_nil))) (d_cons (d_tup (d_cons d_str (d_cons (d_var 1) d_nil))) (d_cons (d_tup (d_cons d_str (d_cons (d_var 1) d_nil))) d_nil)))) (d_op op_repTA s_repT (d_tup (d_cons (d_tup (d_cons d_str (d_cons d_int d_nil))) d_nil)) d_int)) d_nil))))
  (s_one (s_ret (d_and (d_cmp (op_eqA hr.units) s_eq (d_callB call_len_seq s_len (by rfl) T.len PySem.boot_len (d_cons (d_callL h_makers (hr.mono (by omega)) (by rfl) (d_cons (d_var 9) d_nil)) d_nil)) d_int (nomark _)) (d_one (d_callB call_isi s_isi (by rfl) T.isinstance (by decide +kernel) (d_cons (d_kind FK gK T KF TB rfl hmL huL (k := 63) (hr.mono (by omega)) (show LamX.LamS (defScope s_law) _ from LamX.lamS_by (by decide +kernel)) rfl (fun _ _ _ _ _ => rfl) (fun _ _ _ _ _ _ _ _ _ _ hr fx => (d_callE h_first (hr.mono (by omega)) (by rfl) fx (takes_of rfl rfl rfl rfl) (d_cons (d_var 9) (d_cons d_int d_nil))))) (d_cons (d_ty (n := "tuple") (by rfl) T.tuple (by decide +kernel)) d_nil))))))))))), ?_⟩
    walk_at "g"
    refine ⟨ns, rfl, hl, fun s o hs0 so => ?_⟩
    have nPs : Pt ≠ s := fun z => by rw [hW, ← z, put_ne hPP, put_same] at hs0; cases hs0
    have nQs : Pw ≠ s := fun z => by rw [hW, ← z, put_same] at hs0; cases hs0
    have hP0 : put W0 s o Pt = some (.tbl lamQ) := by rw [put_ne nPs, hW, put_ne hPP, put_same]
    have hQ0 : put W0 s o Pw = some (.tbl wkQ) := by rw [put_ne nQs, hW, put_same]
    have main : ∀ (items : List D) (x2 x3 x4 x5 x6 x7 x8 x9 x11 : Option D) (W : Wd) (o : Ob), W s = some o → StOb o → W Pt = some (.tbl lamQ) → W Pw = some (.tbl wkQ) →
        forGo (kName 2) (B1 P w K mg base a Pt Pw) items { nx := BE1 a Pt Pw { nx := fun x W => done Qd D.non W, rt := done Qd }, rt := done Qd } [some (.frz (ns.map D.int)), some lrow, x2, x3, x4, x5, x6, x7, x8, x9, some (.ref s), x11] W := by
      intro items
      induction items with
      | nil =>
        intro x2 x3 x4 x5 x6 x7 x8 x9 x11 W o hs so hT hU
        rw [forGo_nil]
        unfold BE1 BEr
        rw [show lrow = .tup [lmk, .tup []] from rfl]
        walk_at "g"
        refine ⟨_, _, rfl, rfl, by simp, by decide, by decide, by decide, _, rfl, by decide +kernel, lgood, congrArg (fun d => [d]) lgood_D, lgood_ok.gd, ?_⟩
        walk_at "g"
        rw [if_pos (by rw [List.length_map]; decide +kernel)]
        refine ⟨tabs hT hU, fun W2 s2 => ?_⟩
        walk_at "g"
        refine .inl ⟨lgood, 1000, congrArg (fun d => [d, D.int 1000]) lgood_D, lgood_ok.gd, lgood_ok.nb, by decide, ?_⟩
        exact ⟨_, rfl, _, rfl, done.here (q _)⟩
      | cons k items ih =>
        intro x2 x3 x4 x5 x6 x7 x8 x9 x11 W o hs so hT hU
        rw [forGo_cons]
        exact turn1 hPP nPs nQs hs so hT hU fun x3 x4 x5 x6 x7 x8 x11 W' o' h1 h2 h3 h4 => ih _ _ _ _ _ _ _ _ _ W' o' h1 h2 h3 h4
    exact ⟨by decide, by decide, main _ _ _ _ _ _ _ _ _ _ _ o put_same so hP0 hQ0⟩
end
end DL
end
section
set_option maxRecDepth 100000
set_option maxHeartbeats 4000000
namespace DL
open PySem PySem.Spec PyProof.Rows L2
def noList (K : PySem.W.Frag) : Bool := K.all fun p => match p.2.cls with
  | .type n => !(n == "list")
  | _ => true
theorem noList_at : ∀ {K : PySem.W.Frag} {a : Addr} {o : Obj}, noList K = true → K.lookup a = some o → o.cls ≠ .type "list"
  | [], _, _, _, e, _ => by cases e
  | (b, x) :: r, a, o, h, e, z => by
    unfold noList at h
    rw [List.all_cons, Bool.and_eq_true] at h
    rw [List.lookup_cons] at e
    split at e
    · cases e
      have h1 := h.1
      simp only [z] at h1
      exact absurd h1 (by decide)
    · exact noList_at h.2 e z
theorem is_ints {W : Wd} {H : Hp} : ∀ ns : List Int, IsL W H (ns.map D.int) (ns.map V.int)
  | [] => .nil
  | n :: r => .cons (.int n) (is_ints r)

theorem spL_of {K : PySem.W.Frag} {H : Hp} {a Pt Pw : Addr} {ns : List Int} (ne : Pt ≠ Pw) (n : noList K = true) (hl : ns.length ≤ 63) (hT : H Pt = some (.tbl #[])) (hU : H Pw = some (.tbl #[])) (hS : SqL K H a (ns.map V.int)) : liftSp (sp_law2 Pt Pw) [.ref a] H (fun v _ => v = .bl true) fun _ _ _ => False := by
  rcases hS with r | ⟨o, its, k, e, c, _⟩
  · have nf : ∀ Q, H Q = some (.tbl #[]) → a ≠ Q := fun Q hQ z => by
      rw [z] at r
      rcases r with r | ⟨o, r⟩ <;> (rw [hQ] at r; cases r)
    refine ⟨[.frz (ns.map D.int)], put (put (fun _ => none) Pt (.tbl lamQ)) Pw (.tbl wkQ), fun d _ => d = .bl true, XD0, .cons (.frz r (by rw [put_ne (nf _ hU), put_ne (nf _ hT)]) (is_ints ns)) .nil, fun u ob e => ?_, ⟨ns, rfl, hl, rfl, fun _ => rfl⟩, ?_, FinX.no⟩
    · by_cases y : u = Pw
      · subst y; rw [put_same] at e; cases e; exact LamX.TabS.nil hU
      rw [put_ne y] at e
      by_cases z : u = Pt
      · subst z; rw [put_same] at e; cases e; exact LamX.TabS.nil hT
      · rw [put_ne z] at e; cases e
    rintro d W' v H' rfl _ _ i
    cases i
    rfl
  · exact (noList_at n e c).elim

theorem all_mk {P : Program} {w : World} {K : PySem.W.Frag} {h : Heap} {mg : Str → Option Value} {fa : Addr} (X : K.In h) (G : h.Ns mainGlobals mg) (hfa : mg "law" = some (.ref fa))
    {A_is_number A_is_maker A_is_stage A_inner_of A_is_chain A_need_chain A_all_makers A_first A_until_of A_each_of A_unlike_of A_with_chain A_behind A_row_of A_whole A_makers A_written A_lawstart A_lawdrawn A_lawnumber A_lawmaker A_lawstage A_lawchain A_lawany A_lawmks A_lawkind A_lawsame A_lawbad A_lawwks A_law A_Source A_Link A_Drawer A_Source_init A_Source_draw A_Link_init A_Link_draw A_Link_drawn_by A_Link_sought A_Link_dropped A_Link_told_again A_Link_ended A_Link_paired A_Link_followed A_Drawer_init A_Drawer_made A_Drawer_next A_Drawer_drawn A_BadChain A_BadMany A_NoWhole A_SIZES A_BOUNDS A_Bdrop A_Btake A_Beach A_DrawError A_BadText A_lawcd A_tab A_wkcd A_wtab : Addr}
    {is_number_oc is_number_kV is_number_dc is_number_pm is_number_cd is_number_ct is_maker_oc is_maker_kV is_maker_dc is_maker_pm is_maker_cd is_maker_ct is_stage_oc is_stage_kV is_stage_dc is_stage_pm is_stage_cd is_stage_ct inner_of_oc inner_of_kV inner_of_dc inner_of_pm inner_of_cd inner_of_ct is_chain_oc is_chain_kV is_chain_dc is_chain_pm is_chain_cd is_chain_ct need_chain_oc need_chain_kV need_chain_dc need_chain_pm need_chain_cd need_chain_ct all_makers_oc all_makers_kV all_makers_dc all_makers_pm all_makers_cd all_makers_ct first_oc first_kV first_dc first_pm first_cd first_ct until_of_oc until_of_kV until_of_dc until_of_pm until_of_cd until_of_ct each_of_oc each_of_kV each_of_dc each_of_pm each_of_cd each_of_ct unlike_of_oc unlike_of_kV unlike_of_dc unlike_of_pm unlike_of_cd unlike_of_ct with_chain_oc with_chain_kV with_chain_dc with_chain_pm with_chain_cd with_chain_ct behind_oc behind_kV behind_dc behind_pm behind_cd behind_ct row_of_oc row_of_kV row_of_dc row_of_pm row_of_cd row_of_ct whole_oc whole_kV whole_dc whole_pm whole_cd whole_ct makers_oc makers_kV makers_dc makers_pm makers_cd makers_ct written_oc written_kV written_dc written_pm written_cd written_ct _law_start_oc _law_start_kV _law_start_dc _law_start_pm _law_start_cd _law_start_ct _law_drawn_oc _law_drawn_kV _law_drawn_dc _law_drawn_pm _law_drawn_cd _law_drawn_ct _law_number_oc _law_number_kV _law_number_dc _law_number_pm _law_number_cd _law_number_ct _law_maker_oc _law_maker_kV _law_maker_dc _law_maker_pm _law_maker_cd _law_maker_ct _law_stage_oc _law_stage_kV _law_stage_dc _law_stage_pm _law_stage_cd _law_stage_ct _law_chain_oc _law_chain_kV _law_chain_dc _law_chain_pm _law_chain_cd _law_chain_ct _law_any_oc _law_any_kV _law_any_dc _law_any_pm _law_any_cd _law_any_ct _law_makers_oc _law_makers_kV _law_makers_dc _law_makers_pm _law_makers_cd _law_makers_ct _law_kind_oc _law_kind_kV _law_kind_dc _law_kind_pm _law_kind_cd _law_kind_ct _law_same_oc _law_same_kV _law_same_dc _law_same_pm _law_same_cd _law_same_ct _law_bad_oc _law_bad_kV _law_bad_dc _law_bad_pm _law_bad_cd _law_bad_ct _law_works_oc _law_works_kV _law_works_dc _law_works_pm _law_works_ct law_oc law_kV law_dc law_pm law_ct Source_init_oc Source_init_kV Source_init_dc Source_init_pm Source_init_cd Source_init_ct Source_draw_oc Source_draw_kV Source_draw_dc Source_draw_pm Source_draw_cd Source_draw_ct Link_init_oc Link_init_kV Link_init_dc Link_init_pm Link_init_cd Link_init_ct Link_draw_oc Link_draw_kV Link_draw_dc Link_draw_pm Link_draw_cd Link_draw_ct Link_drawn_by_oc Link_drawn_by_kV Link_drawn_by_dc Link_drawn_by_pm Link_drawn_by_cd Link_drawn_by_ct Link_sought_oc Link_sought_kV Link_sought_dc Link_sought_pm Link_sought_cd Link_sought_ct Link_dropped_oc Link_dropped_kV Link_dropped_dc Link_dropped_pm Link_dropped_cd Link_dropped_ct Link_told_again_oc Link_told_again_kV Link_told_again_dc Link_told_again_pm Link_told_again_cd Link_told_again_ct Link_ended_oc Link_ended_kV Link_ended_dc Link_ended_pm Link_ended_cd Link_ended_ct Link_paired_oc Link_paired_kV Link_paired_dc Link_paired_pm Link_paired_cd Link_paired_ct Link_followed_oc Link_followed_kV Link_followed_dc Link_followed_pm Link_followed_cd Link_followed_ct Drawer_init_oc Drawer_init_kV Drawer_init_dc Drawer_init_pm Drawer_init_cd Drawer_init_ct Drawer_made_oc Drawer_made_kV Drawer_made_dc Drawer_made_pm Drawer_made_cd Drawer_made_ct Drawer_next_oc Drawer_next_kV Drawer_next_dc Drawer_next_pm Drawer_next_cd Drawer_next_ct Drawer_drawn_oc Drawer_drawn_kV Drawer_drawn_dc Drawer_drawn_pm Drawer_drawn_cd Drawer_drawn_ct : Value} {is_number_od is_number_an is_maker_od is_maker_an is_stage_od is_stage_an inner_of_od inner_of_an is_chain_od is_chain_an need_chain_od need_chain_an all_makers_od all_makers_an first_od first_an until_of_od until_of_an each_of_od each_of_an unlike_of_od unlike_of_an with_chain_od with_chain_an behind_od behind_an row_of_od row_of_an whole_od whole_an makers_od makers_an written_od written_an _law_start_od _law_start_an _law_drawn_od _law_drawn_an _law_number_od _law_number_an _law_maker_od _law_maker_an _law_stage_od _law_stage_an _law_chain_od _law_chain_an _law_any_od _law_any_an _law_makers_od _law_makers_an _law_kind_od _law_kind_an _law_same_od _law_same_an _law_bad_od _law_bad_an _law_works_od _law_works_an law_od law_an Source_init_od Source_init_an Source_draw_od Source_draw_an Link_init_od Link_init_an Link_draw_od Link_draw_an Link_drawn_by_od Link_drawn_by_an Link_sought_od Link_sought_an Link_dropped_od Link_dropped_an Link_told_again_od Link_told_again_an Link_ended_od Link_ended_an Link_paired_od Link_paired_an Link_followed_od Link_followed_an Drawer_init_od Drawer_init_an Drawer_made_od Drawer_made_an Drawer_next_od Drawer_next_an Drawer_drawn_od Drawer_drawn_an : Option Addr} {is_number_sl is_maker_sl is_stage_sl inner_of_sl is_chain_sl need_chain_sl all_makers_sl first_sl until_of_sl each_of_sl unlike_of_sl with_chain_sl behind_sl row_of_sl whole_sl makers_sl written_sl _law_start_sl _law_drawn_sl _law_number_sl _law_maker_sl _law_stage_sl _law_chain_sl _law_any_sl _law_makers_sl _law_kind_sl _law_same_sl _law_bad_sl _law_works_sl law_sl Source_init_sl Source_draw_sl Link_init_sl Link_draw_sl Link_drawn_by_sl Link_sought_sl Link_dropped_sl Link_told_again_sl Link_ended_sl Link_paired_sl Link_followed_sl Drawer_init_sl Drawer_made_sl Drawer_next_sl Drawer_drawn_sl : Array (Option Value)}
    {t_MOST_ROW t_MOST_MAKERS t_MOST_STAGES t_MOST_WHEEL t_PATIENCE t_MOST_MANY t_MOST_WHOLE t_END t_LONG t_NUMBER ts_add ts_times ts_keep ts_drop ts_take ts_each ts_until ts_unlike ts_both ts_then tl_drop th_drop tl_take th_take tl_each th_each : Tok} {bd_drop bd_take bd_each : Option Addr} {bn_drop bn_take bn_each : Nat} {bs_drop bs_take bs_each : Array (Option Value)}
    {lc_e : Value} {lc_d : Option Addr} {lc_vs : Array Value} {lc_sl : Array (Option Value)} {wc_e : Value} {wc_d : Option Addr} {wc_vs : Array Value} {wc_sl : Array (Option Value)} (noL : noList K = true)
    (g_is_number : PySem.W.nsIn K mainGlobals "is_number" = some (some (.ref A_is_number)))
    (l_is_number : K.lookup A_is_number = some ⟨is_number_oc, is_number_od, .func (PySem.W.fnOf "is_number" "is_number" (defArgs s_is_number) (defBody s_is_number) (defScope s_is_number) .none is_number_kV is_number_dc is_number_pm is_number_an is_number_cd is_number_ct), is_number_sl⟩)
    (c_is_number : PySem.W.codeIn K is_number_cd "is_number" = true)
    (k_is_number : PySem.W.keepIn K (.ref A_is_number) = true)
    (g_is_maker : PySem.W.nsIn K mainGlobals "is_maker" = some (some (.ref A_is_maker)))
    (l_is_maker : K.lookup A_is_maker = some ⟨is_maker_oc, is_maker_od, .func (PySem.W.fnOf "is_maker" "is_maker" (defArgs s_is_maker) (defBody s_is_maker) (defScope s_is_maker) .none is_maker_kV is_maker_dc is_maker_pm is_maker_an is_maker_cd is_maker_ct), is_maker_sl⟩)
    (c_is_maker : PySem.W.codeIn K is_maker_cd "is_maker" = true)
    (k_is_maker : PySem.W.keepIn K (.ref A_is_maker) = true)
    (g_is_stage : PySem.W.nsIn K mainGlobals "is_stage" = some (some (.ref A_is_stage)))
    (l_is_stage : K.lookup A_is_stage = some ⟨is_stage_oc, is_stage_od, .func (PySem.W.fnOf "is_stage" "is_stage" (defArgs s_is_stage) (defBody s_is_stage) (defScope s_is_stage) .none is_stage_kV is_stage_dc is_stage_pm is_stage_an is_stage_cd is_stage_ct), is_stage_sl⟩)
    (c_is_stage : PySem.W.codeIn K is_stage_cd "is_stage" = true)
    (k_is_stage : PySem.W.keepIn K (.ref A_is_stage) = true)
    (g_inner_of : PySem.W.nsIn K mainGlobals "inner_of" = some (some (.ref A_inner_of)))
    (l_inner_of : K.lookup A_inner_of = some ⟨inner_of_oc, inner_of_od, .func (PySem.W.fnOf "inner_of" "inner_of" (defArgs s_inner_of) (defBody s_inner_of) (defScope s_inner_of) .none inner_of_kV inner_of_dc inner_of_pm inner_of_an inner_of_cd inner_of_ct), inner_of_sl⟩)
    (c_inner_of : PySem.W.codeIn K inner_of_cd "inner_of" = true)
    (k_inner_of : PySem.W.keepIn K (.ref A_inner_of) = true)
    (g_is_chain : PySem.W.nsIn K mainGlobals "is_chain" = some (some (.ref A_is_chain)))
    (l_is_chain : K.lookup A_is_chain = some ⟨is_chain_oc, is_chain_od, .func (PySem.W.fnOf "is_chain" "is_chain" (defArgs s_is_chain) (defBody s_is_chain) (defScope s_is_chain) .none is_chain_kV is_chain_dc is_chain_pm is_chain_an is_chain_cd is_chain_ct), is_chain_sl⟩)
    (c_is_chain : PySem.W.codeIn K is_chain_cd "is_chain" = true)
    (k_is_chain : PySem.W.keepIn K (.ref A_is_chain) = true)
    (g_need_chain : PySem.W.nsIn K mainGlobals "need_chain" = some (some (.ref A_need_chain)))
    (l_need_chain : K.lookup A_need_chain = some ⟨need_chain_oc, need_chain_od, .func (PySem.W.fnOf "need_chain" "need_chain" (defArgs s_need_chain) (defBody s_need_chain) (defScope s_need_chain) .none need_chain_kV need_chain_dc need_chain_pm need_chain_an need_chain_cd need_chain_ct), need_chain_sl⟩)
    (c_need_chain : PySem.W.codeIn K need_chain_cd "need_chain" = true)
    (k_need_chain : PySem.W.keepIn K (.ref A_need_chain) = true)
    (g_all_makers : PySem.W.nsIn K mainGlobals "all_makers" = some (some (.ref A_all_makers)))
    (l_all_makers : K.lookup A_all_makers = some ⟨all_makers_oc, all_makers_od, .func (PySem.W.fnOf "all_makers" "all_makers" (defArgs s_all_makers) (defBody s_all_makers) (defScope s_all_makers) .none all_makers_kV all_makers_dc all_makers_pm all_makers_an all_makers_cd all_makers_ct), all_makers_sl⟩)
    (c_all_makers : PySem.W.codeIn K all_makers_cd "all_makers" = true)
    (k_all_makers : PySem.W.keepIn K (.ref A_all_makers) = true)
    (g_first : PySem.W.nsIn K mainGlobals "first" = some (some (.ref A_first)))
    (l_first : K.lookup A_first = some ⟨first_oc, first_od, .func (PySem.W.fnOf "first" "first" (defArgs s_first) (defBody s_first) (defScope s_first) .none first_kV first_dc first_pm first_an first_cd first_ct), first_sl⟩)
    (c_first : PySem.W.codeIn K first_cd "first" = true)
    (k_first : PySem.W.keepIn K (.ref A_first) = true)
    (g_until_of : PySem.W.nsIn K mainGlobals "until_of" = some (some (.ref A_until_of)))
    (l_until_of : K.lookup A_until_of = some ⟨until_of_oc, until_of_od, .func (PySem.W.fnOf "until_of" "until_of" (defArgs s_until_of) (defBody s_until_of) (defScope s_until_of) .none until_of_kV until_of_dc until_of_pm until_of_an until_of_cd until_of_ct), until_of_sl⟩)
    (c_until_of : PySem.W.codeIn K until_of_cd "until_of" = true)
    (k_until_of : PySem.W.keepIn K (.ref A_until_of) = true)
    (g_each_of : PySem.W.nsIn K mainGlobals "each_of" = some (some (.ref A_each_of)))
    (l_each_of : K.lookup A_each_of = some ⟨each_of_oc, each_of_od, .func (PySem.W.fnOf "each_of" "each_of" (defArgs s_each_of) (defBody s_each_of) (defScope s_each_of) .none each_of_kV each_of_dc each_of_pm each_of_an each_of_cd each_of_ct), each_of_sl⟩)
    (c_each_of : PySem.W.codeIn K each_of_cd "each_of" = true)
    (k_each_of : PySem.W.keepIn K (.ref A_each_of) = true)
    (g_unlike_of : PySem.W.nsIn K mainGlobals "unlike_of" = some (some (.ref A_unlike_of)))
    (l_unlike_of : K.lookup A_unlike_of = some ⟨unlike_of_oc, unlike_of_od, .func (PySem.W.fnOf "unlike_of" "unlike_of" (defArgs s_unlike_of) (defBody s_unlike_of) (defScope s_unlike_of) .none unlike_of_kV unlike_of_dc unlike_of_pm unlike_of_an unlike_of_cd unlike_of_ct), unlike_of_sl⟩)
    (c_unlike_of : PySem.W.codeIn K unlike_of_cd "unlike_of" = true)
    (k_unlike_of : PySem.W.keepIn K (.ref A_unlike_of) = true)
    (g_with_chain : PySem.W.nsIn K mainGlobals "with_chain" = some (some (.ref A_with_chain)))
    (l_with_chain : K.lookup A_with_chain = some ⟨with_chain_oc, with_chain_od, .func (PySem.W.fnOf "with_chain" "with_chain" (defArgs s_with_chain) (defBody s_with_chain) (defScope s_with_chain) .none with_chain_kV with_chain_dc with_chain_pm with_chain_an with_chain_cd with_chain_ct), with_chain_sl⟩)
    (c_with_chain : PySem.W.codeIn K with_chain_cd "with_chain" = true)
    (k_with_chain : PySem.W.keepIn K (.ref A_with_chain) = true)
    (g_behind : PySem.W.nsIn K mainGlobals "behind" = some (some (.ref A_behind)))
    (l_behind : K.lookup A_behind = some ⟨behind_oc, behind_od, .func (PySem.W.fnOf "behind" "behind" (defArgs s_behind) (defBody s_behind) (defScope s_behind) .none behind_kV behind_dc behind_pm behind_an behind_cd behind_ct), behind_sl⟩)
    (c_behind : PySem.W.codeIn K behind_cd "behind" = true)
    (k_behind : PySem.W.keepIn K (.ref A_behind) = true)
    (g_row_of : PySem.W.nsIn K mainGlobals "row_of" = some (some (.ref A_row_of)))
    (l_row_of : K.lookup A_row_of = some ⟨row_of_oc, row_of_od, .func (PySem.W.fnOf "row_of" "row_of" (defArgs s_row_of) (defBody s_row_of) (defScope s_row_of) .none row_of_kV row_of_dc row_of_pm row_of_an row_of_cd row_of_ct), row_of_sl⟩)
    (c_row_of : PySem.W.codeIn K row_of_cd "row_of" = true)
    (k_row_of : PySem.W.keepIn K (.ref A_row_of) = true)
    (g_whole : PySem.W.nsIn K mainGlobals "whole" = some (some (.ref A_whole)))
    (l_whole : K.lookup A_whole = some ⟨whole_oc, whole_od, .func (PySem.W.fnOf "whole" "whole" (defArgs s_whole) (defBody s_whole) (defScope s_whole) .none whole_kV whole_dc whole_pm whole_an whole_cd whole_ct), whole_sl⟩)
    (c_whole : PySem.W.codeIn K whole_cd "whole" = true)
    (k_whole : PySem.W.keepIn K (.ref A_whole) = true)
    (g_makers : PySem.W.nsIn K mainGlobals "makers" = some (some (.ref A_makers)))
    (l_makers : K.lookup A_makers = some ⟨makers_oc, makers_od, .func (PySem.W.fnOf "makers" "makers" (defArgs s_makers) (defBody s_makers) (defScope s_makers) .none makers_kV makers_dc makers_pm makers_an makers_cd makers_ct), makers_sl⟩)
    (c_makers : PySem.W.codeIn K makers_cd "makers" = true)
    (k_makers : PySem.W.keepIn K (.ref A_makers) = true)
    (g_written : PySem.W.nsIn K mainGlobals "written" = some (some (.ref A_written)))
    (l_written : K.lookup A_written = some ⟨written_oc, written_od, .func (PySem.W.fnOf "written" "written" (defArgs s_written) (defBody s_written) (defScope s_written) .none written_kV written_dc written_pm written_an written_cd written_ct), written_sl⟩)
    (c_written : PySem.W.codeIn K written_cd "written" = true)
    (k_written : PySem.W.keepIn K (.ref A_written) = true)
    (g__law_start : PySem.W.nsIn K mainGlobals "_law_start" = some (some (.ref A_lawstart)))
    (l__law_start : K.lookup A_lawstart = some ⟨_law_start_oc, _law_start_od, .func (PySem.W.fnOf "_law_start" "_law_start" (defArgs s__law_start) (defBody s__law_start) (defScope s__law_start) .none _law_start_kV _law_start_dc _law_start_pm _law_start_an _law_start_cd _law_start_ct), _law_start_sl⟩)
    (c__law_start : PySem.W.codeIn K _law_start_cd "_law_start" = true)
    (k__law_start : PySem.W.keepIn K (.ref A_lawstart) = true)
    (g__law_drawn : PySem.W.nsIn K mainGlobals "_law_drawn" = some (some (.ref A_lawdrawn)))
    (l__law_drawn : K.lookup A_lawdrawn = some ⟨_law_drawn_oc, _law_drawn_od, .func (PySem.W.fnOf "_law_drawn" "_law_drawn" (defArgs s__law_drawn) (defBody s__law_drawn) (defScope s__law_drawn) .none _law_drawn_kV _law_drawn_dc _law_drawn_pm _law_drawn_an _law_drawn_cd _law_drawn_ct), _law_drawn_sl⟩)
    (c__law_drawn : PySem.W.codeIn K _law_drawn_cd "_law_drawn" = true)
    (k__law_drawn : PySem.W.keepIn K (.ref A_lawdrawn) = true)
    (g__law_number : PySem.W.nsIn K mainGlobals "_law_number" = some (some (.ref A_lawnumber)))
    (l__law_number : K.lookup A_lawnumber = some ⟨_law_number_oc, _law_number_od, .func (PySem.W.fnOf "_law_number" "_law_number" (defArgs s__law_number) (defBody s__law_number) (defScope s__law_number) .none _law_number_kV _law_number_dc _law_number_pm _law_number_an _law_number_cd _law_number_ct), _law_number_sl⟩)
    (c__law_number : PySem.W.codeIn K _law_number_cd "_law_number" = true)
    (k__law_number : PySem.W.keepIn K (.ref A_lawnumber) = true)
    (g__law_maker : PySem.W.nsIn K mainGlobals "_law_maker" = some (some (.ref A_lawmaker)))
    (l__law_maker : K.lookup A_lawmaker = some ⟨_law_maker_oc, _law_maker_od, .func (PySem.W.fnOf "_law_maker" "_law_maker" (defArgs s__law_maker) (defBody s__law_maker) (defScope s__law_maker) .none _law_maker_kV _law_maker_dc _law_maker_pm _law_maker_an _law_maker_cd _law_maker_ct), _law_maker_sl⟩)
    (c__law_maker : PySem.W.codeIn K _law_maker_cd "_law_maker" = true)
    (k__law_maker : PySem.W.keepIn K (.ref A_lawmaker) = true)
    (g__law_stage : PySem.W.nsIn K mainGlobals "_law_stage" = some (some (.ref A_lawstage)))
    (l__law_stage : K.lookup A_lawstage = some ⟨_law_stage_oc, _law_stage_od, .func (PySem.W.fnOf "_law_stage" "_law_stage" (defArgs s__law_stage) (defBody s__law_stage) (defScope s__law_stage) .none _law_stage_kV _law_stage_dc _law_stage_pm _law_stage_an _law_stage_cd _law_stage_ct), _law_stage_sl⟩)
    (c__law_stage : PySem.W.codeIn K _law_stage_cd "_law_stage" = true)
    (k__law_stage : PySem.W.keepIn K (.ref A_lawstage) = true)
    (g__law_chain : PySem.W.nsIn K mainGlobals "_law_chain" = some (some (.ref A_lawchain)))
    (l__law_chain : K.lookup A_lawchain = some ⟨_law_chain_oc, _law_chain_od, .func (PySem.W.fnOf "_law_chain" "_law_chain" (defArgs s__law_chain) (defBody s__law_chain) (defScope s__law_chain) .none _law_chain_kV _law_chain_dc _law_chain_pm _law_chain_an _law_chain_cd _law_chain_ct), _law_chain_sl⟩)
    (c__law_chain : PySem.W.codeIn K _law_chain_cd "_law_chain" = true)
    (k__law_chain : PySem.W.keepIn K (.ref A_lawchain) = true)
    (g__law_any : PySem.W.nsIn K mainGlobals "_law_any" = some (some (.ref A_lawany)))
    (l__law_any : K.lookup A_lawany = some ⟨_law_any_oc, _law_any_od, .func (PySem.W.fnOf "_law_any" "_law_any" (defArgs s__law_any) (defBody s__law_any) (defScope s__law_any) .none _law_any_kV _law_any_dc _law_any_pm _law_any_an _law_any_cd _law_any_ct), _law_any_sl⟩)
    (c__law_any : PySem.W.codeIn K _law_any_cd "_law_any" = true)
    (k__law_any : PySem.W.keepIn K (.ref A_lawany) = true)
    (g__law_makers : PySem.W.nsIn K mainGlobals "_law_makers" = some (some (.ref A_lawmks)))
    (l__law_makers : K.lookup A_lawmks = some ⟨_law_makers_oc, _law_makers_od, .func (PySem.W.fnOf "_law_makers" "_law_makers" (defArgs s__law_makers) (defBody s__law_makers) (defScope s__law_makers) .none _law_makers_kV _law_makers_dc _law_makers_pm _law_makers_an _law_makers_cd _law_makers_ct), _law_makers_sl⟩)
    (c__law_makers : PySem.W.codeIn K _law_makers_cd "_law_makers" = true)
    (k__law_makers : PySem.W.keepIn K (.ref A_lawmks) = true)
    (g__law_kind : PySem.W.nsIn K mainGlobals "_law_kind" = some (some (.ref A_lawkind)))
    (l__law_kind : K.lookup A_lawkind = some ⟨_law_kind_oc, _law_kind_od, .func (PySem.W.fnOf "_law_kind" "_law_kind" (defArgs s__law_kind) (defBody s__law_kind) (defScope s__law_kind) .none _law_kind_kV _law_kind_dc _law_kind_pm _law_kind_an _law_kind_cd _law_kind_ct), _law_kind_sl⟩)
    (c__law_kind : PySem.W.codeIn K _law_kind_cd "_law_kind" = true)
    (k__law_kind : PySem.W.keepIn K (.ref A_lawkind) = true)
    (g__law_same : PySem.W.nsIn K mainGlobals "_law_same" = some (some (.ref A_lawsame)))
    (l__law_same : K.lookup A_lawsame = some ⟨_law_same_oc, _law_same_od, .func (PySem.W.fnOf "_law_same" "_law_same" (defArgs s__law_same) (defBody s__law_same) (defScope s__law_same) .none _law_same_kV _law_same_dc _law_same_pm _law_same_an _law_same_cd _law_same_ct), _law_same_sl⟩)
    (c__law_same : PySem.W.codeIn K _law_same_cd "_law_same" = true)
    (k__law_same : PySem.W.keepIn K (.ref A_lawsame) = true)
    (g__law_bad : PySem.W.nsIn K mainGlobals "_law_bad" = some (some (.ref A_lawbad)))
    (l__law_bad : K.lookup A_lawbad = some ⟨_law_bad_oc, _law_bad_od, .func (PySem.W.fnOf "_law_bad" "_law_bad" (defArgs s__law_bad) (defBody s__law_bad) (defScope s__law_bad) .none _law_bad_kV _law_bad_dc _law_bad_pm _law_bad_an _law_bad_cd _law_bad_ct), _law_bad_sl⟩)
    (c__law_bad : PySem.W.codeIn K _law_bad_cd "_law_bad" = true)
    (k__law_bad : PySem.W.keepIn K (.ref A_lawbad) = true)
    (g__law_works : PySem.W.nsIn K mainGlobals "_law_works" = some (some (.ref A_lawwks)))
    (l__law_works : K.lookup A_lawwks = some ⟨_law_works_oc, _law_works_od, .func (PySem.W.fnOf "_law_works" "_law_works" (defArgs s__law_works) (defBody s__law_works) (defScope s__law_works) .none _law_works_kV _law_works_dc _law_works_pm _law_works_an (.ref A_wkcd) _law_works_ct), _law_works_sl⟩)
    (c__law_works : PySem.W.codeIn K (.ref A_wkcd) "_law_works" = true)
    (k__law_works : PySem.W.keepIn K (.ref A_lawwks) = true)
    (g_law : PySem.W.nsIn K mainGlobals "law" = some (some (.ref A_law)))
    (l_law : K.lookup A_law = some ⟨law_oc, law_od, .func (PySem.W.fnOf "law" "law" (defArgs s_law) (defBody s_law) (defScope s_law) .none law_kV law_dc law_pm law_an (.ref A_lawcd) law_ct), law_sl⟩)
    (c_law : PySem.W.codeIn K (.ref A_lawcd) "law" = true)
    (k_law : PySem.W.keepIn K (.ref A_law) = true)
    (g_Source : PySem.W.nsIn K mainGlobals "Source" = some (some (.ref A_Source)))
    (pg_Source : PySem.W.plainGet K A_Source Str.empty = true)
    (hd_Source : PySem.W.hasDictIn K A_Source = true)
    (po_Source : PySem.W.plainOver K A_Source = true)
    (sa_Source : PySem.W.findIn K (.ref A_Source) "__setattr__" = some (some (.builtin "object.__setattr__")))
    (mk_Source : PySem.W.makesIn K A_Source = true)
    (kc_Source : PySem.W.keepIn K (.ref A_Source) = true)
    (na_Source_gives : PySem.W.findIn K (.ref A_Source) "gives" = some none)
    (na_Source_book : PySem.W.findIn K (.ref A_Source) "book" = some none)
    (na_Source_given : PySem.W.findIn K (.ref A_Source) "given" = some none)
    (g_Link : PySem.W.nsIn K mainGlobals "Link" = some (some (.ref A_Link)))
    (pg_Link : PySem.W.plainGet K A_Link Str.empty = true)
    (hd_Link : PySem.W.hasDictIn K A_Link = true)
    (po_Link : PySem.W.plainOver K A_Link = true)
    (sa_Link : PySem.W.findIn K (.ref A_Link) "__setattr__" = some (some (.builtin "object.__setattr__")))
    (mk_Link : PySem.W.makesIn K A_Link = true)
    (kc_Link : PySem.W.keepIn K (.ref A_Link) = true)
    (na_Link_rule : PySem.W.findIn K (.ref A_Link) "rule" = some none)
    (na_Link_ahead : PySem.W.findIn K (.ref A_Link) "ahead" = some none)
    (na_Link_beside : PySem.W.findIn K (.ref A_Link) "beside" = some none)
    (na_Link_lost : PySem.W.findIn K (.ref A_Link) "lost" = some none)
    (na_Link_over : PySem.W.findIn K (.ref A_Link) "over" = some none)
    (na_Link_told : PySem.W.findIn K (.ref A_Link) "told" = some none)
    (na_Link_last : PySem.W.findIn K (.ref A_Link) "last" = some none)
    (na_Link_left : PySem.W.findIn K (.ref A_Link) "left" = some none)
    (g_Drawer : PySem.W.nsIn K mainGlobals "Drawer" = some (some (.ref A_Drawer)))
    (pg_Drawer : PySem.W.plainGet K A_Drawer Str.empty = true)
    (hd_Drawer : PySem.W.hasDictIn K A_Drawer = true)
    (po_Drawer : PySem.W.plainOver K A_Drawer = true)
    (sa_Drawer : PySem.W.findIn K (.ref A_Drawer) "__setattr__" = some (some (.builtin "object.__setattr__")))
    (mk_Drawer : PySem.W.makesIn K A_Drawer = true)
    (kc_Drawer : PySem.W.keepIn K (.ref A_Drawer) = true)
    (na_Drawer_book : PySem.W.findIn K (.ref A_Drawer) "book" = some none)
    (na_Drawer_lost : PySem.W.findIn K (.ref A_Drawer) "lost" = some none)
    (na_Drawer_back : PySem.W.findIn K (.ref A_Drawer) "back" = some none)
    (na_Drawer_stuck : PySem.W.findIn K (.ref A_Drawer) "stuck" = some none)
    (na_Drawer_sources : PySem.W.findIn K (.ref A_Drawer) "sources" = some none)
    (na_Drawer_top : PySem.W.findIn K (.ref A_Drawer) "top" = some none)
    (g_Source_init : PySem.W.findIn K (.ref A_Source) "__init__" = some (some (.ref A_Source_init)))
    (i_Source_init : PySem.W.isFn K (.ref A_Source_init) = true)
    (l_Source_init : K.lookup A_Source_init = some ⟨Source_init_oc, Source_init_od, .func (PySem.W.fnOf "__init__" "Source.__init__" (defArgs s_Source_init) (defBody s_Source_init) (defScope s_Source_init) .none Source_init_kV Source_init_dc Source_init_pm Source_init_an Source_init_cd Source_init_ct), Source_init_sl⟩)
    (c_Source_init : PySem.W.codeIn K Source_init_cd "Source.__init__" = true)
    (k_Source_init : PySem.W.keepIn K (.ref A_Source_init) = true)
    (g_Source_draw : PySem.W.findIn K (.ref A_Source) "draw" = some (some (.ref A_Source_draw)))
    (i_Source_draw : PySem.W.isFn K (.ref A_Source_draw) = true)
    (l_Source_draw : K.lookup A_Source_draw = some ⟨Source_draw_oc, Source_draw_od, .func (PySem.W.fnOf "draw" "Source.draw" (defArgs s_Source_draw) (defBody s_Source_draw) (defScope s_Source_draw) .none Source_draw_kV Source_draw_dc Source_draw_pm Source_draw_an Source_draw_cd Source_draw_ct), Source_draw_sl⟩)
    (c_Source_draw : PySem.W.codeIn K Source_draw_cd "Source.draw" = true)
    (k_Source_draw : PySem.W.keepIn K (.ref A_Source_draw) = true)
    (g_Link_init : PySem.W.findIn K (.ref A_Link) "__init__" = some (some (.ref A_Link_init)))
    (i_Link_init : PySem.W.isFn K (.ref A_Link_init) = true)
    (l_Link_init : K.lookup A_Link_init = some ⟨Link_init_oc, Link_init_od, .func (PySem.W.fnOf "__init__" "Link.__init__" (defArgs s_Link_init) (defBody s_Link_init) (defScope s_Link_init) .none Link_init_kV Link_init_dc Link_init_pm Link_init_an Link_init_cd Link_init_ct), Link_init_sl⟩)
    (c_Link_init : PySem.W.codeIn K Link_init_cd "Link.__init__" = true)
    (k_Link_init : PySem.W.keepIn K (.ref A_Link_init) = true)
    (g_Link_draw : PySem.W.findIn K (.ref A_Link) "draw" = some (some (.ref A_Link_draw)))
    (i_Link_draw : PySem.W.isFn K (.ref A_Link_draw) = true)
    (l_Link_draw : K.lookup A_Link_draw = some ⟨Link_draw_oc, Link_draw_od, .func (PySem.W.fnOf "draw" "Link.draw" (defArgs s_Link_draw) (defBody s_Link_draw) (defScope s_Link_draw) .none Link_draw_kV Link_draw_dc Link_draw_pm Link_draw_an Link_draw_cd Link_draw_ct), Link_draw_sl⟩)
    (c_Link_draw : PySem.W.codeIn K Link_draw_cd "Link.draw" = true)
    (k_Link_draw : PySem.W.keepIn K (.ref A_Link_draw) = true)
    (g_Link_drawn_by : PySem.W.findIn K (.ref A_Link) "drawn_by" = some (some (.ref A_Link_drawn_by)))
    (i_Link_drawn_by : PySem.W.isFn K (.ref A_Link_drawn_by) = true)
    (l_Link_drawn_by : K.lookup A_Link_drawn_by = some ⟨Link_drawn_by_oc, Link_drawn_by_od, .func (PySem.W.fnOf "drawn_by" "Link.drawn_by" (defArgs s_Link_drawn_by) (defBody s_Link_drawn_by) (defScope s_Link_drawn_by) .none Link_drawn_by_kV Link_drawn_by_dc Link_drawn_by_pm Link_drawn_by_an Link_drawn_by_cd Link_drawn_by_ct), Link_drawn_by_sl⟩)
    (c_Link_drawn_by : PySem.W.codeIn K Link_drawn_by_cd "Link.drawn_by" = true)
    (k_Link_drawn_by : PySem.W.keepIn K (.ref A_Link_drawn_by) = true)
    (g_Link_sought : PySem.W.findIn K (.ref A_Link) "sought" = some (some (.ref A_Link_sought)))
    (i_Link_sought : PySem.W.isFn K (.ref A_Link_sought) = true)
    (l_Link_sought : K.lookup A_Link_sought = some ⟨Link_sought_oc, Link_sought_od, .func (PySem.W.fnOf "sought" "Link.sought" (defArgs s_Link_sought) (defBody s_Link_sought) (defScope s_Link_sought) .none Link_sought_kV Link_sought_dc Link_sought_pm Link_sought_an Link_sought_cd Link_sought_ct), Link_sought_sl⟩)
    (c_Link_sought : PySem.W.codeIn K Link_sought_cd "Link.sought" = true)
    (k_Link_sought : PySem.W.keepIn K (.ref A_Link_sought) = true)
    (g_Link_dropped : PySem.W.findIn K (.ref A_Link) "dropped" = some (some (.ref A_Link_dropped)))
    (i_Link_dropped : PySem.W.isFn K (.ref A_Link_dropped) = true)
    (l_Link_dropped : K.lookup A_Link_dropped = some ⟨Link_dropped_oc, Link_dropped_od, .func (PySem.W.fnOf "dropped" "Link.dropped" (defArgs s_Link_dropped) (defBody s_Link_dropped) (defScope s_Link_dropped) .none Link_dropped_kV Link_dropped_dc Link_dropped_pm Link_dropped_an Link_dropped_cd Link_dropped_ct), Link_dropped_sl⟩)
    (c_Link_dropped : PySem.W.codeIn K Link_dropped_cd "Link.dropped" = true)
    (k_Link_dropped : PySem.W.keepIn K (.ref A_Link_dropped) = true)
    (g_Link_told_again : PySem.W.findIn K (.ref A_Link) "told_again" = some (some (.ref A_Link_told_again)))
    (i_Link_told_again : PySem.W.isFn K (.ref A_Link_told_again) = true)
    (l_Link_told_again : K.lookup A_Link_told_again = some ⟨Link_told_again_oc, Link_told_again_od, .func (PySem.W.fnOf "told_again" "Link.told_again" (defArgs s_Link_told_again) (defBody s_Link_told_again) (defScope s_Link_told_again) .none Link_told_again_kV Link_told_again_dc Link_told_again_pm Link_told_again_an Link_told_again_cd Link_told_again_ct), Link_told_again_sl⟩)
    (c_Link_told_again : PySem.W.codeIn K Link_told_again_cd "Link.told_again" = true)
    (k_Link_told_again : PySem.W.keepIn K (.ref A_Link_told_again) = true)
    (g_Link_ended : PySem.W.findIn K (.ref A_Link) "ended" = some (some (.ref A_Link_ended)))
    (i_Link_ended : PySem.W.isFn K (.ref A_Link_ended) = true)
    (l_Link_ended : K.lookup A_Link_ended = some ⟨Link_ended_oc, Link_ended_od, .func (PySem.W.fnOf "ended" "Link.ended" (defArgs s_Link_ended) (defBody s_Link_ended) (defScope s_Link_ended) .none Link_ended_kV Link_ended_dc Link_ended_pm Link_ended_an Link_ended_cd Link_ended_ct), Link_ended_sl⟩)
    (c_Link_ended : PySem.W.codeIn K Link_ended_cd "Link.ended" = true)
    (k_Link_ended : PySem.W.keepIn K (.ref A_Link_ended) = true)
    (g_Link_paired : PySem.W.findIn K (.ref A_Link) "paired" = some (some (.ref A_Link_paired)))
    (i_Link_paired : PySem.W.isFn K (.ref A_Link_paired) = true)
    (l_Link_paired : K.lookup A_Link_paired = some ⟨Link_paired_oc, Link_paired_od, .func (PySem.W.fnOf "paired" "Link.paired" (defArgs s_Link_paired) (defBody s_Link_paired) (defScope s_Link_paired) .none Link_paired_kV Link_paired_dc Link_paired_pm Link_paired_an Link_paired_cd Link_paired_ct), Link_paired_sl⟩)
    (c_Link_paired : PySem.W.codeIn K Link_paired_cd "Link.paired" = true)
    (k_Link_paired : PySem.W.keepIn K (.ref A_Link_paired) = true)
    (g_Link_followed : PySem.W.findIn K (.ref A_Link) "followed" = some (some (.ref A_Link_followed)))
    (i_Link_followed : PySem.W.isFn K (.ref A_Link_followed) = true)
    (l_Link_followed : K.lookup A_Link_followed = some ⟨Link_followed_oc, Link_followed_od, .func (PySem.W.fnOf "followed" "Link.followed" (defArgs s_Link_followed) (defBody s_Link_followed) (defScope s_Link_followed) .none Link_followed_kV Link_followed_dc Link_followed_pm Link_followed_an Link_followed_cd Link_followed_ct), Link_followed_sl⟩)
    (c_Link_followed : PySem.W.codeIn K Link_followed_cd "Link.followed" = true)
    (k_Link_followed : PySem.W.keepIn K (.ref A_Link_followed) = true)
    (g_Drawer_init : PySem.W.findIn K (.ref A_Drawer) "__init__" = some (some (.ref A_Drawer_init)))
    (i_Drawer_init : PySem.W.isFn K (.ref A_Drawer_init) = true)
    (l_Drawer_init : K.lookup A_Drawer_init = some ⟨Drawer_init_oc, Drawer_init_od, .func (PySem.W.fnOf "__init__" "Drawer.__init__" (defArgs s_Drawer_init) (defBody s_Drawer_init) (defScope s_Drawer_init) .none Drawer_init_kV Drawer_init_dc Drawer_init_pm Drawer_init_an Drawer_init_cd Drawer_init_ct), Drawer_init_sl⟩)
    (c_Drawer_init : PySem.W.codeIn K Drawer_init_cd "Drawer.__init__" = true)
    (k_Drawer_init : PySem.W.keepIn K (.ref A_Drawer_init) = true)
    (g_Drawer_made : PySem.W.findIn K (.ref A_Drawer) "made" = some (some (.ref A_Drawer_made)))
    (i_Drawer_made : PySem.W.isFn K (.ref A_Drawer_made) = true)
    (l_Drawer_made : K.lookup A_Drawer_made = some ⟨Drawer_made_oc, Drawer_made_od, .func (PySem.W.fnOf "made" "Drawer.made" (defArgs s_Drawer_made) (defBody s_Drawer_made) (defScope s_Drawer_made) .none Drawer_made_kV Drawer_made_dc Drawer_made_pm Drawer_made_an Drawer_made_cd Drawer_made_ct), Drawer_made_sl⟩)
    (c_Drawer_made : PySem.W.codeIn K Drawer_made_cd "Drawer.made" = true)
    (k_Drawer_made : PySem.W.keepIn K (.ref A_Drawer_made) = true)
    (g_Drawer_next : PySem.W.findIn K (.ref A_Drawer) "next" = some (some (.ref A_Drawer_next)))
    (i_Drawer_next : PySem.W.isFn K (.ref A_Drawer_next) = true)
    (l_Drawer_next : K.lookup A_Drawer_next = some ⟨Drawer_next_oc, Drawer_next_od, .func (PySem.W.fnOf "next" "Drawer.next" (defArgs s_Drawer_next) (defBody s_Drawer_next) (defScope s_Drawer_next) .none Drawer_next_kV Drawer_next_dc Drawer_next_pm Drawer_next_an Drawer_next_cd Drawer_next_ct), Drawer_next_sl⟩)
    (c_Drawer_next : PySem.W.codeIn K Drawer_next_cd "Drawer.next" = true)
    (k_Drawer_next : PySem.W.keepIn K (.ref A_Drawer_next) = true)
    (g_Drawer_drawn : PySem.W.findIn K (.ref A_Drawer) "drawn" = some (some (.ref A_Drawer_drawn)))
    (i_Drawer_drawn : PySem.W.isFn K (.ref A_Drawer_drawn) = true)
    (l_Drawer_drawn : K.lookup A_Drawer_drawn = some ⟨Drawer_drawn_oc, Drawer_drawn_od, .func (PySem.W.fnOf "drawn" "Drawer.drawn" (defArgs s_Drawer_drawn) (defBody s_Drawer_drawn) (defScope s_Drawer_drawn) .none Drawer_drawn_kV Drawer_drawn_dc Drawer_drawn_pm Drawer_drawn_an Drawer_drawn_cd Drawer_drawn_ct), Drawer_drawn_sl⟩)
    (c_Drawer_drawn : PySem.W.codeIn K Drawer_drawn_cd "Drawer.drawn" = true)
    (k_Drawer_drawn : PySem.W.keepIn K (.ref A_Drawer_drawn) = true)
    (v_MOST_ROW : PySem.W.nsIn K mainGlobals "MOST_ROW" = some (some (.int 100 t_MOST_ROW)))
    (v_MOST_MAKERS : PySem.W.nsIn K mainGlobals "MOST_MAKERS" = some (some (.int 4 t_MOST_MAKERS)))
    (v_MOST_STAGES : PySem.W.nsIn K mainGlobals "MOST_STAGES" = some (some (.int 12 t_MOST_STAGES)))
    (v_MOST_WHEEL : PySem.W.nsIn K mainGlobals "MOST_WHEEL" = some (some (.int 1000 t_MOST_WHEEL)))
    (v_PATIENCE : PySem.W.nsIn K mainGlobals "PATIENCE" = some (some (.int 200 t_PATIENCE)))
    (v_MOST_MANY : PySem.W.nsIn K mainGlobals "MOST_MANY" = some (some (.int 1000 t_MOST_MANY)))
    (v_MOST_WHOLE : PySem.W.nsIn K mainGlobals "MOST_WHOLE" = some (some (.int 10000 t_MOST_WHOLE)))
    (v_END : PySem.W.nsIn K mainGlobals "END" = some (some (.str (Str.ofString "end") t_END)))
    (v_LONG : PySem.W.nsIn K mainGlobals "LONG" = some (some (.str (Str.ofString "long") t_LONG)))
    (v_NUMBER : PySem.W.nsIn K mainGlobals "NUMBER" = some (some (.str (Str.ofString "number") t_NUMBER)))
    (z_int : PySem.W.nsIn K mainGlobals "int" = some none)
    (z_bool : PySem.W.nsIn K mainGlobals "bool" = some none)
    (z_tuple : PySem.W.nsIn K mainGlobals "tuple" = some none)
    (z_str : PySem.W.nsIn K mainGlobals "str" = some none)
    (z_len : PySem.W.nsIn K mainGlobals "len" = some none)
    (z_isinstance : PySem.W.nsIn K mainGlobals "isinstance" = some none)
    (z_list : PySem.W.nsIn K mainGlobals "list" = some none)
    (z_range : PySem.W.nsIn K mainGlobals "range" = some none)
    (z_min : PySem.W.nsIn K mainGlobals "min" = some none)
    (z_max : PySem.W.nsIn K mainGlobals "max" = some none)
    (z_sum : PySem.W.nsIn K mainGlobals "sum" = some none)
    (z_zip : PySem.W.nsIn K mainGlobals "zip" = some none)
    (z_ValueError : PySem.W.nsIn K mainGlobals "ValueError" = some none)
    (g_BadChain : PySem.W.nsIn K mainGlobals "BadChain" = some (some (.ref A_BadChain)))
    (x_BadChain : PySem.W.excIn K A_BadChain [.type "ValueError", .type "Exception", .type "BaseException", .type "object"] "ValueError.__new__" = true)
    (k_BadChain : PySem.W.keepIn K (.ref A_BadChain) = true)
    (b_BadChain : PySem.W.subIn K (.ref A_BadChain) (.type "BaseException") = some true)
    (t_BadChain : PySem.W.typeIn K (.ref A_BadChain) = some (.type "type"))
    (g_BadMany : PySem.W.nsIn K mainGlobals "BadMany" = some (some (.ref A_BadMany)))
    (x_BadMany : PySem.W.excIn K A_BadMany [.type "ValueError", .type "Exception", .type "BaseException", .type "object"] "ValueError.__new__" = true)
    (k_BadMany : PySem.W.keepIn K (.ref A_BadMany) = true)
    (b_BadMany : PySem.W.subIn K (.ref A_BadMany) (.type "BaseException") = some true)
    (t_BadMany : PySem.W.typeIn K (.ref A_BadMany) = some (.type "type"))
    (g_NoWhole : PySem.W.nsIn K mainGlobals "NoWhole" = some (some (.ref A_NoWhole)))
    (x_NoWhole : PySem.W.excIn K A_NoWhole [.type "ValueError", .type "Exception", .type "BaseException", .type "object"] "ValueError.__new__" = true)
    (k_NoWhole : PySem.W.keepIn K (.ref A_NoWhole) = true)
    (b_NoWhole : PySem.W.subIn K (.ref A_NoWhole) (.type "BaseException") = some true)
    (t_NoWhole : PySem.W.typeIn K (.ref A_NoWhole) = some (.type "type"))
    (g_SIZES : PySem.W.nsIn K mainGlobals "SIZES" = some (some (.ref A_SIZES)))
    (d_SIZES : He.dicW K A_SIZES = some (He.keysIn w.params ["add", "times", "keep", "drop", "take", "each", "until", "unlike", "both", "then"]))
    (g_BOUNDS : PySem.W.nsIn K mainGlobals "BOUNDS" = some (some (.ref A_BOUNDS)))
    (d_BOUNDS : He.dicW K A_BOUNDS = some (He.keysIn w.params ["drop", "take", "each"]))
    (s_add : PySem.W.nsIn K A_SIZES (Str.ofString "add") = some (some (.int 2 ts_add)))
    (s_times : PySem.W.nsIn K A_SIZES (Str.ofString "times") = some (some (.int 2 ts_times)))
    (s_keep : PySem.W.nsIn K A_SIZES (Str.ofString "keep") = some (some (.int 3 ts_keep)))
    (s_drop : PySem.W.nsIn K A_SIZES (Str.ofString "drop") = some (some (.int 2 ts_drop)))
    (s_take : PySem.W.nsIn K A_SIZES (Str.ofString "take") = some (some (.int 2 ts_take)))
    (s_each : PySem.W.nsIn K A_SIZES (Str.ofString "each") = some (some (.int 2 ts_each)))
    (s_until : PySem.W.nsIn K A_SIZES (Str.ofString "until") = some (some (.int 2 ts_until)))
    (s_unlike : PySem.W.nsIn K A_SIZES (Str.ofString "unlike") = some (some (.int 1 ts_unlike)))
    (s_both : PySem.W.nsIn K A_SIZES (Str.ofString "both") = some (some (.int 2 ts_both)))
    (s_then : PySem.W.nsIn K A_SIZES (Str.ofString "then") = some (some (.int 2 ts_then)))
    (bb_drop : PySem.W.nsIn K A_BOUNDS (Str.ofString "drop") = some (some (.ref A_Bdrop)))
    (bl_drop : K.lookup A_Bdrop = some ⟨.type "tuple", bd_drop, .seq #[.int 0 tl_drop, .int 100 th_drop] bn_drop, bs_drop⟩)
    (bb_take : PySem.W.nsIn K A_BOUNDS (Str.ofString "take") = some (some (.ref A_Btake)))
    (bl_take : K.lookup A_Btake = some ⟨.type "tuple", bd_take, .seq #[.int 0 tl_take, .int 100 th_take] bn_take, bs_take⟩)
    (bb_each : PySem.W.nsIn K A_BOUNDS (Str.ofString "each") = some (some (.ref A_Beach)))
    (bl_each : K.lookup A_Beach = some ⟨.type "tuple", bd_each, .seq #[.int 1 tl_each, .int 10 th_each] bn_each, bs_each⟩)
    (b0_add : PySem.W.nsIn K A_BOUNDS (Str.ofString "add") = some none)
    (b0_times : PySem.W.nsIn K A_BOUNDS (Str.ofString "times") = some none)
    (b0_keep : PySem.W.nsIn K A_BOUNDS (Str.ofString "keep") = some none)
    (b0_until : PySem.W.nsIn K A_BOUNDS (Str.ofString "until") = some none)
    (b0_unlike : PySem.W.nsIn K A_BOUNDS (Str.ofString "unlike") = some none)
    (b0_both : PySem.W.nsIn K A_BOUNDS (Str.ofString "both") = some none)
    (b0_then : PySem.W.nsIn K A_BOUNDS (Str.ofString "then") = some none)
    (g_DrawError : PySem.W.nsIn K mainGlobals "DrawError" = some (some (.ref A_DrawError)))
    (g_BadText : PySem.W.nsIn K mainGlobals "BadText" = some (some (.ref A_BadText)))
    (ex_BadChain : PySem.W.exmOne K (.ref A_BadChain) (.ref A_DrawError) = some true)
    (kv_BadChain : PySem.W.kitOne K (.ref A_BadChain) (.type "ValueError") = some true)
    (ki_BadChain_BadChain : PySem.W.kitOne K (.ref A_BadChain) (.ref A_BadChain) = some true)
    (ki_BadChain_BadMany : PySem.W.kitOne K (.ref A_BadChain) (.ref A_BadMany) = some false)
    (ki_BadChain_NoWhole : PySem.W.kitOne K (.ref A_BadChain) (.ref A_NoWhole) = some false)
    (ki_BadChain_BadText : PySem.W.kitOne K (.ref A_BadChain) (.ref A_BadText) = some false)
    (ec1_BadChain : PySem.W.findIn K (.ref A_BadChain) "__getattribute__" = some (some (.builtin "BaseException.__getattribute__")))
    (ec2_BadChain : PySem.W.findIn K (.ref A_BadChain) "__getattr__" = some none)
    (ec3_BadChain : PySem.W.hasDictIn K A_BadChain = true)
    (ec4_BadChain : PySem.W.findIn K (.ref A_BadChain) "__class__" = some (some (.builtin "object.__class__")))
    (ec5_BadChain : PySem.W.mroIn K A_BadChain (.type "object") = some true)
    (ex_BadMany : PySem.W.exmOne K (.ref A_BadMany) (.ref A_DrawError) = some true)
    (kv_BadMany : PySem.W.kitOne K (.ref A_BadMany) (.type "ValueError") = some true)
    (ki_BadMany_BadChain : PySem.W.kitOne K (.ref A_BadMany) (.ref A_BadChain) = some false)
    (ki_BadMany_BadMany : PySem.W.kitOne K (.ref A_BadMany) (.ref A_BadMany) = some true)
    (ki_BadMany_NoWhole : PySem.W.kitOne K (.ref A_BadMany) (.ref A_NoWhole) = some false)
    (ki_BadMany_BadText : PySem.W.kitOne K (.ref A_BadMany) (.ref A_BadText) = some false)
    (ec1_BadMany : PySem.W.findIn K (.ref A_BadMany) "__getattribute__" = some (some (.builtin "BaseException.__getattribute__")))
    (ec2_BadMany : PySem.W.findIn K (.ref A_BadMany) "__getattr__" = some none)
    (ec3_BadMany : PySem.W.hasDictIn K A_BadMany = true)
    (ec4_BadMany : PySem.W.findIn K (.ref A_BadMany) "__class__" = some (some (.builtin "object.__class__")))
    (ec5_BadMany : PySem.W.mroIn K A_BadMany (.type "object") = some true)
    (ex_NoWhole : PySem.W.exmOne K (.ref A_NoWhole) (.ref A_DrawError) = some true)
    (kv_NoWhole : PySem.W.kitOne K (.ref A_NoWhole) (.type "ValueError") = some true)
    (ki_NoWhole_BadChain : PySem.W.kitOne K (.ref A_NoWhole) (.ref A_BadChain) = some false)
    (ki_NoWhole_BadMany : PySem.W.kitOne K (.ref A_NoWhole) (.ref A_BadMany) = some false)
    (ki_NoWhole_NoWhole : PySem.W.kitOne K (.ref A_NoWhole) (.ref A_NoWhole) = some true)
    (ki_NoWhole_BadText : PySem.W.kitOne K (.ref A_NoWhole) (.ref A_BadText) = some false)
    (ec1_NoWhole : PySem.W.findIn K (.ref A_NoWhole) "__getattribute__" = some (some (.builtin "BaseException.__getattribute__")))
    (ec2_NoWhole : PySem.W.findIn K (.ref A_NoWhole) "__getattr__" = some none)
    (ec3_NoWhole : PySem.W.hasDictIn K A_NoWhole = true)
    (ec4_NoWhole : PySem.W.findIn K (.ref A_NoWhole) "__class__" = some (some (.builtin "object.__class__")))
    (ec5_NoWhole : PySem.W.mroIn K A_NoWhole (.type "object") = some true)
    (ec6 : PySem.W.specialIn K (.builtin "object.__class__") "__get__" = some (some (.builtin "getset_descriptor.__get__")))
    (ec7 : PySem.W.takesIn K (.builtin "object.__class__") = some true)
    (lc : K.lookup A_lawcd = some ⟨lc_e, lc_d, .fields lc_vs, lc_sl⟩)
    (lct : lc_vs[11]? = some (.ref A_tab))
    (lch : PySem.W.codeHdIn K A_lawcd A_tab = true)
    (lcn : K.lookup A_tab = none)
    (wc : K.lookup A_wkcd = some ⟨wc_e, wc_d, .fields wc_vs, wc_sl⟩)
    (wct : wc_vs[11]? = some (.ref A_wtab))
    (wch : PySem.W.codeHdIn K A_wkcd A_wtab = true)
    (wcn : K.lookup A_wtab = none)
    (tne : A_tab ≠ A_wtab)
    (own1 : h.get? A_tab = some { cls := .none, data := .fields #[] })
    (own2 : h.get? A_wtab = some { cls := .none, data := .fields #[] })
    (z0_0 : PySem.W.nsIn K A_SIZES (Str.ofString "row") = some none)
    (z0_1 : PySem.W.nsIn K A_SIZES (Str.ofString "count") = some none)
    (z0_2 : PySem.W.nsIn K A_SIZES (Str.ofString "Add") = some none)
    (z0_3 : PySem.W.nsIn K A_SIZES (Str.ofString "Count") = some none)
    (z0_4 : PySem.W.nsIn K A_SIZES (Str.ofString "") = some none)
    (z0_5 : PySem.W.nsIn K A_SIZES (Str.ofString "1") = some none)
    (z0_6 : PySem.W.nsIn K A_SIZES (Str.ofString "2") = some none)
    (z0_7 : PySem.W.nsIn K A_SIZES (Str.ofString "x") = some none)
    : ∃ (fd : FuncData) (cs : List (Addr × Addr)) (sp : Sp), (∀ p ∈ cs, h.get? p.2 = some { cls := .none, data := .fields #[] }) ∧ (∀ p ∈ cs, K.lookup p.2 = none) ∧ (∀ p ∈ cs, PySem.W.CodeHd h p.1 p.2) ∧ (∀ (s : Shared) (u : Value), BindsTo s fd ⟨[u], []⟩ [("_law_script", u)]) ∧
      (∀ (H : Hp) (a : Addr) (ns : List Int), ns.length ≤ 63 → (∀ z ∈ ns, Builtin.Int.intBits z ≤ 1048576) → (∀ p ∈ cs, H p.2 = some (.tbl #[])) → SqL K H a (ns.map V.int) → sp [.ref a] H (fun v _ => v = .bl true) fun _ _ _ => False) ∧
      ∀ base : Heap, K.In base → base.Ns mainGlobals mg → (∀ p ∈ cs, LamX.TabB base mg p.1 p.2) → FnOk P w K mg base (L2.CX P w) 67 fa fd ["_law_script"] sp := by
  have e := hfa.symm.trans (PySem.W.mg_of X G g_law)
  cases e
  let a : Ads := ⟨A_SIZES, A_BOUNDS, A_is_number, A_is_maker, A_is_stage, A_inner_of, A_is_chain, A_need_chain, A_all_makers, A_BadChain, A_BadMany, A_Source, A_Source_init, A_Source_draw, A_Link, A_Link_init, A_Link_draw, A_Link_drawn_by, A_Link_sought, A_Link_dropped, A_Link_told_again, A_Link_ended, A_Link_paired, A_Link_followed, A_Drawer, A_Drawer_init, A_Drawer_made, A_Drawer_next, A_Drawer_drawn, fa, fa, A_first, A_NoWhole, A_DrawError, A_BadText⟩
  let b : LawAds := ⟨A_lawstart, A_lawdrawn, A_lawnumber, A_lawmaker, A_lawstage, A_lawchain⟩
  have T : Txt w K mg a := {
    int := PySem.W.mg_none_of X G z_int
    bool := PySem.W.mg_none_of X G z_bool
    tuple := PySem.W.mg_none_of X G z_tuple
    str := PySem.W.mg_none_of X G z_str
    len := PySem.W.mg_none_of X G z_len
    isinstance := PySem.W.mg_none_of X G z_isinstance
    list := PySem.W.mg_none_of X G z_list
    range := PySem.W.mg_none_of X G z_range
    min := PySem.W.mg_none_of X G z_min
    max := PySem.W.mg_none_of X G z_max
    sum := PySem.W.mg_none_of X G z_sum
    zip := PySem.W.mg_none_of X G z_zip
    g_MOST_ROW := ⟨_, PySem.W.mg_of X G v_MOST_ROW⟩
    g_MOST_MAKERS := ⟨_, PySem.W.mg_of X G v_MOST_MAKERS⟩
    g_MOST_STAGES := ⟨_, PySem.W.mg_of X G v_MOST_STAGES⟩
    g_MOST_WHEEL := ⟨_, PySem.W.mg_of X G v_MOST_WHEEL⟩
    g_SIZES := PySem.W.mg_of X G g_SIZES
    d_SIZES := He.dicW_ok d_SIZES
    g_BOUNDS := PySem.W.mg_of X G g_BOUNDS
    d_BOUNDS := He.dicW_ok d_BOUNDS
    z := by
      intro p hp
      simp only [List.mem_cons, List.not_mem_nil, or_false] at hp
      rcases hp with rfl | rfl | rfl | rfl | rfl | rfl | rfl | rfl | rfl | rfl
      · exact ⟨_, s_add⟩
      · exact ⟨_, s_times⟩
      · exact ⟨_, s_keep⟩
      · exact ⟨_, s_drop⟩
      · exact ⟨_, s_take⟩
      · exact ⟨_, s_each⟩
      · exact ⟨_, s_until⟩
      · exact ⟨_, s_unlike⟩
      · exact ⟨_, s_both⟩
      · exact ⟨_, s_then⟩
    b := by
      intro p hp
      simp only [List.mem_cons, List.not_mem_nil, or_false] at hp
      rcases hp with rfl | rfl | rfl
      · exact ⟨_, bb_drop, fun H => .inr ⟨_, _, _, bl_drop, rfl, rfl, (show 2 ≤ sizeLine by decide), .cons ⟨_, rfl⟩ (.cons ⟨_, rfl⟩ .nil)⟩⟩
      · exact ⟨_, bb_take, fun H => .inr ⟨_, _, _, bl_take, rfl, rfl, (show 2 ≤ sizeLine by decide), .cons ⟨_, rfl⟩ (.cons ⟨_, rfl⟩ .nil)⟩⟩
      · exact ⟨_, bb_each, fun H => .inr ⟨_, _, _, bl_each, rfl, rfl, (show 2 ≤ sizeLine by decide), .cons ⟨_, rfl⟩ (.cons ⟨_, rfl⟩ .nil)⟩⟩
    b0 := by
      intro p hp
      simp only [List.mem_cons, List.not_mem_nil, or_false] at hp
      rcases hp with rfl | rfl | rfl | rfl | rfl | rfl | rfl
      · exact b0_add
      · exact b0_times
      · exact b0_keep
      · exact b0_until
      · exact b0_unlike
      · exact b0_both
      · exact b0_then
    x_BadChain := x_BadChain
    g_BadChain := PySem.W.mg_of X G g_BadChain
    k_BadChain := k_BadChain
    b_BadChain := b_BadChain
    t_BadChain := t_BadChain
    x_BadMany := x_BadMany
    g_BadMany := PySem.W.mg_of X G g_BadMany
    k_BadMany := k_BadMany
    b_BadMany := b_BadMany
    t_BadMany := t_BadMany
    x_NoWhole := x_NoWhole
    g_NoWhole := PySem.W.mg_of X G g_NoWhole
    k_NoWhole := k_NoWhole
    b_NoWhole := b_NoWhole
    t_NoWhole := t_NoWhole
    g_MOST_WHOLE := ⟨_, PySem.W.mg_of X G v_MOST_WHOLE⟩
    g_MOST_MANY := ⟨_, PySem.W.mg_of X G v_MOST_MANY⟩
    g_END := ⟨_, PySem.W.mg_of X G v_END⟩
    g_LONG := ⟨_, PySem.W.mg_of X G v_LONG⟩
    g_NUMBER := ⟨_, PySem.W.mg_of X G v_NUMBER⟩
    g_PATIENCE := ⟨_, PySem.W.mg_of X G v_PATIENCE⟩
    cl_Source := ⟨pg_Source, hd_Source, po_Source, sa_Source⟩
    na_Source_gives := na_Source_gives
    na_Source_book := na_Source_book
    na_Source_given := na_Source_given
    cl_Link := ⟨pg_Link, hd_Link, po_Link, sa_Link⟩
    na_Link_rule := na_Link_rule
    na_Link_ahead := na_Link_ahead
    na_Link_beside := na_Link_beside
    na_Link_lost := na_Link_lost
    na_Link_over := na_Link_over
    na_Link_told := na_Link_told
    na_Link_last := na_Link_last
    na_Link_left := na_Link_left
    cl_Drawer := ⟨pg_Drawer, hd_Drawer, po_Drawer, sa_Drawer⟩
    na_Drawer_book := na_Drawer_book
    na_Drawer_lost := na_Drawer_lost
    na_Drawer_back := na_Drawer_back
    na_Drawer_stuck := na_Drawer_stuck
    na_Drawer_sources := na_Drawer_sources
    na_Drawer_top := na_Drawer_top
  }
  have L : LkM K a := {
    F_Source_init := ⟨_, fun_mk (st := s_Source_init) l_Source_init c_Source_init k_Source_init⟩
    F_Source_draw := ⟨_, fun_mk (st := s_Source_draw) l_Source_draw c_Source_draw k_Source_draw⟩
    F_init := ⟨_, fun_mk (st := s_Link_init) l_Link_init c_Link_init k_Link_init⟩
    F_draw := ⟨_, fun_mk (st := s_Link_draw) l_Link_draw c_Link_draw k_Link_draw⟩
    F_drawn_by := ⟨_, fun_mk (st := s_Link_drawn_by) l_Link_drawn_by c_Link_drawn_by k_Link_drawn_by⟩
    F_sought := ⟨_, fun_mk (st := s_Link_sought) l_Link_sought c_Link_sought k_Link_sought⟩
    F_dropped := ⟨_, fun_mk (st := s_Link_dropped) l_Link_dropped c_Link_dropped k_Link_dropped⟩
    F_told_again := ⟨_, fun_mk (st := s_Link_told_again) l_Link_told_again c_Link_told_again k_Link_told_again⟩
    F_ended := ⟨_, fun_mk (st := s_Link_ended) l_Link_ended c_Link_ended k_Link_ended⟩
    F_paired := ⟨_, fun_mk (st := s_Link_paired) l_Link_paired c_Link_paired k_Link_paired⟩
    F_followed := ⟨_, fun_mk (st := s_Link_followed) l_Link_followed c_Link_followed k_Link_followed⟩
    M_Source_draw := ⟨g_Source_draw, i_Source_draw, k_Source_draw⟩
    M_draw := ⟨g_Link_draw, i_Link_draw, k_Link_draw⟩
    M_drawn_by := ⟨g_Link_drawn_by, i_Link_drawn_by, k_Link_drawn_by⟩
    M_sought := ⟨g_Link_sought, i_Link_sought, k_Link_sought⟩
    M_dropped := ⟨g_Link_dropped, i_Link_dropped, k_Link_dropped⟩
    M_told_again := ⟨g_Link_told_again, i_Link_told_again, k_Link_told_again⟩
    M_ended := ⟨g_Link_ended, i_Link_ended, k_Link_ended⟩
    M_paired := ⟨g_Link_paired, i_Link_paired, k_Link_paired⟩
    M_followed := ⟨g_Link_followed, i_Link_followed, k_Link_followed⟩
  }
  have GN : GenM K mg b := {
    F_start := ⟨_, fun_mk (st := s__law_start) l__law_start c__law_start k__law_start⟩
    g_start := PySem.W.mg_of X G g__law_start
    F_drawn := ⟨_, fun_mk (st := s__law_drawn) l__law_drawn c__law_drawn k__law_drawn⟩
    g_drawn := PySem.W.mg_of X G g__law_drawn
    F_number := ⟨_, fun_mk (st := s__law_number) l__law_number c__law_number k__law_number⟩
    g_number := PySem.W.mg_of X G g__law_number
    F_maker := ⟨_, fun_mk (st := s__law_maker) l__law_maker c__law_maker k__law_maker⟩
    g_maker := PySem.W.mg_of X G g__law_maker
    F_stage := ⟨_, fun_mk (st := s__law_stage) l__law_stage c__law_stage k__law_stage⟩
    g_stage := PySem.W.mg_of X G g__law_stage
    F_chain := ⟨_, fun_mk (st := s__law_chain) l__law_chain c__law_chain k__law_chain⟩
    g_chain := PySem.W.mg_of X G g__law_chain
  }
  have KF : KindF K mg a := {
    g_DrawError := PySem.W.mg_of X G g_DrawError
    g_BadText := PySem.W.mg_of X G g_BadText
    ValueError := PySem.W.mg_none_of X G z_ValueError
    ex := by
      intro p hp
      simp only [kinds, List.mem_cons, List.not_mem_nil, or_false] at hp
      rcases hp with rfl | rfl | rfl
      · exact ex_BadChain
      · exact ex_BadMany
      · exact ex_NoWhole
    ec := by
      intro p hp
      simp only [kinds, List.mem_cons, List.not_mem_nil, or_false] at hp
      rcases hp with rfl | rfl | rfl
      · exact ⟨ec1_BadChain, ec2_BadChain, b_BadChain, ec3_BadChain, ec4_BadChain, ec6, ec7, ec5_BadChain⟩
      · exact ⟨ec1_BadMany, ec2_BadMany, b_BadMany, ec3_BadMany, ec4_BadMany, ec6, ec7, ec5_BadMany⟩
      · exact ⟨ec1_NoWhole, ec2_NoWhole, b_NoWhole, ec3_NoWhole, ec4_NoWhole, ec6, ec7, ec5_NoWhole⟩
    v := by
      intro p hp
      simp only [kinds, List.mem_cons, List.not_mem_nil, or_false] at hp
      rcases hp with rfl | rfl | rfl
      · exact kv_BadChain
      · exact kv_BadMany
      · exact kv_NoWhole
    t := by
      intro p hp
      simp only [kinds, List.mem_cons, List.not_mem_nil, or_false] at hp
      rcases hp with rfl | rfl | rfl
      · exact ki_BadChain_BadText
      · exact ki_BadMany_BadText
      · exact ki_NoWhole_BadText
    cc := ki_BadChain_BadChain
    cm := ki_BadChain_BadMany
    cn := ki_BadChain_NoWhole
    mc := ki_BadMany_BadChain
    mm := ki_BadMany_BadMany
    mn := ki_BadMany_NoWhole
    nc := ki_NoWhole_BadChain
    nm := ki_NoWhole_BadMany
    nn := ki_NoWhole_NoWhole
  }
  have tun : ∀ p ∈ [(A_tab, lamQ), (A_wtab, wkQ)], p.1 = A_wtab → p.2 = wkQ := fun p hp e => by
    simp only [List.mem_cons, List.not_mem_nil, or_false] at hp
    rcases hp with rfl | rfl
    · exact absurd e tne
    · rfl
  have cs : ∀ {C : Addr × Addr → Prop}, C (A_lawcd, A_tab) → C (A_wkcd, A_wtab) → ∀ p ∈ [(A_lawcd, A_tab), (A_wkcd, A_wtab)], C p := fun {C} c1 c2 p hp => by
    simp only [List.mem_cons, List.not_mem_nil, or_false] at hp
    rcases hp with rfl | rfl
    · exact c1
    · exact c2
  refine ⟨PySem.W.fnOf "law" "law" (defArgs s_law) (defBody s_law) (defScope s_law) .none law_kV law_dc law_pm law_an (.ref A_lawcd) law_ct, [(A_lawcd, A_tab), (A_wkcd, A_wtab)], liftSp (sp_law2 A_tab A_wtab), cs own1 own2, cs lcn wcn, cs (PySem.W.codeHd_of_K X lch) (PySem.W.codeHd_of_K X wch), fun s v => .of_eq rfl, fun H a ns hl _ hT hS => spL_of tne noL hl (hT (A_lawcd, A_tab) (by simp)) (hT (A_wkcd, A_wtab) (by simp)) hS, fun base _ _ TB => ?_⟩
  have h1 : Has P w K mg base CX0 1 "is_number" a.is_number ["thing"] sp_is_number := has_is_number (fun_mk (st := s_is_number) l_is_number c_is_number k_is_number) (PySem.W.mg_of X G g_is_number) T
  have h2 : Has P w K mg base CX0 2 "is_maker" a.is_maker ["maker"] sp_is_maker := ⟨⟨_, ok_is_maker (fun_mk (st := s_is_maker) l_is_maker c_is_maker k_is_maker) T h1, (fun_mk (st := s_is_maker) l_is_maker c_is_maker k_is_maker).binds fun _ _ _ _ _ _ us hl => match us, hl with | [_], _ => rfl⟩, k_is_maker, PySem.W.mg_of X G g_is_maker⟩
  have h3 : Has P w K mg base CX0 2 "is_stage" a.is_stage ["stage"] sp_is_stage := ⟨⟨_, ok_is_stage (fun_mk (st := s_is_stage) l_is_stage c_is_stage k_is_stage) T h1, (fun_mk (st := s_is_stage) l_is_stage c_is_stage k_is_stage).binds fun _ _ _ _ _ _ us hl => match us, hl with | [_], _ => rfl⟩, k_is_stage, PySem.W.mg_of X G g_is_stage⟩
  have h4 : Has P w K mg base CX0 1 "inner_of" a.inner_of ["stages"] sp_inner_of := ⟨⟨_, ok_inner_of (fun_mk (st := s_inner_of) l_inner_of c_inner_of k_inner_of) T, (fun_mk (st := s_inner_of) l_inner_of c_inner_of k_inner_of).binds fun _ _ _ _ _ _ us hl => match us, hl with | [_], _ => rfl⟩, k_inner_of, PySem.W.mg_of X G g_inner_of⟩
  have h5 := has_is_chain (P := P) (base := base) (fun_mk (st := s_is_chain) l_is_chain c_is_chain k_is_chain) (PySem.W.mg_of X G g_is_chain) T h2 h3 h4
  have h6 := has_need_chain (P := P) (base := base) (fun_mk (st := s_need_chain) l_need_chain c_need_chain k_need_chain) (PySem.W.mg_of X G g_need_chain) T h5
  have h7 := has_all_makers (P := P) (base := base) (fun_mk (st := s_all_makers) l_all_makers c_all_makers k_all_makers) (PySem.W.mg_of X G g_all_makers) T h4 4
  have c1 : HasC P w K mg base CX0 1 "Source" a.Source a.Source_init ["self", "maker", "book"] (sp_Source_init a.Source) := ⟨⟨_, ok_Source_init (fun_mk (st := s_Source_init) l_Source_init c_Source_init k_Source_init) T, (fun_mk (st := s_Source_init) l_Source_init c_Source_init k_Source_init).binds fun _ _ _ _ _ _ us hl => match us, hl with | [_, _, _], _ => rfl⟩, ⟨mk_Source, g_Source_init, i_Source_init, kc_Source⟩, PySem.W.mg_of X G g_Source⟩
  have c2 : HasC P w K mg base CX0 1 "Link" a.Link a.Link_init ["self", "stage", "ahead", "beside", "undone"] (sp_Link_init a.Source a.Link) := ⟨⟨_, ok_Link_init (fun_mk (st := s_Link_init) l_Link_init c_Link_init k_Link_init) T, (fun_mk (st := s_Link_init) l_Link_init c_Link_init k_Link_init).binds fun _ _ _ _ _ _ us hl => match us, hl with | [_, _, _, _, _], _ => rfl⟩, ⟨mk_Link, g_Link_init, i_Link_init, kc_Link⟩, PySem.W.mg_of X G g_Link⟩
  have m1 := has_made (P := P) (base := base) (fun_mk (st := s_Drawer_made) l_Drawer_made c_Drawer_made k_Drawer_made) ⟨g_Drawer_made, i_Drawer_made, k_Drawer_made⟩ T c2 h4 h7 4
  have c3 : HasC P w K mg base (L2.CX P w) 13 "Drawer" a.Drawer a.Drawer_init ["self", "chain"] (sp_Drawer_init a.Drawer a.Source a.Link) := ⟨⟨_, ok_Drawer_init (fun_mk (st := s_Drawer_init) l_Drawer_init c_Drawer_init k_Drawer_init) T h6 h7 c1 m1, (fun_mk (st := s_Drawer_init) l_Drawer_init c_Drawer_init k_Drawer_init).binds fun _ _ _ _ _ _ us hl => match us, hl with | [_, _], _ => rfl⟩, ⟨mk_Drawer, g_Drawer_init, i_Drawer_init, kc_Drawer⟩, PySem.W.mg_of X G g_Drawer⟩
  have m2 : HasM P w K mg base CX0 62 a.Drawer "next" a.Drawer_next ["self"] (sp_next a.Drawer a.Source a.Link) := ⟨⟨_, ok_Drawer_next (fun_mk (st := s_Drawer_next) l_Drawer_next c_Drawer_next k_Drawer_next) T (has_Source_draw L T) (has_Link_draw L T 20), (fun_mk (st := s_Drawer_next) l_Drawer_next c_Drawer_next k_Drawer_next).binds fun _ _ _ _ _ _ us hl => match us, hl with | [_], _ => rfl⟩, ⟨g_Drawer_next, i_Drawer_next, k_Drawer_next⟩, T.cl_Drawer⟩
  have m3 : HasM P w K mg base CX0 1 a.Drawer "drawn" a.Drawer_drawn ["self"] (sp_drawn a.Drawer a.Source a.Link) := ⟨⟨_, ok_Drawer_drawn (fun_mk (st := s_Drawer_drawn) l_Drawer_drawn c_Drawer_drawn k_Drawer_drawn) T, (fun_mk (st := s_Drawer_drawn) l_Drawer_drawn c_Drawer_drawn k_Drawer_drawn).binds fun _ _ _ _ _ _ us hl => match us, hl with | [_], _ => rfl⟩, ⟨g_Drawer_drawn, i_Drawer_drawn, k_Drawer_drawn⟩, T.cl_Drawer⟩
  have h8 := has_first (P := P) (base := base) (fun_mk (st := s_first) l_first c_first k_first) (PySem.W.mg_of X G g_first) T h6 c3 m2 m3
  have ha : Has P w K mg base CX0 21 "_law_any" A_lawany ["_law_state", "_law_rows"] sp_lawany := ⟨⟨_, ok_lawany (fun_mk (st := s__law_any) l__law_any c__law_any k__law_any) T (GN.drawn T) (GN.chain T 8), (fun_mk (st := s__law_any) l__law_any c__law_any k__law_any).binds fun _ _ _ _ _ _ us hl => match us, hl with | [_, _], _ => rfl⟩, k__law_any, PySem.W.mg_of X G g__law_any⟩
  have hm := has_lmakers (P := P) (base := base) (fun_mk (st := s__law_makers) l__law_makers c__law_makers k__law_makers) (PySem.W.mg_of X G g__law_makers) T 20
  have w1 : Has P w K mg base CX0 1 "until_of" A_until_of ["row", "most"] sp_until := ⟨⟨_, ok_until_of (fun_mk (st := s_until_of) l_until_of c_until_of k_until_of) T, (fun_mk (st := s_until_of) l_until_of c_until_of k_until_of).binds fun _ _ _ _ _ _ us hl => match us, hl with | [_, _], _ => rfl⟩, k_until_of, PySem.W.mg_of X G g_until_of⟩
  have w2 : Has P w K mg base CX0 1 "each_of" A_each_of ["row", "many"] sp_each := ⟨⟨_, ok_each_of (fun_mk (st := s_each_of) l_each_of c_each_of k_each_of) T, (fun_mk (st := s_each_of) l_each_of c_each_of k_each_of).binds fun _ _ _ _ _ _ us hl => match us, hl with | [_, _], _ => rfl⟩, k_each_of, PySem.W.mg_of X G g_each_of⟩
  have w3 : Has P w K mg base CX0 1 "unlike_of" A_unlike_of ["row"] sp_unlike := ⟨⟨_, ok_unlike_of (fun_mk (st := s_unlike_of) l_unlike_of c_unlike_of k_unlike_of) T, (fun_mk (st := s_unlike_of) l_unlike_of c_unlike_of k_unlike_of).binds fun _ _ _ _ _ _ us hl => match us, hl with | [_], _ => rfl⟩, k_unlike_of, PySem.W.mg_of X G g_unlike_of⟩
  have w4 : Has P w K mg base CX0 1 "with_chain" A_with_chain ["name", "row", "other"] sp_withc := ⟨⟨_, ok_with_chain (fun_mk (st := s_with_chain) l_with_chain c_with_chain k_with_chain) T, (fun_mk (st := s_with_chain) l_with_chain c_with_chain k_with_chain).binds fun _ _ _ _ _ _ us hl => match us, hl with | [_, _, _], _ => rfl⟩, k_with_chain, PySem.W.mg_of X G g_with_chain⟩
  have w5 := has_row_of (P := P) (base := base) (fun_mk (st := s_row_of) l_row_of c_row_of k_row_of) (PySem.W.mg_of X G g_row_of) (fun_mk (st := s_behind) l_behind c_behind k_behind) (PySem.W.mg_of X G g_behind) T w1 w2.inp w3.inp w4.inp 20
  have w6 : Has P w K mg base (L2.CX P w) 42 "whole" A_whole ["chain"] (sp_whole a) := ⟨⟨_, ok_whole (fun_mk (st := s_whole) l_whole c_whole k_whole) T h6 h7 w5, (fun_mk (st := s_whole) l_whole c_whole k_whole).binds fun _ _ _ _ _ _ us hl => match us, hl with | [_], _ => rfl⟩, k_whole, PySem.W.mg_of X G g_whole⟩
  have z0 : Z0 K a := by
      intro p hp
      simp only [List.mem_cons, List.not_mem_nil, or_false] at hp
      rcases hp with rfl | rfl | rfl | rfl | rfl | rfl | rfl | rfl
      · exact z0_0
      · exact z0_1
      · exact z0_2
      · exact z0_3
      · exact z0_4
      · exact z0_5
      · exact z0_6
      · exact z0_7
  have q2 := has_mkA (P := P) (base := base) (fun_mk (st := s_is_maker) l_is_maker c_is_maker k_is_maker) (PySem.W.mg_of X G g_is_maker) T h1
  have q3 := has_stA (P := P) (base := base) (fun_mk (st := s_is_stage) l_is_stage c_is_stage k_is_stage) (PySem.W.mg_of X G g_is_stage) T z0 h1
  have q4 := has_inA (P := P) (base := base) (fun_mk (st := s_inner_of) l_inner_of c_inner_of k_inner_of) (PySem.W.mg_of X G g_inner_of) T
  have q5 := has_chA (P := P) (base := base) (fun_mk (st := s_is_chain) l_is_chain c_is_chain k_is_chain) (PySem.W.mg_of X G g_is_chain) T q2 q3 q4
  have q6 := has_needA (P := P) (base := base) (fun_mk (st := s_need_chain) l_need_chain c_need_chain k_need_chain) (PySem.W.mg_of X G g_need_chain) T q5
  have rM : Has P w K mg base (L2.CX P w) 6 "makers" A_makers ["chain"] (sp_ref1 a) := ⟨⟨_, ok_ref_makers (fun_mk (st := s_makers) l_makers c_makers k_makers) T q6 h7, (fun_mk (st := s_makers) l_makers c_makers k_makers).binds fun _ _ _ _ _ _ us hl => match us, hl with | [_], _ => rfl⟩, k_makers, PySem.W.mg_of X G g_makers⟩
  have rW : Has P w K mg base (L2.CX P w) 42 "whole" A_whole ["chain"] (sp_ref1 a) := ⟨⟨_, ok_ref_whole (fun_mk (st := s_whole) l_whole c_whole k_whole) T q6 h7 w5, (fun_mk (st := s_whole) l_whole c_whole k_whole).binds fun _ _ _ _ _ _ us hl => match us, hl with | [_], _ => rfl⟩, k_whole, PySem.W.mg_of X G g_whole⟩
  have rT : Has P w K mg base (L2.CX P w) 5 "written" A_written ["chain"] (sp_ref1 a) := ⟨⟨_, ok_ref_written (fun_mk (st := s_written) l_written c_written k_written) T q6, (fun_mk (st := s_written) l_written c_written k_written).binds fun _ _ _ _ _ _ us hl => match us, hl with | [_], _ => rfl⟩, k_written, PySem.W.mg_of X G g_written⟩
  have rF : Has P w K mg base (L2.CX P w) 63 "first" A_first ["chain", "many"] (sp_ref2 a) := ⟨⟨_, ok_ref_first (fun_mk (st := s_first) l_first c_first k_first) T q6 c3 m2 m3, (fun_mk (st := s_first) l_first c_first k_first).binds fun _ _ _ _ _ _ us hl => match us, hl with | [_, _], _ => rfl⟩, k_first, PySem.W.mg_of X G g_first⟩
  have rD : HasC P w K mg base (L2.CX P w) 13 "Drawer" a.Drawer a.Drawer_init ["self", "chain"] (sp_refC a) := ⟨⟨_, ok_ref_init (fun_mk (st := s_Drawer_init) l_Drawer_init c_Drawer_init k_Drawer_init) T q6 h7 c1 m1, (fun_mk (st := s_Drawer_init) l_Drawer_init c_Drawer_init k_Drawer_init).binds fun _ _ _ _ _ _ us hl => match us, hl with | [_, _], _ => rfl⟩, ⟨mk_Drawer, g_Drawer_init, i_Drawer_init, kc_Drawer⟩, PySem.W.mg_of X G g_Drawer⟩
  have gM : Has P w K mg base (L2.CX P w) 6 "makers" A_makers ["chain"] sp_makers := ⟨⟨_, ok_makers (fun_mk (st := s_makers) l_makers c_makers k_makers) T h6 h7, (fun_mk (st := s_makers) l_makers c_makers k_makers).binds fun _ _ _ _ _ _ us hl => match us, hl with | [_], _ => rfl⟩, k_makers, PySem.W.mg_of X G g_makers⟩
  have gE : Has P w K mg base (L2.CX P w) 42 "whole" A_whole ["chain"] (sp_endless a) := ⟨⟨_, ok_endless (fun_mk (st := s_whole) l_whole c_whole k_whole) T h6 h7 w5, (fun_mk (st := s_whole) l_whole c_whole k_whole).binds fun _ _ _ _ _ _ us hl => match us, hl with | [_], _ => rfl⟩, k_whole, PySem.W.mg_of X G g_whole⟩
  have gF : Has P w K mg base (L2.CX P w) 63 "first" A_first ["chain", "many"] (sp_f1 a) := ⟨⟨_, FnOk.or (ok_first (fun_mk (st := s_first) l_first c_first k_first) T h6 c3 m2 m3) (ok_many (fun_mk (st := s_first) l_first c_first k_first) T h6 c3 m2 m3), (fun_mk (st := s_first) l_first c_first k_first).binds fun _ _ _ _ _ _ us hl => match us, hl with | [_, _], _ => rfl⟩, k_first, PySem.W.mg_of X G g_first⟩
  have hsm := has_same (P := P) (base := base) (fun_mk (st := s__law_same) l__law_same c__law_same k__law_same) (PySem.W.mg_of X G g__law_same) T 3
  have hbd : Has P w K mg base CX0 2 "_law_bad" A_lawbad ["_law_state"] sp_lawbad := ⟨⟨_, ok_lawbad (fun_mk (st := s__law_bad) l__law_bad c__law_bad k__law_bad) T (GN.drawn T), (fun_mk (st := s__law_bad) l__law_bad c__law_bad k__law_bad).binds fun _ _ _ _ _ _ us hl => match us, hl with | [_], _ => rfl⟩, k__law_bad, PySem.W.mg_of X G g__law_bad⟩
  have hwk : Has P w K mg base (L2.CX P w) 1 "_law_works" A_lawwks ["_law_chain_here"] (sp_works P w K mg base a [(A_tab, lamQ), (A_wtab, wkQ)]) := ⟨⟨_, ok_works (fun_mk (st := s__law_works) l__law_works c__law_works k__law_works) rfl (TB (A_wkcd, A_wtab) (by simp)) (by simp) tun T rM rD rF rW rT, (fun_mk (st := s__law_works) l__law_works c__law_works k__law_works).binds fun _ _ _ _ _ _ us hl => match us, hl with | [_], _ => rfl⟩, k__law_works, PySem.W.mg_of X G g__law_works⟩
  have hkd := kindV_has (P := P) (w := w) (base := base) (k := 63) (fun_mk (st := s__law_kind) l__law_kind c__law_kind k__law_kind) (PySem.W.mg_of X G g__law_kind) T KF
  exact ok_law (fun_mk (st := s_law) l_law c_law k_law) rfl (TB (A_lawcd, A_tab) (by simp)) tne T KF (fun_mk (st := s__law_kind) l__law_kind c__law_kind k__law_kind) (PySem.W.mg_of X G g__law_kind) (GN.start T) (GN.drawn T) ha hm hbd hsm gM gE gF hwk hkd
end DL
open PySem PySem.W PyProof.Rows
set_option maxRecDepth 100000 in
set_option maxHeartbeats 0 in
theorem PySem.Challenge.cw_drawchain_k01_chains_refused_holds : PySem.Challenge.rw_drawchain_k01_chains_refused.Holds := by
  w_on; o_law; k_head; (case hw => w_witness2)
  refine LamX.walk_ofTs (l := PySem.Challenge.rw_drawchain_k01_chains_refused) (n := 63) (k := 67) (x := "_law_script") (CX := fun w => L2.CX PySem.Challenge.rw_drawchain_k01_chains_refused.prog w) rfl (by decide) rfl ⟨rfl, by decide, by decide⟩ (fun w h Y => PySem.W.km_in_of Y) ?F (fun _ _ _ _ _ z => ?hZ)
  case F =>
    intro w mg fa h Y KX G hmg
    refine' DL.all_mk KX G hmg (by kernel_rfl) ?g_is_number ?l_is_number ?c_is_number ?k_is_number ?g_is_maker ?l_is_maker ?c_is_maker ?k_is_maker ?g_is_stage ?l_is_stage ?c_is_stage ?k_is_stage ?g_inner_of ?l_inner_of ?c_inner_of ?k_inner_of ?g_is_chain ?l_is_chain ?c_is_chain ?k_is_chain ?g_need_chain ?l_need_chain ?c_need_chain ?k_need_chain ?g_all_makers ?l_all_makers ?c_all_makers ?k_all_makers ?g_first ?l_first ?c_first ?k_first ?g_until_of ?l_until_of ?c_until_of ?k_until_of ?g_each_of ?l_each_of ?c_each_of ?k_each_of ?g_unlike_of ?l_unlike_of ?c_unlike_of ?k_unlike_of ?g_with_chain ?l_with_chain ?c_with_chain ?k_with_chain ?g_behind ?l_behind ?c_behind ?k_behind ?g_row_of ?l_row_of ?c_row_of ?k_row_of ?g_whole ?l_whole ?c_whole ?k_whole ?g_makers ?l_makers ?c_makers ?k_makers ?g_written ?l_written ?c_written ?k_written ?g__law_start ?l__law_start ?c__law_start ?k__law_start ?g__law_drawn ?l__law_drawn ?c__law_drawn ?k__law_drawn ?g__law_number ?l__law_number ?c__law_number ?k__law_number ?g__law_maker ?l__law_maker ?c__law_maker ?k__law_maker ?g__law_stage ?l__law_stage ?c__law_stage ?k__law_stage ?g__law_chain ?l__law_chain ?c__law_chain ?k__law_chain ?g__law_any ?l__law_any ?c__law_any ?k__law_any ?g__law_makers ?l__law_makers ?c__law_makers ?k__law_makers ?g__law_kind ?l__law_kind ?c__law_kind ?k__law_kind ?g__law_same ?l__law_same ?c__law_same ?k__law_same ?g__law_bad ?l__law_bad ?c__law_bad ?k__law_bad ?g__law_works ?l__law_works ?c__law_works ?k__law_works ?g_law ?l_law ?c_law ?k_law ?g_Source ?pg_Source ?hd_Source ?po_Source ?sa_Source ?mk_Source ?kc_Source ?na_Source_gives ?na_Source_book ?na_Source_given ?g_Link ?pg_Link ?hd_Link ?po_Link ?sa_Link ?mk_Link ?kc_Link ?na_Link_rule ?na_Link_ahead ?na_Link_beside ?na_Link_lost ?na_Link_over ?na_Link_told ?na_Link_last ?na_Link_left ?g_Drawer ?pg_Drawer ?hd_Drawer ?po_Drawer ?sa_Drawer ?mk_Drawer ?kc_Drawer ?na_Drawer_book ?na_Drawer_lost ?na_Drawer_back ?na_Drawer_stuck ?na_Drawer_sources ?na_Drawer_top ?g_Source_init ?i_Source_init ?l_Source_init ?c_Source_init ?k_Source_init ?g_Source_draw ?i_Source_draw ?l_Source_draw ?c_Source_draw ?k_Source_draw ?g_Link_init ?i_Link_init ?l_Link_init ?c_Link_init ?k_Link_init ?g_Link_draw ?i_Link_draw ?l_Link_draw ?c_Link_draw ?k_Link_draw ?g_Link_drawn_by ?i_Link_drawn_by ?l_Link_drawn_by ?c_Link_drawn_by ?k_Link_drawn_by ?g_Link_sought ?i_Link_sought ?l_Link_sought ?c_Link_sought ?k_Link_sought ?g_Link_dropped ?i_Link_dropped ?l_Link_dropped ?c_Link_dropped ?k_Link_dropped ?g_Link_told_again ?i_Link_told_again ?l_Link_told_again ?c_Link_told_again ?k_Link_told_again ?g_Link_ended ?i_Link_ended ?l_Link_ended ?c_Link_ended ?k_Link_ended ?g_Link_paired ?i_Link_paired ?l_Link_paired ?c_Link_paired ?k_Link_paired ?g_Link_followed ?i_Link_followed ?l_Link_followed ?c_Link_followed ?k_Link_followed ?g_Drawer_init ?i_Drawer_init ?l_Drawer_init ?c_Drawer_init ?k_Drawer_init ?g_Drawer_made ?i_Drawer_made ?l_Drawer_made ?c_Drawer_made ?k_Drawer_made ?g_Drawer_next ?i_Drawer_next ?l_Drawer_next ?c_Drawer_next ?k_Drawer_next ?g_Drawer_drawn ?i_Drawer_drawn ?l_Drawer_drawn ?c_Drawer_drawn ?k_Drawer_drawn ?v_MOST_ROW ?v_MOST_MAKERS ?v_MOST_STAGES ?v_MOST_WHEEL ?v_PATIENCE ?v_MOST_MANY ?v_MOST_WHOLE ?v_END ?v_LONG ?v_NUMBER ?z_int ?z_bool ?z_tuple ?z_str ?z_len ?z_isinstance ?z_list ?z_range ?z_min ?z_max ?z_sum ?z_zip ?z_ValueError ?g_BadChain ?x_BadChain ?k_BadChain ?b_BadChain ?t_BadChain ?g_BadMany ?x_BadMany ?k_BadMany ?b_BadMany ?t_BadMany ?g_NoWhole ?x_NoWhole ?k_NoWhole ?b_NoWhole ?t_NoWhole ?g_SIZES ?d_SIZES ?g_BOUNDS ?d_BOUNDS ?s_add ?s_times ?s_keep ?s_drop ?s_take ?s_each ?s_until ?s_unlike ?s_both ?s_then ?bb_drop ?bl_drop ?bb_take ?bl_take ?bb_each ?bl_each ?b0_add ?b0_times ?b0_keep ?b0_until ?b0_unlike ?b0_both ?b0_then ?g_DrawError ?g_BadText ?ex_BadChain ?kv_BadChain ?ki_BadChain_BadChain ?ki_BadChain_BadMany ?ki_BadChain_NoWhole ?ki_BadChain_BadText ?ec1_BadChain ?ec2_BadChain ?ec3_BadChain ?ec4_BadChain ?ec5_BadChain ?ex_BadMany ?kv_BadMany ?ki_BadMany_BadChain ?ki_BadMany_BadMany ?ki_BadMany_NoWhole ?ki_BadMany_BadText ?ec1_BadMany ?ec2_BadMany ?ec3_BadMany ?ec4_BadMany ?ec5_BadMany ?ex_NoWhole ?kv_NoWhole ?ki_NoWhole_BadChain ?ki_NoWhole_BadMany ?ki_NoWhole_NoWhole ?ki_NoWhole_BadText ?ec1_NoWhole ?ec2_NoWhole ?ec3_NoWhole ?ec4_NoWhole ?ec5_NoWhole ?ec6 ?ec7 ?lc ?lct ?lch ?lcn ?wc ?wct ?wch ?wcn ?tne ?own1 ?own2 ?z0_0 ?z0_1 ?z0_2 ?z0_3 ?z0_4 ?z0_5 ?z0_6 ?z0_7
    (case g_is_number => k_is)
    (case l_is_number => k_is)
    (case c_is_number => k_is)
    (case k_is_number => k_is)
    (case g_is_maker => k_is)
    (case l_is_maker => k_is)
    (case c_is_maker => k_is)
    (case k_is_maker => k_is)
    (case g_is_stage => k_is)
    (case l_is_stage => k_is)
    (case c_is_stage => k_is)
    (case k_is_stage => k_is)
    (case g_inner_of => k_is)
    (case l_inner_of => k_is)
    (case c_inner_of => k_is)
    (case k_inner_of => k_is)
    (case g_is_chain => k_is)
    (case l_is_chain => k_is)
    (case c_is_chain => k_is)
    (case k_is_chain => k_is)
    (case g_need_chain => k_is)
    (case l_need_chain => k_is)
    (case c_need_chain => k_is)
    (case k_need_chain => k_is)
    (case g_all_makers => k_is)
    (case l_all_makers => k_is)
    (case c_all_makers => k_is)
    (case k_all_makers => k_is)
    (case g_first => k_is)
    (case l_first => k_is)
    (case c_first => k_is)
    (case k_first => k_is)
    (case g_until_of => k_is)
    (case l_until_of => k_is)
    (case c_until_of => k_is)
    (case k_until_of => k_is)
    (case g_each_of => k_is)
    (case l_each_of => k_is)
    (case c_each_of => k_is)
    (case k_each_of => k_is)
    (case g_unlike_of => k_is)
    (case l_unlike_of => k_is)
    (case c_unlike_of => k_is)
    (case k_unlike_of => k_is)
    (case g_with_chain => k_is)
    (case l_with_chain => k_is)
    (case c_with_chain => k_is)
    (case k_with_chain => k_is)
    (case g_behind => k_is)
    (case l_behind => k_is)
    (case c_behind => k_is)
    (case k_behind => k_is)
    (case g_row_of => k_is)
    (case l_row_of => k_is)
    (case c_row_of => k_is)
    (case k_row_of => k_is)
    (case g_whole => k_is)
    (case l_whole => k_is)
    (case c_whole => k_is)
    (case k_whole => k_is)
    (case g_makers => k_is)
    (case l_makers => k_is)
    (case c_makers => k_is)
    (case k_makers => k_is)
    (case g_written => k_is)
    (case l_written => k_is)
    (case c_written => k_is)
    (case k_written => k_is)
    (case g__law_start => k_is)
    (case l__law_start => k_is)
    (case c__law_start => k_is)
    (case k__law_start => k_is)
    (case g__law_drawn => k_is)
    (case l__law_drawn => k_is)
    (case c__law_drawn => k_is)
    (case k__law_drawn => k_is)
    (case g__law_number => k_is)
    (case l__law_number => k_is)
    (case c__law_number => k_is)
    (case k__law_number => k_is)
    (case g__law_maker => k_is)
    (case l__law_maker => k_is)
    (case c__law_maker => k_is)
    (case k__law_maker => k_is)
    (case g__law_stage => k_is)
    (case l__law_stage => k_is)
    (case c__law_stage => k_is)
    (case k__law_stage => k_is)
    (case g__law_chain => k_is)
    (case l__law_chain => k_is)
    (case c__law_chain => k_is)
    (case k__law_chain => k_is)
    (case g__law_any => k_is)
    (case l__law_any => k_is)
    (case c__law_any => k_is)
    (case k__law_any => k_is)
    (case g__law_makers => k_is)
    (case l__law_makers => k_is)
    (case c__law_makers => k_is)
    (case k__law_makers => k_is)
    (case g__law_kind => k_is)
    (case l__law_kind => k_is)
    (case c__law_kind => k_is)
    (case k__law_kind => k_is)
    (case g__law_same => k_is)
    (case l__law_same => k_is)
    (case c__law_same => k_is)
    (case k__law_same => k_is)
    (case g__law_bad => k_is)
    (case l__law_bad => k_is)
    (case c__law_bad => k_is)
    (case k__law_bad => k_is)
    (case g__law_works => k_is)
    (case l__law_works => k_is)
    (case c__law_works => k_is)
    (case k__law_works => k_is)
    (case g_law => k_is)
    (case l_law => k_is)
    (case c_law => k_is)
    (case k_law => k_is)
    (case g_Source => k_is)
    (case pg_Source => k_is)
    (case hd_Source => k_is)
    (case po_Source => k_is)
    (case sa_Source => k_is)
    (case mk_Source => k_is)
    (case kc_Source => k_is)
    (case na_Source_gives => k_is)
    (case na_Source_book => k_is)
    (case na_Source_given => k_is)
    (case g_Link => k_is)
    (case pg_Link => k_is)
    (case hd_Link => k_is)
    (case po_Link => k_is)
    (case sa_Link => k_is)
    (case mk_Link => k_is)
    (case kc_Link => k_is)
    (case na_Link_rule => k_is)
    (case na_Link_ahead => k_is)
    (case na_Link_beside => k_is)
    (case na_Link_lost => k_is)
    (case na_Link_over => k_is)
    (case na_Link_told => k_is)
    (case na_Link_last => k_is)
    (case na_Link_left => k_is)
    (case g_Drawer => k_is)
    (case pg_Drawer => k_is)
    (case hd_Drawer => k_is)
    (case po_Drawer => k_is)
    (case sa_Drawer => k_is)
    (case mk_Drawer => k_is)
    (case kc_Drawer => k_is)
    (case na_Drawer_book => k_is)
    (case na_Drawer_lost => k_is)
    (case na_Drawer_back => k_is)
    (case na_Drawer_stuck => k_is)
    (case na_Drawer_sources => k_is)
    (case na_Drawer_top => k_is)
    (case g_Source_init => k_is)
    (case i_Source_init => k_is)
    (case l_Source_init => k_is)
    (case c_Source_init => k_is)
    (case k_Source_init => k_is)
    (case g_Source_draw => k_is)
    (case i_Source_draw => k_is)
    (case l_Source_draw => k_is)
    (case c_Source_draw => k_is)
    (case k_Source_draw => k_is)
    (case g_Link_init => k_is)
    (case i_Link_init => k_is)
    (case l_Link_init => k_is)
    (case c_Link_init => k_is)
    (case k_Link_init => k_is)
    (case g_Link_draw => k_is)
    (case i_Link_draw => k_is)
    (case l_Link_draw => k_is)
    (case c_Link_draw => k_is)
    (case k_Link_draw => k_is)
    (case g_Link_drawn_by => k_is)
    (case i_Link_drawn_by => k_is)
    (case l_Link_drawn_by => k_is)
    (case c_Link_drawn_by => k_is)
    (case k_Link_drawn_by => k_is)
    (case g_Link_sought => k_is)
    (case i_Link_sought => k_is)
    (case l_Link_sought => k_is)
    (case c_Link_sought => k_is)
    (case k_Link_sought => k_is)
    (case g_Link_dropped => k_is)
    (case i_Link_dropped => k_is)
    (case l_Link_dropped => k_is)
    (case c_Link_dropped => k_is)
    (case k_Link_dropped => k_is)
    (case g_Link_told_again => k_is)
    (case i_Link_told_again => k_is)
    (case l_Link_told_again => k_is)
    (case c_Link_told_again => k_is)
    (case k_Link_told_again => k_is)
    (case g_Link_ended => k_is)
    (case i_Link_ended => k_is)
    (case l_Link_ended => k_is)
    (case c_Link_ended => k_is)
    (case k_Link_ended => k_is)
    (case g_Link_paired => k_is)
    (case i_Link_paired => k_is)
    (case l_Link_paired => k_is)
    (case c_Link_paired => k_is)
    (case k_Link_paired => k_is)
    (case g_Link_followed => k_is)
    (case i_Link_followed => k_is)
    (case l_Link_followed => k_is)
    (case c_Link_followed => k_is)
    (case k_Link_followed => k_is)
    (case g_Drawer_init => k_is)
    (case i_Drawer_init => k_is)
    (case l_Drawer_init => k_is)
    (case c_Drawer_init => k_is)
    (case k_Drawer_init => k_is)
    (case g_Drawer_made => k_is)
    (case i_Drawer_made => k_is)
    (case l_Drawer_made => k_is)
    (case c_Drawer_made => k_is)
    (case k_Drawer_made => k_is)
    (case g_Drawer_next => k_is)
    (case i_Drawer_next => k_is)
    (case l_Drawer_next => k_is)
    (case c_Drawer_next => k_is)
    (case k_Drawer_next => k_is)
    (case g_Drawer_drawn => k_is)
    (case i_Drawer_drawn => k_is)
    (case l_Drawer_drawn => k_is)
    (case c_Drawer_drawn => k_is)
    (case k_Drawer_drawn => k_is)
    (case v_MOST_ROW => k_is)
    (case v_MOST_MAKERS => k_is)
    (case v_MOST_STAGES => k_is)
    (case v_MOST_WHEEL => k_is)
    (case v_PATIENCE => k_is)
    (case v_MOST_MANY => k_is)
    (case v_MOST_WHOLE => k_is)
    (case v_END => k_is)
    (case v_LONG => k_is)
    (case v_NUMBER => k_is)
    (case z_int => k_is)
    (case z_bool => k_is)
    (case z_tuple => k_is)
    (case z_str => k_is)
    (case z_len => k_is)
    (case z_isinstance => k_is)
    (case z_list => k_is)
    (case z_range => k_is)
    (case z_min => k_is)
    (case z_max => k_is)
    (case z_sum => k_is)
    (case z_zip => k_is)
    (case z_ValueError => k_is)
    (case g_BadChain => k_is)
    (case x_BadChain => k_exc)
    (case k_BadChain => k_is)
    (case b_BadChain => k_is)
    (case t_BadChain => k_is)
    (case g_BadMany => k_is)
    (case x_BadMany => k_exc)
    (case k_BadMany => k_is)
    (case b_BadMany => k_is)
    (case t_BadMany => k_is)
    (case g_NoWhole => k_is)
    (case x_NoWhole => k_exc)
    (case k_NoWhole => k_is)
    (case b_NoWhole => k_is)
    (case t_NoWhole => k_is)
    (case g_SIZES => k_is)
    (case d_SIZES => rfl)
    (case g_BOUNDS => k_is)
    (case d_BOUNDS => rfl)
    (case s_add => k_is)
    (case s_times => k_is)
    (case s_keep => k_is)
    (case s_drop => k_is)
    (case s_take => k_is)
    (case s_each => k_is)
    (case s_until => k_is)
    (case s_unlike => k_is)
    (case s_both => k_is)
    (case s_then => k_is)
    (case bb_drop => k_is)
    (case bl_drop => k_is)
    (case bb_take => k_is)
    (case bl_take => k_is)
    (case bb_each => k_is)
    (case bl_each => k_is)
    (case b0_add => k_is)
    (case b0_times => k_is)
    (case b0_keep => k_is)
    (case b0_until => k_is)
    (case b0_unlike => k_is)
    (case b0_both => k_is)
    (case b0_then => k_is)
    (case g_DrawError => k_is)
    (case g_BadText => k_is)
    (case ex_BadChain => kernel_rfl)
    (case kv_BadChain => kernel_rfl)
    (case ki_BadChain_BadChain => kernel_rfl)
    (case ki_BadChain_BadMany => kernel_rfl)
    (case ki_BadChain_NoWhole => kernel_rfl)
    (case ki_BadChain_BadText => kernel_rfl)
    (case ec1_BadChain => k_is)
    (case ec2_BadChain => k_is)
    (case ec3_BadChain => k_is)
    (case ec4_BadChain => k_is)
    (case ec5_BadChain => k_is)
    (case ex_BadMany => kernel_rfl)
    (case kv_BadMany => kernel_rfl)
    (case ki_BadMany_BadChain => kernel_rfl)
    (case ki_BadMany_BadMany => kernel_rfl)
    (case ki_BadMany_NoWhole => kernel_rfl)
    (case ki_BadMany_BadText => kernel_rfl)
    (case ec1_BadMany => k_is)
    (case ec2_BadMany => k_is)
    (case ec3_BadMany => k_is)
    (case ec4_BadMany => k_is)
    (case ec5_BadMany => k_is)
    (case ex_NoWhole => kernel_rfl)
    (case kv_NoWhole => kernel_rfl)
    (case ki_NoWhole_BadChain => kernel_rfl)
    (case ki_NoWhole_BadMany => kernel_rfl)
    (case ki_NoWhole_NoWhole => kernel_rfl)
    (case ki_NoWhole_BadText => kernel_rfl)
    (case ec1_NoWhole => k_is)
    (case ec2_NoWhole => k_is)
    (case ec3_NoWhole => k_is)
    (case ec4_NoWhole => k_is)
    (case ec5_NoWhole => k_is)
    (case ec6 => k_is)
    (case ec7 => k_is)
    (case lc => k_is)
    (case lct => rfl)
    (case lch => kernel_rfl)
    (case lcn => kernel_rfl)
    (case wc => k_is)
    (case wct => rfl)
    (case wch => kernel_rfl)
    (case wcn => kernel_rfl)
    (case tne => decide)
    (case own1 => exact PySem.W.km_tabs_of Y _ (by decide))
    (case own2 => exact PySem.W.km_tabs_of Y _ (by decide))
    (case z0_0 => k_is)
    (case z0_1 => k_is)
    (case z0_2 => k_is)
    (case z0_3 => k_is)
    (case z0_4 => k_is)
    (case z0_5 => k_is)
    (case z0_6 => k_is)
    (case z0_7 => k_is)
  case hZ => obtain ⟨_, _, _, _, _, _, _, _, _, _, _, _, f⟩ := z; exact f
#print axioms PySem.Challenge.cw_drawchain_k01_chains_refused_holds
end
