import PyProof.Rows.All
import Wide.All
import OpenK.AllK
import Wide.FinOn
import HandS.ForMost
import HandS.Wide
import HandS.IsInst
import HandS.Codes
import HandS.Style
import HandS.RaiseMore
import HandS.SetKeys
import HandS.TupLen
import HandS.Conv
import HandS.StrMore
import HandS.Small
import HandS.Defaults
import HandS.HeadEnd
import HandS.Head0
import HandS.Head1
import HandS.Head2
import HandS.HeadHook1
import HandS.HeadHook2
import HandS.HeadHook3
import HandS.HeadHook4
import KE.KStateDown
import PySem.Challenge.RW_hushrow_k11_values
set_option Elab.async false
set_option linter.all false
set_option maxRecDepth 100000
set_option maxHeartbeats 4000000
/-! A small calculus of denotations over the hand layer: values, memories, their relation to the abstract heap. -/
namespace Pa
open PySem PySem.Spec
open PyProof.Rows L2
open SX (S)

inductive Val where
  | non | bl (b : Bool) | int (i : Int) | str (s : List Nat) | ref (i : Nat) | con (k : Nat)
  deriving DecidableEq
abbrev DKey := Sum Int (List Nat)
inductive Ob where
  | lst (xs : List Val)
  | tup (xs : List Val)
  | dk (kvs : List (DKey × Val))
  | dt (kvs : List (List DKey × Val))
  | ins (c : String) (fs : List (String × Val))
  | fz (o : Ob)
abbrev Mem := List Ob
inductive R (α : Type) where
  | ok (a : α) (M : Mem)
  | exc (c : String) (fs : List (String × Val)) (M : Mem)
  | no
def R.bind {α β : Type} (r : R α) (f : α → Mem → R β) : R β :=
  match r with
  | .ok a M => f a M
  | .exc c fs M => .exc c fs M
  | .no => .no
theorem R.bind_ok {α β : Type} (a : α) (M : Mem) (f : α → Mem → R β) : (R.ok a M).bind f = f a M := rfl
theorem R.bind_no {α β : Type} (f : α → Mem → R β) : (R.no : R α).bind f = .no := rfl
theorem R.bind_exc {α β : Type} (c : String) (fs : List (String × Val)) (M : Mem) (f : α → Mem → R β) : (R.exc c fs M : R α).bind f = .exc c fs M := rfl
theorem R.bind_eq {α β : Type} {r : R α} {f : α → Mem → R β} {b : β} {M' : Mem} (h : r.bind f = .ok b M') : ∃ a M, r = .ok a M ∧ f a M = .ok b M' := by
  cases r with
  | ok a M => exact ⟨a, M, rfl, h⟩
  | exc c fs M => cases h
  | no => cases h
def R.of {α : Type} (o : Option α) (M : Mem) : R α := match o with
  | some a => .ok a M
  | none => .no
theorem R.of_eq {α : Type} {o : Option α} {M M' : Mem} {a : α} (h : R.of o M = .ok a M') : o = some a ∧ M' = M := by
  cases o with
  | none => cases h
  | some b => cases h; exact ⟨rfl, rfl⟩

/-- what the law's text fixes: where defs, classes, constants stand -/
structure Cfg where
  cl : String → Addr
  ca : Nat → Addr
  con : Nat → Option (Bool × List Val)

/-! ### refs in bounds -/
def Val.lt (n : Nat) : Val → Prop
  | .ref i => i < n
  | _ => True
theorem Val.lt.mono {v : Val} {n m : Nat} (h : v.lt n) (k : n ≤ m) : v.lt m := by
  cases v with
  | ref i => exact Nat.lt_of_lt_of_le h k
  | _ => exact trivial
def Lts (n : Nat) (xs : List Val) : Prop := ∀ v ∈ xs, v.lt n
theorem Lts.mono {xs : List Val} {n m : Nat} (h : Lts n xs) (k : n ≤ m) : Lts m xs := fun v hv => (h v hv).mono k
theorem Lts.get {xs : List Val} {n i : Nat} {v : Val} (h : Lts n xs) (e : xs[i]? = some v) : v.lt n := h v (List.mem_of_getElem? e)
theorem Lts.app {xs ys : List Val} {n : Nat} (h : Lts n xs) (k : Lts n ys) : Lts n (xs ++ ys) := fun v hv => (List.mem_append.mp hv).elim (h v) (k v)
theorem Lts.nil {n : Nat} : Lts n [] := fun _ h => by cases h
theorem Lts.cons {x : Val} {xs : List Val} {n : Nat} (h : x.lt n) (k : Lts n xs) : Lts n (x :: xs) := fun v hv => by
  rcases List.mem_cons.mp hv with rfl | hv
  · exact h
  · exact k v hv
theorem Lts.sub {xs ys : List Val} {n : Nat} (h : Lts n xs) (k : ∀ v ∈ ys, v ∈ xs) : Lts n ys := fun v hv => h v (k v hv)
def Ob.lt (n : Nat) : Ob → Prop
  | .lst xs => Lts n xs
  | .tup xs => Lts n xs
  | .dk kvs => ∀ p ∈ kvs, p.2.lt n
  | .dt kvs => ∀ p ∈ kvs, p.2.lt n
  | .ins _ fs => ∀ p ∈ fs, p.2.lt n
  | .fz o => o.lt n
theorem Ob.lt.mono : ∀ {o : Ob} {n m : Nat}, o.lt n → n ≤ m → o.lt m
  | .lst xs, _, _, h, k => Lts.mono (xs := xs) h k
  | .tup xs, _, _, h, k => Lts.mono (xs := xs) h k
  | .dk kvs, _, _, h, k => fun p hp => (h p hp).mono k
  | .dt kvs, _, _, h, k => fun p hp => (h p hp).mono k
  | .ins _ fs, _, _, h, k => fun p hp => (h p hp).mono k
  | .fz o, _, _, h, k => Ob.lt.mono (o := o) h k

/-! ### a value as the layer has it -/
section
variable (g : Cfg) (r : Nat → Addr)
def mv : Val → V
  | .non => .non
  | .bl b => .bl b
  | .int i => .int i
  | .str s => .str (S s)
  | .ref i => .ref (r i)
  | .con k => .ref (g.ca k)
def mk : DKey → Key
  | .inl i => .inl i
  | .inr s => .inr (S s)
def mkv (p : DKey × Val) : Key × V := (mk p.1, mv g r p.2)
def mkt (p : List DKey × Val) : List Key × V := (p.1.map mk, mv g r p.2)
def mfv (p : String × Val) : Str × V := (Str.ofString p.1, mv g r p.2)
inductive HoR : Ob → HO → Prop
  | lst {xs : List Val} : HoR (.lst xs) (.lst (xs.map (mv g r)))
  | tup {xs : List Val} : HoR (.tup xs) (.tup (xs.map (mv g r)))
  | dk {kvs : List (DKey × Val)} : HoR (.dk kvs) (.dK (kvs.map (mkv g r)))
  | dt {kvs : List (List DKey × Val)} : HoR (.dt kvs) (.dT (kvs.map (mkt g r)))
  | ins {c : String} {fs : List (String × Val)} {dx : Addr} : HoR (.ins c fs) (.ins (g.cl c) dx (fs.map (mfv g r)))
  | fz {o : Ob} {od : Obj} {u : HO} : HoR o u → HoR (.fz o) (.frz od u)
end
theorem mv_eq {g : Cfg} {r r' : Nat → Addr} {n : Nat} (h : ∀ i, i < n → r' i = r i) {v : Val} (l : v.lt n) : mv g r' v = mv g r v := by
  cases v with
  | ref i => exact congrArg V.ref (h i l)
  | _ => rfl
theorem mvs_eq {g : Cfg} {r r' : Nat → Addr} {n : Nat} (h : ∀ i, i < n → r' i = r i) {xs : List Val} (l : Lts n xs) : xs.map (mv g r') = xs.map (mv g r) :=
  List.map_congr_left fun v hv => mv_eq h (l v hv)
theorem HoR.eq {g : Cfg} {r r' : Nat → Addr} {n : Nat} (h : ∀ i, i < n → r' i = r i) {o : Ob} {u : HO} (x : HoR g r o u) (l : o.lt n) : HoR g r' o u := by
  induction x with
  | @lst xs => rw [← mvs_eq (g := g) h (xs := xs) l]; exact .lst
  | @tup xs => rw [← mvs_eq (g := g) h (xs := xs) l]; exact .tup
  | @dk kvs =>
    have e : kvs.map (mkv g r) = kvs.map (mkv g r') := List.map_congr_left fun p hp => by
      show (_, _) = (_, _)
      rw [mv_eq h (l p hp)]
    rw [e]; exact .dk
  | @dt kvs =>
    have e : kvs.map (mkt g r) = kvs.map (mkt g r') := List.map_congr_left fun p hp => by
      show (_, _) = (_, _)
      rw [mv_eq h (l p hp)]
    rw [e]; exact .dt
  | @ins c fs dx =>
    have e : fs.map (mfv g r) = fs.map (mfv g r') := List.map_congr_left fun p hp => by
      show (_, _) = (_, _)
      rw [mv_eq h (l p hp)]
    rw [e]; exact .ins
  | fz _ ih => exact .fz (ih l)

/-- the memory is what the abstract heap holds -/
structure Rel (g : Cfg) (r : Nat → Addr) (M : Mem) (H : Hp) : Prop where
  obj : ∀ (i : Nat) (o : Ob), M[i]? = some o → ∃ u, H (r i) = some u ∧ HoR g r o u
  inj : ∀ i j, i < M.length → j < M.length → r i = r j → i = j
  wf : ∀ (i : Nat) (o : Ob), M[i]? = some o → o.lt M.length
/-- further on: more objects, the old ones where they were -/
structure Nxt (r : Nat → Addr) (M : Mem) (r' : Nat → Addr) (M' : Mem) : Prop where
  le : M.length ≤ M'.length
  eq : ∀ i, i < M.length → r' i = r i
theorem Nxt.refl {r : Nat → Addr} {M : Mem} : Nxt r M r M := ⟨Nat.le_refl _, fun _ _ => rfl⟩
theorem Nxt.trans {r r1 r2 : Nat → Addr} {M M1 M2 : Mem} (a : Nxt r M r1 M1) (b : Nxt r1 M1 r2 M2) : Nxt r M r2 M2 :=
  ⟨Nat.le_trans a.le b.le, fun i h => (b.eq i (Nat.lt_of_lt_of_le h a.le)).trans (a.eq i h)⟩
theorem Nxt.of_len {r : Nat → Addr} {M M' : Mem} (h : M'.length = M.length) : Nxt r M r M' := ⟨Nat.le_of_eq h.symm, fun _ _ => rfl⟩
theorem Nxt.mv {g : Cfg} {r r' : Nat → Addr} {M M' : Mem} (a : Nxt r M r' M') {v : Val} (l : v.lt M.length) : Pa.mv g r' v = Pa.mv g r v := mv_eq a.eq l
theorem Nxt.mvs {g : Cfg} {r r' : Nat → Addr} {M M' : Mem} (a : Nxt r M r' M') {xs : List Val} (l : Lts M.length xs) : xs.map (Pa.mv g r') = xs.map (Pa.mv g r) := mvs_eq a.eq l
theorem lt_of_get {M : Mem} {i : Nat} {o : Ob} (h : M[i]? = some o) : i < M.length := (List.getElem?_eq_some_iff.mp h).1
section
variable {g : Cfg} {r : Nat → Addr} {M : Mem} {H : Hp}
theorem Rel.none_ne (R : Rel g r M H) {p : Addr} (h : H p = none) {i : Nat} (l : i < M.length) : r i ≠ p := fun e => by
  obtain ⟨u, hu, _⟩ := R.obj i M[i] (List.getElem?_eq_getElem l)
  rw [e, h] at hu
  cases hu
/-- a new address that M does not see -/
theorem Rel.side (R : Rel g r M H) {p : Addr} {o : HO} (h : H p = none) : Rel g r M (upd H p o) :=
  ⟨fun i ob e => by
    obtain ⟨u, hu, x⟩ := R.obj i ob e
    exact ⟨u, by rw [upd_ne (R.none_ne h (lt_of_get e))]; exact hu, x⟩, R.inj, R.wf⟩
def ext (r : Nat → Addr) (n : Nat) (p : Addr) : Nat → Addr := fun i => if i = n then p else r i
theorem ext_lt {n : Nat} {p : Addr} {i : Nat} (h : i < n) : ext r n p i = r i := if_neg (Nat.ne_of_lt h)
theorem ext_at {n : Nat} {p : Addr} : ext r n p n = p := if_pos rfl
theorem nxt_ext {p : Addr} {o : Ob} : Nxt r M (ext r M.length p) (M ++ [o]) := ⟨by rw [List.length_append]; omega, fun _ h => ext_lt h⟩
/-- a new object at p -/
theorem Rel.alloc (R : Rel g r M H) {p : Addr} {o : Ob} {u : HO} (h : H p = none) (x : HoR g r o u) (l : o.lt M.length) : Rel g (ext r M.length p) (M ++ [o]) (upd H p u) := by
  refine ⟨fun i ob e => ?_, fun i j hi hj e => ?_, fun i ob e => ?_⟩
  · by_cases hi : i < M.length
    · rw [List.getElem?_append_left hi] at e
      obtain ⟨u', hu, x'⟩ := R.obj i ob e
      exact ⟨u', by rw [ext_lt hi, upd_ne (R.none_ne h hi)]; exact hu, x'.eq (fun j hj => ext_lt hj) (R.wf i ob e)⟩
    · have hl := lt_of_get e
      rw [List.length_append, List.length_singleton] at hl
      have ei : i = M.length := by omega
      subst ei
      rw [List.getElem?_append_right (Nat.le_refl _), Nat.sub_self] at e
      cases e
      exact ⟨u, by rw [ext_at, upd_same], x.eq (fun j hj => ext_lt hj) l⟩
  · rw [List.length_append, List.length_singleton] at hi hj
    by_cases h1 : i < M.length
    · by_cases h2 : j < M.length
      · rw [ext_lt h1, ext_lt h2] at e
        exact R.inj i j h1 h2 e
      · have ej : j = M.length := by omega
        subst ej
        rw [ext_lt h1, ext_at] at e
        exact absurd e (R.none_ne h h1)
    · have ei : i = M.length := by omega
      subst ei
      by_cases h2 : j < M.length
      · rw [ext_lt h2, ext_at] at e
        exact absurd e.symm (R.none_ne h h2)
      · omega
  · rw [List.length_append]
    by_cases hi : i < M.length
    · rw [List.getElem?_append_left hi] at e
      exact (R.wf i ob e).mono (Nat.le_add_right _ _)
    · rw [List.getElem?_append_right (by omega)] at e
      have : ob = o := by
        cases hz : i - M.length with
        | zero => rw [hz] at e; cases e; rfl
        | succ k => rw [hz] at e; simp at e
      subst this
      exact l.mono (Nat.le_add_right _ _)
/-- the object at i is changed -/
theorem Rel.put (R : Rel g r M H) {i : Nat} {o : Ob} {u : HO} (hi : i < M.length) (x : HoR g r o u) (l : o.lt M.length) : Rel g r (M.set i o) (upd H (r i) u) := by
  refine ⟨fun j ob e => ?_, fun a b ha hb e => ?_, fun j ob e => ?_⟩
  · have hj := lt_of_get e
    rw [List.length_set] at hj
    by_cases hij : i = j
    · subst hij
      rw [List.getElem?_set_self hi] at e
      cases e
      exact ⟨u, upd_same, x⟩
    · rw [List.getElem?_set_ne hij] at e
      obtain ⟨u', hu, x'⟩ := R.obj j ob e
      exact ⟨u', by rw [upd_ne (fun z => hij (R.inj j i hj hi z).symm)]; exact hu, x'⟩
  · rw [List.length_set] at ha hb
    exact R.inj a b ha hb e
  · rw [List.length_set]
    by_cases hij : i = j
    · subst hij
      rw [List.getElem?_set_self hi] at e
      cases e
      exact l
    · rw [List.getElem?_set_ne hij] at e
      exact R.wf j ob e
theorem nxt_set {i : Nat} {o : Ob} : Nxt r M r (M.set i o) := Nxt.of_len (List.length_set ..)
end

/-! ### judgements -/
/-- slots as the layer has them -/
def mS (g : Cfg) (r : Nat → Addr) (L : List (Option Val)) : L2.St := L.map (Option.map (mv g r))
def Lok (n : Nat) (L : List (Option Val)) : Prop := ∀ v, some v ∈ L → v.lt n
theorem Lok.mono {n m : Nat} {L : List (Option Val)} (h : Lok n L) (k : n ≤ m) : Lok m L := fun v hv => (h v hv).mono k
theorem Lok.get {n i : Nat} {L : List (Option Val)} {v : Val} (h : Lok n L) (e : L[i]? = some (some v)) : v.lt n := h v (List.mem_of_getElem? e)
theorem Lok.set {n i : Nat} {L : List (Option Val)} {v : Val} (h : Lok n L) (k : v.lt n) : Lok n (L.set i (some v)) := fun w hw => by
  rcases List.mem_or_eq_of_mem_set hw with z | z
  · exact h w z
  · cases z; exact k
theorem Nxt.sg {g : Cfg} {r r' : Nat → Addr} {M M' : Mem} (a : Nxt r M r' M') {L : List (Option Val)} (l : Lok M.length L) : mS g r' L = mS g r L :=
  List.map_congr_left fun o ho => by
    cases o with
    | none => rfl
    | some v => exact congrArg some (a.mv (l v ho))
theorem mS_get {g : Cfg} {r : Nat → Addr} {L : List (Option Val)} {i : Nat} {v : Val} (e : L[i]? = some (some v)) : (mS g r L)[i]? = some (some (mv g r v)) := by
  unfold mS; rw [List.getElem?_map, e]; rfl
theorem mS_set {g : Cfg} {r : Nat → Addr} {L : List (Option Val)} {i : Nat} {v : Val} : (mS g r L).set i (some (mv g r v)) = mS g r (L.set i (some v)) := by
  unfold mS; rw [List.map_set]; rfl
abbrev Loc := List (Option Val)
abbrev D := Loc → Mem → R Val
abbrev DA := Loc → Mem → R (List Val)
inductive Fl where
  | nx (L : Loc) | rt (v : Val) | bk (L : Loc) | ct (L : Loc)
abbrev Ds := Loc → Mem → R Fl
/-- slots and memory at a place of the text -/
structure At (g : Cfg) (r : Nat → Addr) (L : Loc) (M : Mem) (σ : L2.St) (H : Hp) : Prop where
  rel : Rel g r M H
  lok : Lok M.length L
  sl : σ = mS g r L
def tD (g : Cfg) (d : D) : TE := fun σ H Q => ∃ r L M v M', At g r L M σ H ∧ d L M = .ok v M' ∧ ∀ r' H', Nxt r M r' M' → Rel g r' M' H' → v.lt M'.length → Q (mv g r' v) H'
def tDT (g : Cfg) (d : D) : TT := fun σ H Q => ∃ r L M b M', At g r L M σ H ∧ d L M = .ok (.bl b) M' ∧ ∀ r' H', Nxt r M r' M' → Rel g r' M' H' → Q b H'
def tDA (g : Cfg) (d : DA) : TA := fun σ H Q => ∃ r L M vs M', At g r L M σ H ∧ d L M = .ok vs M' ∧ ∀ r' H', Nxt r M r' M' → Rel g r' M' H' → Lts M'.length vs → Q (vs.map (mv g r')) H'
def tDS (g : Cfg) (d : Ds) : TS := fun D σ H => ∃ r L M f M', At g r L M σ H ∧ d L M = .ok f M' ∧ ∀ r' H', Nxt r M r' M' → Rel g r' M' H' → match f with
  | .nx L' => Lok M'.length L' → D.nx (mS g r' L') H'
  | .rt v => v.lt M'.length → D.rt (mv g r' v) H'
  | .bk L' => Lok M'.length L' → D.bk (mS g r' L') H'
  | .ct L' => Lok M'.length L' → D.ct (mS g r' L') H'
abbrev SE (g : Cfg) (X : Cx) (e : Expr) (d : D) : Prop := PE X e (tD g d)
abbrev ST (g : Cfg) (X : Cx) (e : Expr) (d : D) : Prop := PT X e (tDT g d)
abbrev SA (g : Cfg) (X : Cx) (es : List Expr) (d : DA) : Prop := PA X es (tDA g d)
abbrev SS (g : Cfg) (X : Cx) (st : Stmt) (d : Ds) : Prop := PS X st (tDS g d)
abbrev SSs (g : Cfg) (X : Cx) (st : List Stmt) (d : Ds) : Prop := PSs X st (tDS g d)
theorem pe_imp {X : Cx} {e : Expr} {t t' : TE} (h : PE X e t) (k : ∀ σ H Q, t' σ H Q → t σ H Q) : PE X e t' := ⟨fun pins s σ H Q I q => h.run pins s σ H Q I (k σ H Q q)⟩
theorem pt_imp {X : Cx} {e : Expr} {t t' : TT} (h : PT X e t) (k : ∀ σ H Q, t' σ H Q → t σ H Q) : PT X e t' := ⟨fun pins s σ H Q I q => h.run pins s σ H Q I (k σ H Q q)⟩
theorem pw_imp {X : Cx} {e : Expr} {t t' : TT} (h : PW X e t) (k : ∀ σ H Q, t' σ H Q → t σ H Q) : PW X e t' := ⟨fun w pins s σ H Q I q => h.run w pins s σ H Q I (k σ H Q q)⟩
theorem pa_imp {X : Cx} {es : List Expr} {t t' : TA} (h : PA X es t) (k : ∀ σ H Q, t' σ H Q → t σ H Q) : PA X es t' := ⟨fun pos pins s σ H Q I q => h.run pos pins s σ H Q I (k σ H Q q)⟩
theorem ps_imp {X : Cx} {e : Stmt} {t t' : TS} (h : PS X e t) (k : ∀ D σ H, t' D σ H → t D σ H) : PS X e t' := ⟨fun pins s σ H D I q => h.run pins s σ H D I (k D σ H q)⟩
theorem pss_imp {X : Cx} {e : List Stmt} {t t' : TS} (h : PSs X e t) (k : ∀ D σ H, t' D σ H → t D σ H) : PSs X e t' := ⟨fun pins s σ H D I q => h.run pins s σ H D I (k D σ H q)⟩
/-- behind an expression: the same slots -/
theorem At.next {g : Cfg} {r r' : Nat → Addr} {L : Loc} {M M' : Mem} {σ : L2.St} {H H' : Hp} (A : At g r L M σ H) (n : Nxt r M r' M') (R' : Rel g r' M' H') : At g r' L M' σ H' :=
  ⟨R', A.lok.mono n.le, by rw [A.sl]; exact (n.sg A.lok).symm⟩
theorem At.of {g : Cfg} {r : Nat → Addr} {L : Loc} {M : Mem} {H : Hp} (R : Rel g r M H) (l : Lok M.length L) : At g r L M (mS g r L) H := ⟨R, l, rfl⟩
/-- enter an expression's reading -/
theorem tD_go {g : Cfg} {r : Nat → Addr} {L : Loc} {M M' : Mem} {σ : L2.St} {H : Hp} {d : D} {v : Val} {Q : VK} (A : At g r L M σ H) (e : d L M = .ok v M') (k : ∀ r' H', Nxt r M r' M' → At g r' L M' σ H' → v.lt M'.length → Q (mv g r' v) H') : tD g d σ H Q :=
  ⟨r, L, M, v, M', A, e, fun r' H' n R l => k r' H' n (A.next n R) l⟩
theorem tDA_go {g : Cfg} {r : Nat → Addr} {L : Loc} {M M' : Mem} {σ : L2.St} {H : Hp} {d : DA} {v : List Val} {Q : List V → Hp → Prop} (A : At g r L M σ H) (e : d L M = .ok v M') (k : ∀ r' H', Nxt r M r' M' → At g r' L M' σ H' → Lts M'.length v → Q (v.map (mv g r')) H') : tDA g d σ H Q :=
  ⟨r, L, M, v, M', A, e, fun r' H' n R l => k r' H' n (A.next n R) l⟩
theorem tDT_go {g : Cfg} {r : Nat → Addr} {L : Loc} {M M' : Mem} {σ : L2.St} {H : Hp} {d : D} {b : Bool} {Q : Bool → Hp → Prop} (A : At g r L M σ H) (e : d L M = .ok (.bl b) M') (k : ∀ r' H', Nxt r M r' M' → At g r' L M' σ H' → Q b H') : tDT g d σ H Q :=
  ⟨r, L, M, b, M', A, e, fun r' H' n R => k r' H' n (A.next n R)⟩
end Pa

/-! Operators by values. -/
namespace Pa
open PySem PySem.Spec
open PyProof.Rows L2
open SX (S)
theorem line6 {n : Nat} (h : n ≤ 1000000) : n ≤ sizeLine := Nat.le_trans h (by decide)
theorem line6' {n : Nat} (h : n < 1000000) : n < sizeLine := Nat.lt_of_lt_of_le h (by decide)
/-- what stands in the written part -/
def ConOk (g : Cfg) (K : PySem.W.Frag) : Prop := ∀ k b xs, g.con k = some (b, xs) → (∀ n, Lts n xs) ∧ ∀ r, if b = true then ∀ H, SqL K H (g.ca k) (xs.map (mv g r)) else ∀ H, SqT K H (g.ca k) (xs.map (mv g r))
abbrev Kont (g : Cfg) (r : Nat → Addr) (M : Mem) (v : Val) (M' : Mem) (Q : VK) : Prop := ∀ r' H', Nxt r M r' M' → Rel g r' M' H' → v.lt M'.length → Q (mv g r' v) H'
/-- a two-place operation of the memory and the layer's reading of it -/
def OpS (g : Cfg) (f : Val → Val → Mem → R Val) (r2 : R2) : Prop := ∀ (r : Nat → Addr) (M : Mem) (H : Hp) (x y v : Val) (M' : Mem) (Q : VK), Rel g r M H → x.lt M.length → y.lt M.length → f x y M = .ok v M' → Kont g r M v M' Q → r2 (mv g r x) (mv g r y) H Q
theorem OpS.or {g : Cfg} {f f1 f2 : Val → Val → Mem → R Val} {r1 r2 : R2} (h1 : OpS g f1 r1) (h2 : OpS g f2 r2) (h : ∀ x y M v M', f x y M = .ok v M' → f1 x y M = .ok v M' ∨ f2 x y M = .ok v M') : OpS g f (fun x y H Q => r1 x y H Q ∨ r2 x y H Q) :=
  fun r M H x y v M' Q R lx ly e k => (h x y M v M' e).elim (fun z => .inl (h1 r M H x y v M' Q R lx ly z k)) fun z => .inr (h2 r M H x y v M' Q R lx ly z k)
theorem OpS.imp {g : Cfg} {f : Val → Val → Mem → R Val} {r1 r2 : R2} (h1 : OpS g f r1) (h : ∀ x y H Q, r1 x y H Q → r2 x y H Q) : OpS g f r2 :=
  fun r M H x y v M' Q R lx ly e k => h _ _ _ _ (h1 r M H x y v M' Q R lx ly e k)
section
variable {g : Cfg} {r : Nat → Addr} {M : Mem} {H : Hp}
theorem alloc_fin {o : Ob} {u : HO} {Q : VK} (R : Rel g r M H) (x : HoR g r o u) (l : o.lt M.length) (k : Kont g r M (.ref M.length) (M ++ [o]) Q) (p : Addr) (hp : H p = none) : Q (.ref p) (upd H p u) := by
  have z := k (ext r M.length p) _ nxt_ext (R.alloc hp x l) (by show M.length < (M ++ [o]).length; simp)
  rwa [show mv g (ext r M.length p) (.ref M.length) = V.ref p from congrArg V.ref ext_at] at z
theorem stay {v : Val} {Q : VK} (R : Rel g r M H) (l : v.lt M.length) (k : Kont g r M v M Q) : Q (mv g r v) H := k r H Nxt.refl R l
/-! ### seeing objects -/
def lstOf (g : Cfg) (M : Mem) : Val → Option (List Val)
  | .ref a => match M[a]? with
    | some (.lst xs) => some xs
    | some (.fz (.lst xs)) => some xs
    | _ => none
  | .con k => match g.con k with
    | some (true, xs) => some xs
    | _ => none
  | _ => none
def tupOf (g : Cfg) (M : Mem) : Val → Option (List Val)
  | .ref a => match M[a]? with
    | some (.tup xs) => some xs
    | _ => none
  | .con k => match g.con k with
    | some (false, xs) => some xs
    | _ => none
  | _ => none
def seqOf (g : Cfg) (M : Mem) (v : Val) : Option (List Val) := match lstOf g M v with
  | some xs => some xs
  | none => tupOf g M v
theorem lstOf_ok {K : PySem.W.Frag} {v : Val} {xs : List Val} (hK : ConOk g K) (R : Rel g r M H) (e : lstOf g M v = some xs) : ∃ p, mv g r v = .ref p ∧ SqL K H p (xs.map (mv g r)) ∧ Lts M.length xs := by
  cases v with
  | ref a =>
    simp only [lstOf] at e
    cases hm : M[a]? with
    | none => rw [hm] at e; cases e
    | some o =>
      rw [hm] at e
      obtain ⟨u, hu, x⟩ := R.obj a o hm
      have wf := R.wf a o hm
      cases o with
      | lst ys =>
        cases e
        cases x
        exact ⟨_, rfl, .inl (.inl hu), wf⟩
      | fz o =>
        cases o with
        | lst ys =>
          cases e
          cases x with
          | fz x =>
            cases x
            exact ⟨_, rfl, .inl (.inr ⟨_, hu⟩), wf⟩
        | _ => cases e
      | _ => cases e
  | con k =>
    simp only [lstOf] at e
    split at e
    · rename_i ys h
      cases e
      obtain ⟨h1, h2⟩ := hK k _ _ h
      exact ⟨_, rfl, h2 r H, h1 _⟩
    · cases e
  | _ => cases e
theorem tupOf_ok {K : PySem.W.Frag} {v : Val} {xs : List Val} (hK : ConOk g K) (R : Rel g r M H) (e : tupOf g M v = some xs) : ∃ p, mv g r v = .ref p ∧ SqT K H p (xs.map (mv g r)) ∧ Lts M.length xs := by
  cases v with
  | ref a =>
    simp only [tupOf] at e
    cases hm : M[a]? with
    | none => rw [hm] at e; cases e
    | some o =>
      rw [hm] at e
      obtain ⟨u, hu, x⟩ := R.obj a o hm
      have wf := R.wf a o hm
      cases o with
      | tup ys =>
        cases e
        cases x
        exact ⟨_, rfl, .inl (.inl hu), wf⟩
      | _ => cases e
  | con k =>
    simp only [tupOf] at e
    split at e
    · rename_i ys h
      cases e
      obtain ⟨h1, h2⟩ := hK k _ _ h
      exact ⟨_, rfl, h2 r H, h1 _⟩
    · cases e
  | _ => cases e
theorem seqOf_ok {K : PySem.W.Frag} {v : Val} {xs : List Val} (hK : ConOk g K) (R : Rel g r M H) (e : seqOf g M v = some xs) : ∃ p, mv g r v = .ref p ∧ (SqL K H p (xs.map (mv g r)) ∨ SqT K H p (xs.map (mv g r))) ∧ Lts M.length xs := by
  unfold seqOf at e
  cases h : lstOf g M v with
  | some ys =>
    rw [h] at e
    cases e
    obtain ⟨p, a, b, c⟩ := lstOf_ok (K := K) hK R h
    exact ⟨p, a, .inl b, c⟩
  | none =>
    rw [h] at e
    obtain ⟨p, a, b, c⟩ := tupOf_ok (K := K) hK R e
    exact ⟨p, a, .inr b, c⟩
theorem lst_at {a : Nat} {xs : List Val} (R : Rel g r M H) (e : M[a]? = some (.lst xs)) : H (r a) = some (.lst (xs.map (mv g r))) := by
  obtain ⟨u, hu, x⟩ := R.obj a _ e
  cases x
  exact hu
theorem tup_at {a : Nat} {xs : List Val} (R : Rel g r M H) (e : M[a]? = some (.tup xs)) : H (r a) = some (.tup (xs.map (mv g r))) := by
  obtain ⟨u, hu, x⟩ := R.obj a _ e
  cases x
  exact hu
theorem atI_map {α β : Type} (f : α → β) (xs : List α) (i : Int) : atI (xs.map f) i = (atI xs i).map f := by
  unfold atI
  rw [List.length_map]
  cases ixN xs.length i with
  | none => rfl
  | some j => simp
theorem atI_mem {α : Type} {xs : List α} {i : Int} {v : α} (h : atI xs i = some v) : v ∈ xs := by
  unfold atI at h
  cases e : ixN xs.length i with
  | none => rw [e] at h; cases h
  | some j =>
    rw [e] at h
    exact List.mem_of_getElem? h
end
/-! ### arithmetic -/
def iAdd (x y : Val) (M : Mem) : R Val := match x, y with
  | .int i, .int j => .ok (.int (i + j)) M
  | _, _ => .no
def sAdd (x y : Val) (M : Mem) : R Val := match x, y with
  | .str a, .str b => if a.length + b.length ≤ 1000000 then .ok (.str (a ++ b)) M else .no
  | _, _ => .no
def lAdd (x y : Val) (M : Mem) : R Val := match x, y with
  | .ref a, .ref b => match M[a]?, M[b]? with
    | some (.lst xs), some (.lst ys) => if xs.length + ys.length ≤ 1000000 then .ok (.ref M.length) (M ++ [.lst (xs ++ ys)]) else .no
    | _, _ => .no
  | _, _ => .no
def oAdd (x y : Val) (M : Mem) : R Val := match x with
  | .int _ => iAdd x y M
  | .str _ => sAdd x y M
  | _ => lAdd x y M
def oSub (x y : Val) (M : Mem) : R Val := match x, y with
  | .int i, .int j => .ok (.int (i - j)) M
  | _, _ => .no
def iMul (x y : Val) (M : Mem) : R Val := match x, y with
  | .int i, .int j => if (-18446744073709551616 < i ∧ i < 18446744073709551616) ∨ (-18446744073709551616 < j ∧ j < 18446744073709551616) then .ok (.int (i * j)) M else .no
  | _, _ => .no
def oDiv (x y : Val) (M : Mem) : R Val := match x, y with
  | .int i, .int j => if 0 < j ∧ j < 18446744073709551616 then .ok (.int (i / j)) M else .no
  | _, _ => .no
def oMod (x y : Val) (M : Mem) : R Val := match x, y with
  | .int i, .int j => if 0 < j then .ok (.int (i % j)) M else .no
  | _, _ => .no
def oPow (x y : Val) (M : Mem) : R Val := match x, y with
  | .int i, .int j => if 0 ≤ j ∧ j ≤ 1000 ∧ -1000000 < i ∧ i < 1000000 then .ok (.int (i ^ j.toNat)) M else .no
  | _, _ => .no
def oShl (x y : Val) (M : Mem) : R Val := match x, y with
  | .int i, .int j => if 0 ≤ j ∧ j ≤ 1000 ∧ -1000000 < i ∧ i < 1000000 then .ok (.int (i * 2 ^ j.toNat)) M else .no
  | _, _ => .no
def oShr (x y : Val) (M : Mem) : R Val := match x, y with
  | .int i, .int j => if 0 ≤ j then .ok (.int (i / 2 ^ j.toNat)) M else .no
  | _, _ => .no
def oAnd (x y : Val) (M : Mem) : R Val := match x, y with
  | .int i, .int j => .ok (.int (Builtin.bitAnd i j)) M
  | _, _ => .no
def oOr (x y : Val) (M : Mem) : R Val := match x, y with
  | .int i, .int j => .ok (.int (Builtin.bitOr i j)) M
  | _, _ => .no
def lMul (x y : Val) (M : Mem) : R Val := match x, y with
  | .ref a, .int k => match M[a]? with
    | some (.lst xs) => if k ≤ 1000000 ∧ -1000000 ≤ k ∧ xs.length * k.toNat ≤ 1000000 then .ok (.ref M.length) (M ++ [.lst ((List.replicate k.toNat xs).flatten)]) else .no
    | _ => .no
  | _, _ => .no
section
variable {g : Cfg}
theorem int2 {f : Val → Val → Mem → R Val} {C : Int → Int → Prop} {h : Int → Int → V} (hf : ∀ x y M v M', f x y M = .ok v M' → ∃ i j, x = .int i ∧ y = .int j ∧ C i j ∧ M' = M ∧ (∀ g r, mv g r v = h i j) ∧ ∀ n, v.lt n) : OpS g f (rI C h) := by
  intro r M H x y v M' Q R lx ly e k
  obtain ⟨i, j, rfl, rfl, hc, rfl, hv, hl⟩ := hf _ _ _ _ _ e
  refine ⟨i, j, rfl, rfl, hc, ?_⟩
  rw [← hv g r]
  exact stay R (hl _) k
theorem rI0_of {h : Int → Int → V} {x y : V} {H : Hp} {Q : VK} (z : rI (fun _ _ => True) h x y H Q) : rI0 h x y H Q := by
  obtain ⟨i, j, a, b, _, q⟩ := z
  exact ⟨i, j, a, b, q⟩
theorem iAdd_s : OpS g iAdd (rI0 fun i j => .int (i + j)) := (int2 (C := fun _ _ => True) fun x y M v M' e => by
  cases x <;> cases y <;> simp only [iAdd] at e <;> cases e
  exact ⟨_, _, rfl, rfl, trivial, rfl, fun _ _ => rfl, fun _ => trivial⟩).imp fun _ _ _ _ => rI0_of
theorem sAdd_s : OpS g sAdd (fun x y H Q => ∃ i j, x = .str i ∧ y = .str j ∧ i.length + j.length ≤ sizeLine ∧ Q (.str (i ++ j)) H) := by
  intro r M H x y v M' Q R lx ly e k
  cases x <;> cases y <;> simp only [sAdd] at e <;> try cases e
  rename_i a b
  split at e
  · rename_i hl
    cases e
    refine ⟨_, _, rfl, rfl, ?_, ?_⟩
    · rw [SX.S_len, SX.S_len]; exact line6 hl
    · rw [SX.S_cat]
      exact stay (v := .str (a ++ b)) R trivial k
  · cases e
theorem lAdd_s : OpS g lAdd rCat := by
  intro r M H x y v M' Q R lx ly e k
  cases x <;> cases y <;> simp only [lAdd] at e <;> try cases e
  rename_i a b
  split at e
  · rename_i xs ys h1 h2
    split at e
    · rename_i hl
      cases e
      refine ⟨_, _, _, _, rfl, rfl, lst_at R h1, lst_at R h2, ?_, ?_⟩
      · rw [List.length_map, List.length_map]; exact line6 hl
      · rw [← List.map_append]
        exact alloc_fin R .lst (Lts.app (R.wf _ _ h1) (R.wf _ _ h2)) k
    · cases e
  · cases e
theorem oAdd_s : OpS g oAdd (fun x y H Q => rI0 (fun i j => .int (i + j)) x y H Q ∨ ((∃ i j, x = .str i ∧ y = .str j ∧ i.length + j.length ≤ sizeLine ∧ Q (.str (i ++ j)) H) ∨ rCat x y H Q)) := by
  intro r M H x y v M' Q R lx ly e k
  cases x with
  | int i => exact .inl (iAdd_s r M H _ y v M' Q R lx ly e k)
  | str a => exact .inr (.inl (sAdd_s r M H _ y v M' Q R lx ly e k))
  | _ => exact .inr (.inr (lAdd_s r M H _ y v M' Q R lx ly e k))
theorem oSub_s : OpS g oSub (rI0 fun i j => .int (i - j)) := (int2 (C := fun _ _ => True) fun x y M v M' e => by
  cases x <;> cases y <;> simp only [oSub] at e <;> cases e
  exact ⟨_, _, rfl, rfl, trivial, rfl, fun _ _ => rfl, fun _ => trivial⟩).imp fun _ _ _ _ => rI0_of
theorem iMul_s : OpS g iMul (rI CMul fun i j => .int (i * j)) := int2 fun x y M v M' e => by
  cases x <;> cases y <;> simp only [iMul] at e <;> try cases e
  split at e
  · rename_i h
    cases e
    exact ⟨_, _, rfl, rfl, h, rfl, fun _ _ => rfl, fun _ => trivial⟩
  · cases e
theorem oDiv_s : OpS g oDiv (rI CDivW fun i j => .int (i / j)) := int2 fun x y M v M' e => by
  cases x <;> cases y <;> simp only [oDiv] at e <;> try cases e
  rename_i i j
  split at e
  · rename_i h
    cases e
    exact ⟨_, _, rfl, rfl, wide_div (b := 64) h.1 (by have := h.1; have := h.2; omega) (by decide) (by decide), rfl, fun _ _ => rfl, fun _ => trivial⟩
  · cases e
theorem oMod_s : OpS g oMod (rI (fun _ j => 0 < j) fun i j => .int (i % j)) := int2 fun x y M v M' e => by
  cases x <;> cases y <;> simp only [oMod] at e <;> try cases e
  split at e
  · rename_i h
    cases e
    exact ⟨_, _, rfl, rfl, h, rfl, fun _ _ => rfl, fun _ => trivial⟩
  · cases e
theorem oPow_s : OpS g oPow (rI CPow fun i j => .int (i ^ j.toNat)) := int2 fun x y M v M' e => by
  cases x <;> cases y <;> simp only [oPow] at e <;> try cases e
  split at e
  · rename_i h
    cases e
    exact ⟨_, _, rfl, rfl, ⟨h.1, by omega, by omega⟩, rfl, fun _ _ => rfl, fun _ => trivial⟩
  · cases e
theorem oShl_s : OpS g oShl (rI CPow fun i j => .int (i * 2 ^ j.toNat)) := int2 fun x y M v M' e => by
  cases x <;> cases y <;> simp only [oShl] at e <;> try cases e
  split at e
  · rename_i h
    cases e
    exact ⟨_, _, rfl, rfl, ⟨h.1, by omega, by omega⟩, rfl, fun _ _ => rfl, fun _ => trivial⟩
  · cases e
theorem oShr_s : OpS g oShr (rI (fun _ j => 0 ≤ j) fun i j => .int (i / 2 ^ j.toNat)) := int2 fun x y M v M' e => by
  cases x <;> cases y <;> simp only [oShr] at e <;> try cases e
  split at e
  · rename_i h
    cases e
    exact ⟨_, _, rfl, rfl, h, rfl, fun _ _ => rfl, fun _ => trivial⟩
  · cases e
theorem oAnd_s : OpS g oAnd (rI0 fun i j => .int (Builtin.bitAnd i j)) := (int2 (C := fun _ _ => True) fun x y M v M' e => by
  cases x <;> cases y <;> simp only [oAnd] at e <;> cases e
  exact ⟨_, _, rfl, rfl, trivial, rfl, fun _ _ => rfl, fun _ => trivial⟩).imp fun _ _ _ _ => rI0_of
theorem oOr_s : OpS g oOr (rI0 fun i j => .int (Builtin.bitOr i j)) := (int2 (C := fun _ _ => True) fun x y M v M' e => by
  cases x <;> cases y <;> simp only [oOr] at e <;> cases e
  exact ⟨_, _, rfl, rfl, trivial, rfl, fun _ _ => rfl, fun _ => trivial⟩).imp fun _ _ _ _ => rI0_of
end
/-! ### comparisons -/
def flat : Val → Bool
  | .ref _ => false
  | .con _ => false
  | _ => true
def eqF : Val → Val → Bool
  | .non, .non => true
  | .bl a, .bl b => a == b
  | .bl a, .int b => (if a then 1 else 0) == b
  | .int a, .bl b => a == (if b then 1 else 0)
  | .int a, .int b => a == b
  | .str a, .str b => a == b
  | _, _ => false
/-- data, to be compared -/
inductive Dat where
  | non | bl (b : Bool) | int (i : Int) | str (s : List Nat) | lst (xs : List Dat) | tup (xs : List Dat)
mutual
def eqD : Dat → Dat → Bool
  | .non, .non => true
  | .bl a, .bl b => a == b
  | .bl a, .int b => (if a then 1 else 0) == b
  | .int a, .bl b => a == (if b then 1 else 0)
  | .int a, .int b => a == b
  | .str a, .str b => a == b
  | .lst xs, .lst ys => eqDs xs ys
  | .tup xs, .tup ys => eqDs xs ys
  | _, _ => false
def eqDs : List Dat → List Dat → Bool
  | [], [] => true
  | x :: xs, y :: ys => eqD x y && eqDs xs ys
  | _, _ => false
end
mutual
def toPy : Dat → PyData
  | .non => .none
  | .bl b => .bool b
  | .int i => .int i
  | .str s => .str (S s)
  | .lst xs => .list (toPys xs)
  | .tup xs => .tuple (toPys xs)
def toPys : List Dat → List PyData
  | [] => []
  | x :: xs => toPy x :: toPys xs
end
mutual
theorem eqv_toPy : ∀ d e : Dat, PyData.eqv (toPy d) (toPy e) = eqD d e
  | .non, e => by cases e <;> simp [toPy, PyData.eqv, eqD]
  | .bl b, e => by cases e <;> simp [toPy, PyData.eqv, eqD]
  | .int i, e => by cases e <;> simp [toPy, PyData.eqv, eqD]
  | .str s, e => by
    cases e <;> simp only [toPy, PyData.eqv, eqD]
    exact SX.S_beq _ _
  | .lst xs, e => by
    cases e <;> simp only [toPy, PyData.eqv, eqD]
    exact eqv_toPys _ _
  | .tup xs, e => by
    cases e <;> simp only [toPy, PyData.eqv, eqD]
    exact eqv_toPys _ _
theorem eqv_toPys : ∀ ds es : List Dat, PyData.eqvAll (toPys ds) (toPys es) = eqDs ds es
  | [], [] => by simp [toPys, PyData.eqvAll, eqDs]
  | [], _ :: _ => by simp [toPys, PyData.eqvAll, eqDs]
  | _ :: _, [] => by simp [toPys, PyData.eqvAll, eqDs]
  | d :: ds, e :: es => by
    simp only [toPys, PyData.eqvAll, eqDs]
    rw [eqv_toPy d e, eqv_toPys ds es]
end

def mapO (f : Val → Option Dat) : List Val → Option (List Dat)
  | [] => some []
  | x :: xs => match f x, mapO f xs with
    | some d, some ds => some (d :: ds)
    | _, _ => none
def deep (g : Cfg) (M : Mem) : Nat → Val → Option Dat
  | _, .non => some .non
  | _, .bl b => some (.bl b)
  | _, .int i => some (.int i)
  | _, .str s => if s.all (· < 1114112) then some (.str s) else none
  | 0, _ => none
  | n + 1, v => match lstOf g M v with
    | some xs => (mapO (deep g M n) xs).map .lst
    | none => match tupOf g M v with
      | some xs => (mapO (deep g M n) xs).map .tup
      | none => none
mutual
def dep : Dat → Nat
  | .lst xs => deps xs + 1
  | .tup xs => deps xs + 1
  | _ => 0
def deps : List Dat → Nat
  | [] => 0
  | x :: xs => max (dep x) (deps xs)
end
mutual
theorem dep_py : ∀ d : Dat, PyData.depth (toPy d) = dep d
  | .non => by simp [toPy, PyData.depth, dep]
  | .bl _ => by simp [toPy, PyData.depth, dep]
  | .int _ => by simp [toPy, PyData.depth, dep]
  | .str _ => by simp [toPy, PyData.depth, dep]
  | .lst xs => by simp only [toPy, PyData.depth, dep]; rw [deps_py xs]
  | .tup xs => by simp only [toPy, PyData.depth, dep]; rw [deps_py xs]
theorem deps_py : ∀ ds : List Dat, PyData.depthAll (toPys ds) = deps ds
  | [] => by simp [toPys, PyData.depthAll, deps]
  | d :: ds => by simp only [toPys, PyData.depthAll, deps]; rw [dep_py d, deps_py ds]
end
/-- what `deep` tells -/
def DeepOk (g : Cfg) (K : PySem.W.Frag) (r : Nat → Addr) (H : Hp) (n : Nat) (v : Val) (d : Dat) : Prop := Dp K H (mv g r v) (toPy d) ∧ dep d ≤ n ∧ PyData.canLay0 (toPy d) = true
theorem mapO_ok {g : Cfg} {K : PySem.W.Frag} {r : Nat → Addr} {H : Hp} {n : Nat} {f : Val → Option Dat} : ∀ {xs : List Val} {ds : List Dat}, mapO f xs = some ds → (∀ v ∈ xs, ∀ d, f v = some d → DeepOk g K r H n v d) →
    DpAll K H (xs.map (mv g r)) (toPys ds) ∧ deps ds ≤ n ∧ PyData.canLayAll0 (toPys ds) = true
  | [], ds, e, _ => by
    cases e
    exact ⟨.nil, Nat.zero_le _, by simp [toPys, PyData.canLayAll0]⟩
  | x :: xs, ds, e, h => by
    simp only [mapO] at e
    split at e
    · rename_i d ds' h1 h2
      cases e
      obtain ⟨a, b, c⟩ := h x List.mem_cons_self d h1
      obtain ⟨a', b', c'⟩ := mapO_ok h2 fun v hv => h v (List.mem_cons_of_mem _ hv)
      refine ⟨.cons a a', ?_, ?_⟩
      · simp only [deps]; omega
      · simp only [toPys, PyData.canLayAll0, c, c', Bool.and_self]
    · cases e
theorem deep_ok {g : Cfg} {K : PySem.W.Frag} {r : Nat → Addr} {M : Mem} {H : Hp} (hK : ConOk g K) (R : Rel g r M H) : ∀ (n : Nat) (v : Val) (d : Dat), deep g M n v = some d → DeepOk g K r H n v d := by
  have flt : ∀ (n : Nat) (v : Val) (d : Dat), flat v = true → deep g M n v = some d → DeepOk g K r H n v d := by
    intro n v d hf e
    cases v with
    | non => simp only [deep] at e; cases e; exact ⟨.non, Nat.zero_le _, by simp [toPy, PyData.canLay0]⟩
    | bl b => simp only [deep] at e; cases e; exact ⟨.bl b, Nat.zero_le _, by simp [toPy, PyData.canLay0]⟩
    | int b => simp only [deep] at e; cases e; exact ⟨.int b, Nat.zero_le _, by simp [toPy, PyData.canLay0]⟩
    | str s =>
      simp only [deep] at e
      split at e
      · rename_i h
        cases e
        refine ⟨.str _, Nat.zero_le _, ?_⟩
        simp only [toPy, PyData.canLay0, PyData.strOk]
        simpa using h
      · cases e
    | ref _ => cases hf
    | con _ => cases hf
  intro n
  induction n with
  | zero =>
    intro v d e
    by_cases hf : flat v = true
    · exact flt 0 v d hf e
    · cases v <;> simp_all [deep, flat]
  | succ n ih =>
    intro v d e
    by_cases hf : flat v = true
    · exact flt _ v d hf e
    · have e' : (match lstOf g M v with
        | some xs => (mapO (deep g M n) xs).map Dat.lst
        | none => match tupOf g M v with
          | some xs => (mapO (deep g M n) xs).map Dat.tup
          | none => none) = some d := by
        cases v <;> simp_all [deep, flat]
      split at e'
      · rename_i xs hx
        obtain ⟨ds, h1, rfl⟩ := Option.map_eq_some_iff.mp e'
        obtain ⟨p, a, b, c⟩ := lstOf_ok (K := K) hK R hx
        obtain ⟨x1, x2, x3⟩ := mapO_ok h1 fun v _ d => ih v d
        refine ⟨?_, by simp only [dep]; omega, by simp only [toPy, PyData.canLay0]; exact x3⟩
        rw [a]
        exact .lst b x1
      · split at e'
        · rename_i xs hx
          obtain ⟨ds, h1, rfl⟩ := Option.map_eq_some_iff.mp e'
          obtain ⟨p, a, b, c⟩ := tupOf_ok (K := K) hK R hx
          obtain ⟨x1, x2, x3⟩ := mapO_ok h1 fun v _ d => ih v d
          refine ⟨?_, by simp only [dep]; omega, by simp only [toPy, PyData.canLay0]; exact x3⟩
          rw [a]
          exact .tup b x1
        · cases e'
theorem shaped_of {d : Dat} {n : Nat} (h : dep d ≤ n) (hn : n ≤ 60) (c : PyData.canLay0 (toPy d) = true) : SeqAt.shaped (toPy d) = true := by
  unfold SeqAt.shaped
  rw [c, Bool.true_and, dep_py]
  exact decide_eq_true (by omega)
def oEqD (g : Cfg) (neg : Bool) (x y : Val) (M : Mem) : R Val := match deep g M 60 x, deep g M 60 y with
  | some d, some e => .ok (.bl (if neg then !eqD d e else eqD d e)) M
  | _, _ => .no
def scalF : Val → Val → Bool
  | .bl _, .int _ => false
  | .int _, .bl _ => false
  | x, y => flat x && flat y
def oEq (g : Cfg) (x y : Val) (M : Mem) : R Val := if scalF x y = true then .ok (.bl (eqF x y)) M else oEqD g false x y M
def oNe (g : Cfg) (x y : Val) (M : Mem) : R Val := if scalF x y = true then .ok (.bl (!eqF x y)) M else oEqD g true x y M
theorem scal_ok {g : Cfg} {r : Nat → Addr} {x y : Val} (h : scalF x y = true) : scal (mv g r x) (mv g r y) = true ∧ decide (mv g r x = mv g r y) = eqF x y := by
  cases x <;> cases y <;> simp_all [scalF, flat, scal, mv, eqF]
  · rename_i a b
    rw [Bool.eq_iff_iff]; simp
  · rename_i a b
    rw [Bool.eq_iff_iff]; simp
  · rename_i a b
    rw [Bool.eq_iff_iff]; simp
theorem oEqD_s {g : Cfg} {K : PySem.W.Frag} {neg : Bool} (hK : ConOk g K) : OpS g (oEqD g neg) (fun x y H Q => ∃ d e, Dp K H x d ∧ Dp K H y e ∧ SeqAt.shaped d = true ∧ SeqAt.shaped e = true ∧ Q (.bl (if neg then !PyData.eqv d e else PyData.eqv d e)) H) := by
  intro r M H x y v M' Q R lx ly e k
  simp only [oEqD] at e
  split at e
  · rename_i d1 d2 h1 h2
    cases e
    obtain ⟨a1, a2, a3⟩ := deep_ok hK R 60 x d1 h1
    obtain ⟨b1, b2, b3⟩ := deep_ok hK R 60 y d2 h2
    refine ⟨_, _, a1, b1, shaped_of a2 (Nat.le_refl _) a3, shaped_of b2 (Nat.le_refl _) b3, ?_⟩
    rw [eqv_toPy]
    exact stay (v := .bl _) R trivial k
  · cases e
theorem oEq_s {g : Cfg} {K : PySem.W.Frag} (hK : ConOk g K) : OpS g (oEq g) (fun x y H Q => rEq x y H Q ∨ rEqD K x y H Q) := by
  intro r M H x y v M' Q R lx ly e k
  unfold oEq at e
  split at e
  · rename_i h
    cases e
    obtain ⟨h1, h2⟩ := scal_ok (g := g) (r := r) h
    refine .inl ⟨h1, ?_⟩
    rw [h2]
    exact stay (v := .bl _) R trivial k
  · refine .inr ?_
    obtain ⟨d, e', a, b, c, f, q⟩ := oEqD_s hK r M H x y v M' Q R lx ly e k
    exact ⟨d, e', a, b, c, f, q⟩
theorem oNe_s {g : Cfg} {K : PySem.W.Frag} (hK : ConOk g K) : OpS g (oNe g) (fun x y H Q => rNe x y H Q ∨ rNeD K x y H Q) := by
  intro r M H x y v M' Q R lx ly e k
  unfold oNe at e
  split at e
  · rename_i h
    cases e
    obtain ⟨h1, h2⟩ := scal_ok (g := g) (r := r) h
    refine .inl ⟨h1, ?_⟩
    rw [h2]
    exact stay (v := .bl _) R trivial k
  · refine .inr ?_
    obtain ⟨d, e', a, b, c, f, q⟩ := oEqD_s hK r M H x y v M' Q R lx ly e k
    exact ⟨d, e', a, b, c, f, q⟩
/-! order of ints -/
def oCmp (p : Int → Int → Bool) (x y : Val) (M : Mem) : R Val := match x, y with
  | .int i, .int j => .ok (.bl (p i j)) M
  | _, _ => .no
theorem oCmp_s {g : Cfg} {p : Int → Int → Bool} : OpS g (oCmp p) (rI0 fun i j => .bl (p i j)) := (int2 (C := fun _ _ => True) fun x y M v M' e => by
  cases x <;> cases y <;> simp only [oCmp] at e <;> cases e
  exact ⟨_, _, rfl, rfl, trivial, rfl, fun _ _ => rfl, fun _ => trivial⟩).imp fun _ _ _ _ => rI0_of
/-! is None -/
def oIs (neg : Bool) (x y : Val) (M : Mem) : R Val := match y with
  | .non => .ok (.bl (if neg then !decide (x = .non) else decide (x = .non))) M
  | _ => .no
theorem mv_non {g : Cfg} {r : Nat → Addr} {x : Val} : decide (mv g r x = V.non) = decide (x = .non) := by
  cases x <;> simp [mv]
theorem oIs_s {g : Cfg} : OpS g (oIs false) (fun x y H Q => y = .non ∧ Q (.bl (decide (x = .non))) H) := by
  intro r M H x y v M' Q R lx ly e k
  cases y <;> simp only [oIs] at e <;> try cases e
  refine ⟨rfl, ?_⟩
  rw [mv_non]
  exact stay (v := .bl _) R trivial k
theorem oIsN_s {g : Cfg} : OpS g (oIs true) (fun x y H Q => y = .non ∧ Q (.bl (!decide (x = .non))) H) := by
  intro r M H x y v M' Q R lx ly e k
  cases y <;> simp only [oIs] at e <;> try cases e
  refine ⟨rfl, ?_⟩
  rw [mv_non]
  exact stay (v := .bl _) R trivial k
/-! keys of dicts -/
def keyOf : Val → Option DKey
  | .int i => some (.inl i)
  | .str s => some (.inr s)
  | _ => none
def keysOf : List Val → Option (List DKey)
  | [] => some []
  | x :: xs => match keyOf x, keysOf xs with
    | some k, some ks => some (k :: ks)
    | _, _ => none
def lkp {κ : Type} [DecidableEq κ] (kvs : List (κ × Val)) (k : κ) : Option Val := match kvs with
  | [] => none
  | p :: r => if p.1 = k then some p.2 else lkp r k
def putk {κ : Type} [DecidableEq κ] (kvs : List (κ × Val)) (k : κ) (v : Val) : List (κ × Val) :=
  if (kvs.any fun p => decide (p.1 = k)) = true then kvs.map (fun p => if p.1 = k then (p.1, v) else p) else kvs ++ [(k, v)]
def dropk {κ : Type} [DecidableEq κ] (kvs : List (κ × Val)) (k : κ) : List (κ × Val) := kvs.filter fun p => decide (p.1 ≠ k)
theorem mk_inj {a b : DKey} (h : mk a = mk b) : a = b := by
  cases a with
  | inl i => cases b with
    | inl j => exact congrArg Sum.inl (Sum.inl.inj h)
    | inr t => cases h
  | inr s => cases b with
    | inl j => cases h
    | inr t => exact congrArg Sum.inr (SX.S_inj (Sum.inr.inj h))
theorem mks_inj : ∀ {a b : List DKey}, a.map mk = b.map mk → a = b
  | [], [], _ => rfl
  | [], _ :: _, h => by cases h
  | _ :: _, [], h => by cases h
  | x :: a, y :: b, h => by
    rw [List.map_cons, List.map_cons] at h
    injection h with h1 h2
    rw [mk_inj h1, mks_inj h2]
section
variable {κ μ : Type} [DecidableEq κ] [DecidableEq μ] {f : κ → μ} {h : Val → V} (hf : ∀ a b, f a = f b → a = b)
include hf
theorem valV_map (k : κ) : ∀ kvs : List (κ × Val), valV (kvs.map fun p => (f p.1, h p.2)) (f k) = (lkp kvs k).map h
  | [] => rfl
  | p :: r => by
    rw [List.map_cons]
    by_cases e : p.1 = k
    · rw [valV_pos (by rw [e])]
      simp only [lkp, e, if_true, Option.map_some]
    · rw [valV_neg (fun z => e (hf _ _ z)), valV_map k r]
      simp only [lkp, e, if_false]
theorem any_map (k : κ) (kvs : List (κ × Val)) : ((kvs.map fun p => (f p.1, h p.2)).any fun kv => decide (kv.1 = f k)) = kvs.any fun p => decide (p.1 = k) := by
  rw [List.any_map]
  congr 1
  funext p
  show decide (f p.1 = f k) = decide (p.1 = k)
  rw [decide_eq_decide]
  exact ⟨hf _ _, fun z => congrArg f z⟩
theorem putK_map (k : κ) (v : Val) (kvs : List (κ × Val)) : putK (kvs.map fun p => (f p.1, h p.2)) (f k) (h v) = (putk kvs k v).map fun p => (f p.1, h p.2) := by
  unfold putK putk
  rw [any_map hf]
  split
  · rw [List.map_map, List.map_map]
    apply List.map_congr_left
    intro p _
    show (if f p.1 = f k then (f p.1, h v) else (f p.1, h p.2)) = (fun q : κ × Val => (f q.1, h q.2)) (if p.1 = k then (p.1, v) else p)
    by_cases e : p.1 = k
    · rw [if_pos (congrArg f e), if_pos e]
    · rw [if_neg (fun z => e (hf _ _ z)), if_neg e]
  · rw [List.map_append]; rfl
theorem dropK_map (k : κ) (kvs : List (κ × Val)) : dropK (kvs.map fun p => (f p.1, h p.2)) (f k) = (dropk kvs k).map fun p => (f p.1, h p.2) := by
  unfold dropK dropk
  rw [List.filter_map]
  congr 1
  apply List.filter_congr
  intro p _
  show decide (¬ f p.1 = f k) = decide (¬ p.1 = k)
  rw [decide_eq_decide]
  exact ⟨fun z e => z (congrArg f e), fun z e => z (hf _ _ e)⟩
end
theorem lkp_mem {κ : Type} [DecidableEq κ] {k : κ} {v : Val} : ∀ {kvs : List (κ × Val)}, lkp kvs k = some v → ∃ p ∈ kvs, p.2 = v
  | [], h => by cases h
  | p :: r, h => by
    simp only [lkp] at h
    split at h
    · cases h; exact ⟨p, List.mem_cons_self, rfl⟩
    · obtain ⟨q, a, b⟩ := lkp_mem h
      exact ⟨q, List.mem_cons_of_mem _ a, b⟩
theorem putk_mem {κ : Type} [DecidableEq κ] {k : κ} {v : Val} {kvs : List (κ × Val)} {p : κ × Val} (h : p ∈ putk kvs k v) : p.2 = v ∨ p ∈ kvs := by
  unfold putk at h
  split at h
  · obtain ⟨q, hq, e⟩ := List.mem_map.mp h
    split at e
    · cases e; exact .inl rfl
    · cases e; exact .inr hq
  · rcases List.mem_append.mp h with h | h
    · exact .inr h
    · rw [List.mem_singleton] at h
      cases h; exact .inl rfl
theorem keyOf_ok {g : Cfg} {r : Nat → Addr} {v : Val} {k : DKey} (h : keyOf v = some k) : mv g r v = kV (mk k) := by
  cases v <;> simp only [keyOf] at h <;> cases h <;> rfl
theorem keysOf_ok {g : Cfg} {r : Nat → Addr} : ∀ {vs : List Val} {ks : List DKey}, keysOf vs = some ks → vs.map (mv g r) = (ks.map mk).map kV
  | [], ks, h => by cases h; rfl
  | v :: vs, ks, h => by
    simp only [keysOf] at h
    split at h
    · rename_i k ks' h1 h2
      cases h
      rw [List.map_cons, List.map_cons, List.map_cons, keyOf_ok h1, keysOf_ok h2]
    · cases h
/-- a dict that is read: its entries by plain keys | by keys that are tuples -/
def dkOf (M : Mem) (a : Nat) : Option (List (DKey × Val)) := match M[a]? with
  | some (.dk kvs) => some kvs
  | some (.fz (.dk kvs)) => some kvs
  | _ => none
def dtOf (M : Mem) (a : Nat) : Option (List (List DKey × Val)) := match M[a]? with
  | some (.dt kvs) => some kvs
  | some (.fz (.dt kvs)) => some kvs
  | _ => none
def tkeyOf (M : Mem) : Val → Option (List DKey)
  | .ref b => match M[b]? with
    | some (.tup ks) => keysOf ks
    | _ => none
  | _ => none
/-- what a dict holds at a key -/
def dgo (M : Mem) (d k : Val) : Option (Option Val) := match d with
  | .ref a => match dkOf M a with
    | some kvs => (keyOf k).map (lkp kvs)
    | none => match dtOf M a with
      | some kvs => (tkeyOf M k).map (lkp kvs)
      | none => none
  | _ => none
section
variable {g : Cfg} {r : Nat → Addr} {M : Mem} {H : Hp}
theorem dkOf_ok {a : Nat} {kvs : List (DKey × Val)} (R : Rel g r M H) (e : dkOf M a = some kvs) : Rd H (r a) (.dK (kvs.map (mkv g r))) ∧ ∀ p ∈ kvs, p.2.lt M.length := by
  unfold dkOf at e
  cases hm : M[a]? with
  | none => rw [hm] at e; cases e
  | some o =>
    rw [hm] at e
    obtain ⟨u, hu, x⟩ := R.obj a o hm
    have wf := R.wf a o hm
    cases o with
    | dk ys => cases e; cases x; exact ⟨.inl hu, wf⟩
    | fz o =>
      cases o with
      | dk ys =>
        cases e
        cases x with
        | fz x => cases x; exact ⟨.inr ⟨_, hu⟩, wf⟩
      | _ => cases e
    | _ => cases e
theorem dtOf_ok {a : Nat} {kvs : List (List DKey × Val)} (R : Rel g r M H) (e : dtOf M a = some kvs) : Rd H (r a) (.dT (kvs.map (mkt g r))) ∧ ∀ p ∈ kvs, p.2.lt M.length := by
  unfold dtOf at e
  cases hm : M[a]? with
  | none => rw [hm] at e; cases e
  | some o =>
    rw [hm] at e
    obtain ⟨u, hu, x⟩ := R.obj a o hm
    have wf := R.wf a o hm
    cases o with
    | dt ys => cases e; cases x; exact ⟨.inl hu, wf⟩
    | fz o =>
      cases o with
      | dt ys =>
        cases e
        cases x with
        | fz x => cases x; exact ⟨.inr ⟨_, hu⟩, wf⟩
      | _ => cases e
    | _ => cases e
theorem tkeyOf_ok {v : Val} {k : List DKey} (R : Rel g r M H) (e : tkeyOf M v = some k) : ∃ b, mv g r v = .ref b ∧ H b = some (.tup ((k.map mk).map kV)) := by
  cases v with
  | ref b =>
    simp only [tkeyOf] at e
    cases hm : M[b]? with
    | none => rw [hm] at e; cases e
    | some o =>
      rw [hm] at e
      cases o with
      | tup ks =>
        have := tup_at R hm
        rw [keysOf_ok (g := g) (r := r) e] at this
        exact ⟨_, rfl, this⟩
      | _ => cases e
  | _ => cases e
theorem dgo_ok {d k : Val} {o : Option Val} (R : Rel g r M H) (e : dgo M d k = some o) : ∃ p, mv g r d = .ref p ∧ DGet H p (mv g r k) (o.map (mv g r)) ∧ ∀ v, o = some v → v.lt M.length := by
  cases d with
  | ref a =>
    simp only [dgo] at e
    cases h1 : dkOf M a with
    | some kvs =>
      rw [h1] at e
      obtain ⟨key, hk, rfl⟩ := Option.map_eq_some_iff.mp e
      obtain ⟨rd, wf⟩ := dkOf_ok R h1
      refine ⟨_, rfl, .inl ⟨_, mk key, rd, keyOf_ok hk, ?_⟩, fun v hv => ?_⟩
      · exact (valV_map (f := mk) (h := mv g r) (fun _ _ => mk_inj) key kvs).symm
      · obtain ⟨p, hp, rfl⟩ := lkp_mem hv
        exact wf p hp
    | none =>
      rw [h1] at e
      cases h2 : dtOf M a with
      | none => rw [h2] at e; cases e
      | some kvs =>
        rw [h2] at e
        obtain ⟨key, hk, rfl⟩ := Option.map_eq_some_iff.mp e
        obtain ⟨rd, wf⟩ := dtOf_ok R h2
        obtain ⟨b, hb, ht⟩ := tkeyOf_ok R hk
        refine ⟨_, rfl, .inr ⟨_, key.map mk, b, rd, hb, ht, ?_⟩, fun v hv => ?_⟩
        · exact (valV_map (f := fun k : List DKey => k.map mk) (h := mv g r) (fun _ _ => mks_inj) key kvs).symm
        · obtain ⟨p, hp, rfl⟩ := lkp_mem hv
          exact wf p hp
  | _ => cases e
/-! ### a[b] -/
def sIx (s : List Nat) (y : Val) (M : Mem) : R Val := match y with
  | .int i => if s.length ≤ 1000000 then (match atI s i with
    | some c => .ok (.str [c]) M
    | none => .no) else .no
  | _ => .no
def qIx (g : Cfg) (x y : Val) (M : Mem) : R Val := match seqOf g M x with
  | some xs => (match y with
    | .int i => R.of (atI xs i) M
    | _ => .no)
  | none => (match dgo M x y with
    | some (some v) => .ok v M
    | _ => .no)
def oIx (g : Cfg) (x y : Val) (M : Mem) : R Val := match x with
  | .str s => sIx s y M
  | _ => qIx g x y M
def rIxA (K : PySem.W.Frag) : R2 := fun x y H Q => rIx K x y H Q ∨ ∃ a v, x = .ref a ∧ DGet H a y (some v) ∧ Q v H
theorem qIx_s {K : PySem.W.Frag} (hK : ConOk g K) : OpS g (qIx g) (rIxA K) := by
  intro r M H x y v M' Q R lx ly e k
  unfold qIx at e
  split at e
  · rename_i xs hs
    obtain ⟨p, hp, hq, wf⟩ := seqOf_ok (K := K) hK R hs
    split at e
    · rename_i i
      obtain ⟨hw, rfl⟩ := Pa.R.of_eq e
      have ha : atI (xs.map (mv g r)) i = some (mv g r v) := by rw [atI_map, hw]; rfl
      have q := stay R (wf v (atI_mem hw)) k
      rw [hp]
      rcases hq with hq | hq
      · exact .inl (.inl ⟨p, _, i, _, rfl, rfl, hq, ha, q⟩)
      · exact .inl (.inr (.inl ⟨p, _, i, _, rfl, rfl, hq, ha, q⟩))
    · cases e
  · split at e
    · rename_i w hw
      cases e
      obtain ⟨p, hp, hg, wf⟩ := dgo_ok R hw
      exact .inr ⟨p, _, hp, hg, stay R (wf v rfl) k⟩
    · cases e
theorem oIx_s {K : PySem.W.Frag} (hK : ConOk g K) : OpS g (oIx g) (rIxA K) := by
  intro r M H x y v M' Q R lx ly e k
  cases x with
  | str s =>
    simp only [oIx, sIx] at e
    split at e
    · rename_i i
      split at e
      · rename_i hl
        split at e
        · rename_i c hc
          cases e
          refine .inl (.inr (.inr ⟨S s, i, c, rfl, rfl, ?_, ?_, ?_⟩))
          · rw [SX.S_len]; exact line6 hl
          · exact hc
          · exact stay (v := .str [c]) R trivial k
        · cases e
      · cases e
    · cases e
  | _ => exact qIx_s hK r M H _ y v M' Q R lx ly e k
theorem ix_all {X : Cx} (hu : X.A.units + 1 < cLine) : IxR X (rIxA X.K) := by
  refine ix_seq.or ?_
  intro value slice pins s σ H x y v u Q I rx ry h hs
  obtain ⟨a, w, rfl, hg, q⟩ := h
  cases rx
  exact tail_any (dict_typeIs I hg) PySem.F.slot_dict_getitem.lookup (d_getItem hu I hg ry fun w' s3 I3 rw' => ⟨w, H, I3, rw', q⟩) hs
end
end Pa

/-! Expressions. -/
namespace Pa
open PySem PySem.Spec
open PyProof.Rows L2
open SX (S)
variable {g : Cfg} {X : Cx}
/-! ### names, constants -/
def dV (i : Nat) : D := fun L M => match L[i]? with
  | some (some v) => .ok v M
  | _ => .no
def dC (v : Val) : D := fun _ M => .ok v M
theorem se_v {i : Nat} {x : Str} {pos : Pos} (hN : X.N[i]? = some x := by rfl) (hv : Vis X.env.scope x := by first | exact Or.inl rfl | exact Or.inr (Or.inl rfl) | exact Or.inr (Or.inr rfl)) (hd : (x == ("__debug__" : Str)) = false := by decide)
    (hcd : (x == ("__classdict__" : Str)) = false := by decide) : SE g X (.Name x pos) (dV i) := by
  refine pe_imp (pe_var hN hv hd hcd) fun σ H Q ⟨r, L, M, v, M', A, e, k⟩ => ?_
  simp only [dV] at e
  split at e
  · rename_i w hw
    cases e
    refine ⟨mv g r v, by rw [A.sl]; exact mS_get hw, ?_⟩
    exact k r H Nxt.refl A.rel (A.lok.get hw)
  · cases e
theorem se_c {e : Expr} {v : Val} {w : V} (h : PE X e (tC w)) (hv : ∀ r, mv g r v = w) (hl : ∀ n, v.lt n) : SE g X e (dC v) :=
  pe_imp h fun σ H Q ⟨r, L, M, v', M', A, e, k⟩ => by
    cases e
    show Q w H
    rw [← hv r]
    exact k r H Nxt.refl A.rel (hl _)
theorem se_int {i j pos} : SE g X (.Constant (.int i) j pos) (dC (.int i)) := se_c pe_int (fun _ => rfl) fun _ => trivial
theorem se_bl {b j pos} : SE g X (.Constant (.bool b) j pos) (dC (.bl b)) := se_c pe_bl (fun _ => rfl) fun _ => trivial
theorem se_non {j pos} : SE g X (.Constant .none j pos) (dC .non) := se_c pe_non (fun _ => rfl) fun _ => trivial
theorem se_str {x : Str} {s : List Nat} {j pos} (h : S s = x) : SE g X (.Constant (.str x) j pos) (dC (.str s)) := se_c pe_str (fun _ => congrArg V.str h) fun _ => trivial
/-- a constant of the module -/
structure GloC (g : Cfg) (X : Cx) (x : Str) (v : Val) : Prop where
  ex : ∃ u, X.mg x = some u ∧ ∀ r, RelV (mv g r v) u
  noref : ∀ n, v.lt n
theorem se_g {x : Str} {v : Val} {pos : Pos} (h : GloC g X x v) (hg : Gl X x := by rfl) (hd : (x == ("__debug__" : Str)) = false := by decide) : SE g X (.Name x pos) (dC v) := by
  obtain ⟨u, h1, h2⟩ := h.ex
  have hw : ∀ r, mv g r v = mv g (fun i => i) v := fun r => by
    cases v with
    | ref i => exact absurd (h.noref 0) (Nat.not_lt_zero i)
    | _ => rfl
  exact se_c (w := mv g (fun i => i) v) (pe_glob hg h1 (h2 _) hd) hw h.noref
/-! ### two-place operations -/
def dB (f : Val → Val → Mem → R Val) (a b : D) : D := fun L M => (a L M).bind fun x M1 => (b L M1).bind fun y M2 => f x y M2
theorem go2 {r2 : R2} {f : Val → Val → Mem → R Val} {da db : D} (hs : OpS g f r2) {σ : L2.St} {H : Hp} {Q : VK} (h : tD g (dB f da db) σ H Q) : tOp r2 (tD g da) (tD g db) σ H Q := by
  obtain ⟨r, L, M, v, M', A, e, k⟩ := h
  obtain ⟨x, M1, e1, e⟩ := R.bind_eq e
  obtain ⟨y, M2, e2, e⟩ := R.bind_eq e
  refine tD_go A e1 fun r1 H1 n1 A1 l1 => tD_go A1 e2 fun r2' H2 n2 A2 l2 => ?_
  rw [← n2.mv l1]
  exact hs r2' M2 H2 x y v M' Q A2.rel (l1.mono n2.le) l2 e fun r3 H3 n3 R3 l3 => k r3 H3 ((n1.trans n2).trans n3) R3 l3
theorem se_op {op : Operator} {r2 : R2} {f : Val → Val → Mem → R Val} {a b : Expr} {da db : D} {pos : Pos} (ho : OpR X (binaryOp op) r2) (hs : OpS g f r2) (ha : SE g X a da) (hb : SE g X b db) : SE g X (.BinOp a op b pos) (dB f da db) :=
  pe_imp (pe_op ho ha hb) fun _ _ _ h => go2 hs h
section
variable {a b : Expr} {da db : D} {pos : Pos}
theorem se_add (ha : SE g X a da) (hb : SE g X b db) : SE g X (.BinOp a .Add b pos) (dB oAdd da db) := se_op (op_add.or (op_add_str.or op_cat)) oAdd_s ha hb
theorem se_sub (ha : SE g X a da) (hb : SE g X b db) : SE g X (.BinOp a .Sub b pos) (dB oSub da db) := se_op op_sub oSub_s ha hb
theorem se_mul (ha : SE g X a da) (hb : SE g X b db) : SE g X (.BinOp a .Mult b pos) (dB iMul da db) := se_op op_mul iMul_s ha hb
theorem se_div (ha : SE g X a da) (hb : SE g X b db) : SE g X (.BinOp a .FloorDiv b pos) (dB oDiv da db) := se_op op_fdivW oDiv_s ha hb
theorem se_mod (ha : SE g X a da) (hb : SE g X b db) : SE g X (.BinOp a .Mod b pos) (dB oMod da db) := se_op op_mod oMod_s ha hb
theorem se_pow (ha : SE g X a da) (hb : SE g X b db) : SE g X (.BinOp a .Pow b pos) (dB oPow da db) := se_op op_pow oPow_s ha hb
theorem se_shl (ha : SE g X a da) (hb : SE g X b db) : SE g X (.BinOp a .LShift b pos) (dB oShl da db) := se_op op_shl oShl_s ha hb
theorem se_shr (ha : SE g X a da) (hb : SE g X b db) : SE g X (.BinOp a .RShift b pos) (dB oShr da db) := se_op op_shr oShr_s ha hb
theorem se_band (ha : SE g X a da) (hb : SE g X b db) : SE g X (.BinOp a .BitAnd b pos) (dB oAnd da db) := se_op op_and oAnd_s ha hb
theorem se_bor (ha : SE g X a da) (hb : SE g X b db) : SE g X (.BinOp a .BitOr b pos) (dB oOr da db) := se_op op_or oOr_s ha hb
/-! ### -x -/
def dNeg (a : D) : D := fun L M => (a L M).bind fun x M1 => match x with
  | .int i => .ok (.int (-i)) M1
  | _ => .no
theorem se_neg (ha : SE g X a da) : SE g X (.UnaryOp .USub a pos) (dNeg da) :=
  pe_imp (pe_un un_neg ha) fun σ H Q ⟨r, L, M, v, M', A, e, k⟩ => by
    obtain ⟨x, M1, e1, e⟩ := R.bind_eq e
    refine tD_go A e1 fun r1 H1 n1 A1 l1 => ?_
    split at e
    · cases e
      exact ⟨_, rfl, k r1 H1 n1 A1.rel trivial⟩
    · cases e
/-! ### comparisons -/
theorem se_cmp {op : CmpOp} {r2 : R2} {f : Val → Val → Mem → R Val} (ho : OpR X (compareOp op) r2) (hs : OpS g f r2) (ha : SE g X a da) (hb : SE g X b db) (hm : behindInMarks op b = false) : SE g X (.Compare a [op] [b] pos) (dB f da db) :=
  pe_imp (pe_cmpR ho ha hb hm) fun _ _ _ h => go2 hs h
theorem st_of {d : D} {t : TE} {e : Expr} (h : PT X e (tTest t)) (k : ∀ σ H Q, tD g d σ H Q → t σ H Q) : ST g X e d :=
  pt_imp h fun σ H Q ⟨r, L, M, b, M', A, e, q⟩ => k _ _ _ ⟨r, L, M, .bl b, M', A, e, fun r' H' n R _ => ⟨b, rfl, q r' H' n R⟩⟩
theorem st_cmp {op : CmpOp} {r2 : R2} {f : Val → Val → Mem → R Val} (ho : OpR X (compareOp op) r2) (hs : OpS g f r2) (ha : SE g X a da) (hb : SE g X b db) (hm : behindInMarks op b = false) : ST g X (.Compare a [op] [b] pos) (dB f da db) :=
  st_of (pt_cmpR ho ha hb hm) fun _ _ _ h => go2 hs h
/-- any expression whose value is a bool -/
theorem st_e {e : Expr} {d : D} (h : SE g X e d) (he : ∀ whole, isTrue e X.env whole = (do let v ← whole; standAt e.pos; holding [v] (truthy v)) := by intro _; rfl) : ST g X e d :=
  pt_imp (pt_val h he) fun σ H Q ⟨r, L, M, b, M', A, e, q⟩ => ⟨r, L, M, .bl b, M', A, e, fun r' H' n R _ => ⟨b, rfl, q r' H' n R⟩⟩
/-- the same, by truth of any value -/
def truOf (M : Mem) : Val → Option Bool
  | .non => some false
  | .bl b => some b
  | .int i => some (i != 0)
  | .str s => if s.length ≤ 1000000 then some (!s.isEmpty) else none
  | .ref a => match M[a]? with
    | some (.lst xs) => some (!xs.isEmpty)
    | _ => none
  | _ => none
def dTru (d : D) : D := fun L M => (d L M).bind fun v M1 => match truOf M1 v with
  | some b => .ok (.bl b) M1
  | none => .no
theorem st_tru {e : Expr} {d : D} (h : SE g X e d) (he : ∀ whole, isTrue e X.env whole = (do let v ← whole; standAt e.pos; holding [v] (truthy v)) := by intro _; rfl) : ST g X e (dTru d) :=
  pt_imp (pt_truth h he) fun σ H Q ⟨r, L, M, b, M', A, e, q⟩ => by
    obtain ⟨v, M1, e1, e⟩ := R.bind_eq e
    refine tD_go A e1 fun r1 H1 n1 A1 l1 => ?_
    split at e
    · rename_i b' hb
      cases e
      refine ⟨b, ?_, q r1 H1 n1 A1.rel⟩
      cases v with
      | non => cases hb; rfl
      | bl c => cases hb; rfl
      | int c => cases hb; rfl
      | str s =>
        simp only [truOf] at hb
        split at hb
        · rename_i hl
          cases hb
          refine ⟨by rw [SX.S_len]; exact line6 hl, ?_⟩
          rw [SX.S_len]
          cases s with
          | nil => rfl
          | cons c s =>
            show true = (((s.length + 1 : Nat) : Int) != 0)
            have : (((s.length + 1 : Nat) : Int) != 0) = true := by
              rw [bne_iff_ne]; omega
            exact this.symm
        · cases hb
      | ref a =>
        simp only [truOf] at hb
        split at hb
        · rename_i xs hm
          cases hb
          exact .inl ⟨_, .inl (.inl (lst_at A1.rel hm)), by cases xs <;> rfl⟩
        · cases hb
      | con k => cases hb
    · cases e
/-! ### in -/
def lIn (g : Cfg) (neg : Bool) (x y : Val) (M : Mem) : R Val := match seqOf g M y with
  | some xs => if flat x = true ∧ xs.all flat = true then .ok (.bl (if neg then !(xs.any fun z => eqF z x) else xs.any fun z => eqF z x)) M else .no
  | none => (match dgo M y x with
    | some o => .ok (.bl (if neg then !o.isSome else o.isSome)) M
    | none => .no)
def sIn (neg : Bool) (x : Val) (s : List Nat) (M : Mem) : R Val := match x with
  | .str [c] => .ok (.bl (if neg then !decide (c ∈ s) else decide (c ∈ s))) M
  | _ => .no
def oIn (g : Cfg) (neg : Bool) (x y : Val) (M : Mem) : R Val := match y with
  | .str s => sIn neg x s M
  | _ => lIn g neg x y M
theorem flat_mv {r : Nat → Addr} {x : Val} (h : flat x = true) : flatV (mv g r x) = true := by
  cases x <;> simp_all [flat, mv, flatV]
theorem eqF_mv {r : Nat → Addr} {x y : Val} (h1 : flat x = true) (h2 : flat y = true) : eqV (mv g r x) (mv g r y) = eqF x y := by
  cases x <;> cases y <;> simp_all [flat, mv, eqV, eqF]
  exact SX.S_beq _ _
theorem any_mv {r : Nat → Addr} {x : Val} (h : flat x = true) : ∀ {xs : List Val}, xs.all flat = true → inV (mv g r x) (xs.map (mv g r)) = xs.any fun z => eqF z x
  | [], _ => rfl
  | y :: xs, hx => by
    rw [List.all_cons, Bool.and_eq_true] at hx
    have ih := any_mv (r := r) h hx.2
    unfold inV at ih ⊢
    rw [List.map_cons, List.any_cons, List.any_cons, eqF_mv hx.1 h, ih]
theorem all_mv {r : Nat → Addr} : ∀ {xs : List Val}, xs.all flat = true → (xs.map (mv g r)).all flatV = true
  | [], _ => rfl
  | y :: xs, hx => by
    rw [List.all_cons, Bool.and_eq_true] at hx
    rw [List.map_cons, List.all_cons, flat_mv hx.1, all_mv hx.2]
    rfl
def rInA (K : PySem.W.Frag) (neg : Bool) : R2 := fun x y H Q => rIn K neg x y H Q ∨ ((∃ (c : Nat) (z : Str), x = .str ⟨#[c]⟩ ∧ y = .str z ∧ Q (.bl (if neg then !decide (c ∈ z.cps.toList) else decide (c ∈ z.cps.toList))) H) ∨
  ∃ a o, y = .ref a ∧ DGet H a x o ∧ Q (.bl (if neg then !o.isSome else o.isSome)) H)
theorem oIn_s {neg : Bool} {K : PySem.W.Frag} (hK : ConOk g K) : OpS g (oIn g neg) (rInA K neg) := by
  intro r M H x y v M' Q R lx ly e k
  have lists : lIn g neg x y M = .ok v M' → rInA K neg (mv g r x) (mv g r y) H Q := fun e => by
    unfold lIn at e
    split at e
    · rename_i xs hs
      split at e
      · rename_i hf
        cases e
        obtain ⟨p, hp, hq, wf⟩ := seqOf_ok (K := K) hK R hs
        refine .inl ⟨p, _, hp, hq, flat_mv hf.1, all_mv hf.2, ?_⟩
        rw [any_mv hf.1 hf.2]
        exact stay (v := .bl _) R trivial k
      · cases e
    · split at e
      · rename_i o ho
        cases e
        obtain ⟨p, hp, hg, wf⟩ := dgo_ok R ho
        refine .inr (.inr ⟨p, _, hp, hg, ?_⟩)
        rw [Option.isSome_map]
        exact stay (v := .bl _) R trivial k
      · cases e
  cases y with
  | str s =>
    simp only [oIn, sIn] at e
    split at e
    · rename_i c
      cases e
      refine .inr (.inl ⟨c, S s, rfl, rfl, ?_⟩)
      exact stay (v := .bl _) R trivial k
    · cases e
  | _ => exact lists e
theorem op_inA (hu : X.A.units + 1 < cLine) : OpR X (compareOp .In) (rInA X.K false) := op_in_seq.or (op_in_sign.or (by
  intro pins s σ H x y v u Q I rx ry h
  obtain ⟨a, o, rfl, hg, q⟩ := h
  cases ry
  exact d_in hu I hg rx fun s' I' => ⟨.bl _, H, I', rfl, q⟩))
theorem op_notInA (hu : X.A.units + 1 < cLine) : OpR X (compareOp .NotIn) (rInA X.K true) := op_notIn_seq.or (op_notIn_sign.or (by
  intro pins s σ H x y v u Q I rx ry h
  obtain ⟨a, o, rfl, hg, q⟩ := h
  cases ry
  exact d_notIn hu I hg rx fun s' I' => ⟨.bl _, H, I', rfl, q⟩))
/-- what holds of every body: room, the written constants -/
structure Good (g : Cfg) (X : Cx) : Prop where
  con : ConOk g X.K
  un : X.A.units + 64 < cLine
  calm : X.calm = true
  nd : X.N.Nodup
variable (G : Good g X)
include G
theorem Good.u1 : X.A.units + 1 < cLine := Nat.lt_of_le_of_lt (Nat.add_le_add_left (by decide : 1 ≤ 64) _) G.un
theorem se_eq (ha : SE g X a da) (hb : SE g X b db) : SE g X (.Compare a [.Eq] [b] pos) (dB (oEq g) da db) := se_cmp (op_eq.or (op_eqD G.un)) (oEq_s G.con) ha hb (nomark _)
theorem se_ne (ha : SE g X a da) (hb : SE g X b db) : SE g X (.Compare a [.NotEq] [b] pos) (dB (oNe g) da db) := se_cmp (op_ne.or (op_neD G.un)) (oNe_s G.con) ha hb (nomark _)
theorem st_eq (ha : SE g X a da) (hb : SE g X b db) : ST g X (.Compare a [.Eq] [b] pos) (dB (oEq g) da db) := st_cmp (op_eq.or (op_eqD G.un)) (oEq_s G.con) ha hb (nomark _)
theorem st_ne (ha : SE g X a da) (hb : SE g X b db) : ST g X (.Compare a [.NotEq] [b] pos) (dB (oNe g) da db) := st_cmp (op_ne.or (op_neD G.un)) (oNe_s G.con) ha hb (nomark _)
theorem se_in (ha : SE g X a da) (hb : SE g X b db) (hm : behindInMarks .In b = false := by with_unfolding_all rfl) : SE g X (.Compare a [.In] [b] pos) (dB (oIn g false) da db) := se_cmp (op_inA G.u1) (oIn_s G.con) ha hb hm
theorem st_in (ha : SE g X a da) (hb : SE g X b db) (hm : behindInMarks .In b = false := by with_unfolding_all rfl) : ST g X (.Compare a [.In] [b] pos) (dB (oIn g false) da db) := st_cmp (op_inA G.u1) (oIn_s G.con) ha hb hm
theorem se_nin (ha : SE g X a da) (hb : SE g X b db) (hm : behindInMarks .NotIn b = false := by with_unfolding_all rfl) : SE g X (.Compare a [.NotIn] [b] pos) (dB (oIn g true) da db) := se_cmp (op_notInA G.u1) (oIn_s G.con) ha hb hm
theorem st_nin (ha : SE g X a da) (hb : SE g X b db) (hm : behindInMarks .NotIn b = false := by with_unfolding_all rfl) : ST g X (.Compare a [.NotIn] [b] pos) (dB (oIn g true) da db) := st_cmp (op_notInA G.u1) (oIn_s G.con) ha hb hm
/-- a[b] -/
theorem se_ix (ha : SE g X a da) (hb : SE g X b db) (hs : PlainIx b := by exact fun _ _ => rfl) : SE g X (.Subscript a b pos) (dB (oIx g) da db) :=
  pe_imp (pe_ix (ix_all G.u1) ha hb hs) fun _ _ _ h => go2 (oIx_s G.con) h
omit G
abbrev cLt : Val → Val → Mem → R Val := oCmp fun i j => decide (i < j)
abbrev cLe : Val → Val → Mem → R Val := oCmp fun i j => decide (i ≤ j)
abbrev cGt : Val → Val → Mem → R Val := oCmp fun i j => decide (j < i)
abbrev cGe : Val → Val → Mem → R Val := oCmp fun i j => decide (j ≤ i)
theorem se_lt (ha : SE g X a da) (hb : SE g X b db) : SE g X (.Compare a [.Lt] [b] pos) (dB cLt da db) := se_cmp op_lt oCmp_s ha hb (nomark _)
theorem se_le (ha : SE g X a da) (hb : SE g X b db) : SE g X (.Compare a [.LtE] [b] pos) (dB cLe da db) := se_cmp op_le oCmp_s ha hb (nomark _)
theorem se_gt (ha : SE g X a da) (hb : SE g X b db) : SE g X (.Compare a [.Gt] [b] pos) (dB cGt da db) := se_cmp op_gt oCmp_s ha hb (nomark _)
theorem se_ge (ha : SE g X a da) (hb : SE g X b db) : SE g X (.Compare a [.GtE] [b] pos) (dB cGe da db) := se_cmp op_ge oCmp_s ha hb (nomark _)
theorem st_lt (ha : SE g X a da) (hb : SE g X b db) : ST g X (.Compare a [.Lt] [b] pos) (dB cLt da db) := st_cmp op_lt oCmp_s ha hb (nomark _)
theorem st_le (ha : SE g X a da) (hb : SE g X b db) : ST g X (.Compare a [.LtE] [b] pos) (dB cLe da db) := st_cmp op_le oCmp_s ha hb (nomark _)
theorem st_gt (ha : SE g X a da) (hb : SE g X b db) : ST g X (.Compare a [.Gt] [b] pos) (dB cGt da db) := st_cmp op_gt oCmp_s ha hb (nomark _)
theorem st_ge (ha : SE g X a da) (hb : SE g X b db) : ST g X (.Compare a [.GtE] [b] pos) (dB cGe da db) := st_cmp op_ge oCmp_s ha hb (nomark _)
theorem se_is (ha : SE g X a da) (hb : SE g X b db) : SE g X (.Compare a [.Is] [b] pos) (dB (oIs false) da db) := se_cmp op_isN oIs_s ha hb (nomark _)
theorem se_isn (ha : SE g X a da) (hb : SE g X b db) : SE g X (.Compare a [.IsNot] [b] pos) (dB (oIs true) da db) := se_cmp op_notN oIsN_s ha hb (nomark _)
theorem st_is (ha : SE g X a da) (hb : SE g X b db) : ST g X (.Compare a [.Is] [b] pos) (dB (oIs false) da db) := st_cmp op_isN oIs_s ha hb (nomark _)
theorem st_isn (ha : SE g X a da) (hb : SE g X b db) : ST g X (.Compare a [.IsNot] [b] pos) (dB (oIs true) da db) := st_cmp op_notN oIsN_s ha hb (nomark _)
/-! ### a < b <= c -/
def dCh (f f' : Val → Val → Mem → R Val) (a b c : D) : D := fun L M => (a L M).bind fun x M1 => (b L M1).bind fun y M2 => (f x y M2).bind fun z M3 => match z with
  | .bl true => (c L M3).bind fun w M4 => f' y w M4
  | .bl false => .ok (.bl false) M3
  | _ => .no
variable {c : Expr} {dc : D}
theorem go3 {r2 r2' : R2} {f f' : Val → Val → Mem → R Val} (hs : OpS g f r2) (hs' : OpS g f' r2') {σ : L2.St} {H : Hp} {Q : VK} (h : tD g (dCh f f' da db dc) σ H Q) : tChain r2 r2' (tD g da) (tD g db) (tD g dc) σ H Q := by
  obtain ⟨r, L, M, v, M', A, e, k⟩ := h
  obtain ⟨x, M1, e1, e⟩ := R.bind_eq e
  obtain ⟨y, M2, e2, e⟩ := R.bind_eq e
  obtain ⟨z, M3, e3, e⟩ := R.bind_eq e
  refine tD_go A e1 fun r1 H1 n1 A1 l1 => tD_go A1 e2 fun r2' H2 n2 A2 l2 => ?_
  rw [← n2.mv l1]
  refine hs r2' M2 H2 x y z M3 _ A2.rel (l1.mono n2.le) l2 e3 fun r3 H3 n3 R3 l3 => ?_
  have A3 := A2.next n3 R3
  split at e
  · refine ⟨true, rfl, iteT ?_⟩
    obtain ⟨w, M4, e4, e⟩ := R.bind_eq e
    refine tD_go A3 e4 fun r4 H4 n4 A4 l4 => ?_
    rw [← (n3.trans n4).mv l2]
    exact hs' r4 M4 H4 y w v M' Q A4.rel (l2.mono (n3.trans n4).le) l4 e fun r5 H5 n5 R5 l5 => k r5 H5 ((((n1.trans n2).trans n3).trans n4).trans n5) R5 l5
  · cases e
    exact ⟨false, rfl, iteF (k r3 H3 ((n1.trans n2).trans n3) R3 trivial)⟩
  · cases e
theorem se_ch {op op' : CmpOp} {r2 r2' : R2} {f f' : Val → Val → Mem → R Val} (ho : OpR X (compareOp op) r2) (ho' : OpR X (compareOp op') r2') (hs : OpS g f r2) (hs' : OpS g f' r2') (ha : SE g X a da) (hb : SE g X b db) (hc : SE g X c dc)
    (hm : lastMarks [op, op'] [b, c] = false := by with_unfolding_all rfl) : SE g X (.Compare a [op, op'] [b, c] pos) (dCh f f' da db dc) :=
  pe_imp (pe_chain ho ho' ha hb hc hm) fun _ _ _ h => go3 hs hs' h
theorem st_ch {op op' : CmpOp} {r2 r2' : R2} {f f' : Val → Val → Mem → R Val} (ho : OpR X (compareOp op) r2) (ho' : OpR X (compareOp op') r2') (hs : OpS g f r2) (hs' : OpS g f' r2') (ha : SE g X a da) (hb : SE g X b db) (hc : SE g X c dc)
    (hm : lastMarks [op, op'] [b, c] = false := by with_unfolding_all rfl) : ST g X (.Compare a [op, op'] [b, c] pos) (dCh f f' da db dc) :=
  st_of (pt_chain ho ho' ha hb hc hm) fun _ _ _ h => go3 hs hs' h
/-! ### and, or, not, if else -/
def dAnd (a b : D) : D := fun L M => (a L M).bind fun x M1 => match x with
  | .bl true => b L M1
  | .bl false => .ok (.bl false) M1
  | _ => .no
def dOr (a b : D) : D := fun L M => (a L M).bind fun x M1 => match x with
  | .bl true => .ok (.bl true) M1
  | .bl false => b L M1
  | _ => .no
def dNot (a : D) : D := fun L M => (a L M).bind fun x M1 => match x with
  | .bl k => .ok (.bl (!k)) M1
  | _ => .no
def dIf (c a b : D) : D := fun L M => (c L M).bind fun x M1 => match x with
  | .bl true => a L M1
  | .bl false => b L M1
  | _ => .no
variable {rest : List Expr} {tA tB' : D}
abbrev SW (g : Cfg) (X : Cx) (e : Expr) (d : D) : Prop := PW X e (tDT g d)
theorem sw_and1 (ha : ST g X a da) : SW g X (.BoolOp .And [a] pos) da := pw_and1 ha
theorem sw_or1 (ha : ST g X a da) : SW g X (.BoolOp .Or [a] pos) da := pw_or1 ha
theorem sw_and (ha : ST g X a da) (hb : SW g X (.BoolOp .And (b :: rest) pos) db) : SW g X (.BoolOp .And (a :: b :: rest) pos) (dAnd da db) :=
  pw_imp (pw_and ha hb) fun σ H Q ⟨r, L, M, v, M', A, e, k⟩ => by
    obtain ⟨x, M1, e1, e⟩ := R.bind_eq e
    split at e
    · refine tDT_go A e1 fun r1 H1 n1 A1 => iteT ?_
      exact tDT_go A1 e fun r2 H2 n2 A2 => k r2 H2 (n1.trans n2) A2.rel
    · cases e
      exact tDT_go A e1 fun r1 H1 n1 A1 => iteF (k r1 H1 n1 A1.rel)
    · cases e
theorem sw_or (ha : ST g X a da) (hb : SW g X (.BoolOp .Or (b :: rest) pos) db) : SW g X (.BoolOp .Or (a :: b :: rest) pos) (dOr da db) :=
  pw_imp (pw_or ha hb) fun σ H Q ⟨r, L, M, v, M', A, e, k⟩ => by
    obtain ⟨x, M1, e1, e⟩ := R.bind_eq e
    split at e
    · cases e
      exact tDT_go A e1 fun r1 H1 n1 A1 => iteT (k r1 H1 n1 A1.rel)
    · refine tDT_go A e1 fun r1 H1 n1 A1 => iteF ?_
      exact tDT_go A1 e fun r2 H2 n2 A2 => k r2 H2 (n1.trans n2) A2.rel
    · cases e
theorem st_w {e : Expr} {d : D} (h : SW g X e d) : ST g X e d := h.pt
theorem st_not (ha : ST g X a da) : ST g X (.UnaryOp .Not a pos) (dNot da) :=
  pt_imp (pt_not ha) fun σ H Q ⟨r, L, M, v, M', A, e, k⟩ => by
    obtain ⟨x, M1, e1, e⟩ := R.bind_eq e
    split at e
    · cases e
      exact tDT_go A e1 fun r1 H1 n1 A1 => k r1 H1 n1 A1.rel
    · cases e
theorem se_one {op} (h : SE g X a da) : SE g X (.BoolOp op [a] pos) da := pe_one h
theorem se_and (ha : SE g X a da) (hb : SE g X (.BoolOp .And (b :: rest) pos) db) : SE g X (.BoolOp .And (a :: b :: rest) pos) (dAnd da db) :=
  pe_imp (pe_and ha hb) fun σ H Q ⟨r, L, M, v, M', A, e, k⟩ => by
    obtain ⟨x, M1, e1, e⟩ := R.bind_eq e
    refine tD_go A e1 fun r1 H1 n1 A1 l1 => ?_
    split at e
    · exact ⟨true, rfl, iteT (tD_go A1 e fun r2 H2 n2 A2 l2 => k r2 H2 (n1.trans n2) A2.rel l2)⟩
    · cases e
      exact ⟨false, rfl, iteF (k r1 H1 n1 A1.rel trivial)⟩
    · cases e
theorem se_or (ha : SE g X a da) (hb : SE g X (.BoolOp .Or (b :: rest) pos) db) : SE g X (.BoolOp .Or (a :: b :: rest) pos) (dOr da db) :=
  pe_imp (pe_or ha hb) fun σ H Q ⟨r, L, M, v, M', A, e, k⟩ => by
    obtain ⟨x, M1, e1, e⟩ := R.bind_eq e
    refine tD_go A e1 fun r1 H1 n1 A1 l1 => ?_
    split at e
    · cases e
      exact ⟨true, rfl, iteT (k r1 H1 n1 A1.rel trivial)⟩
    · exact ⟨false, rfl, iteF (tD_go A1 e fun r2 H2 n2 A2 l2 => k r2 H2 (n1.trans n2) A2.rel l2)⟩
    · cases e
theorem se_not (ha : SE g X a da) : SE g X (.UnaryOp .Not a pos) (dNot da) :=
  pe_imp (pe_not ha) fun σ H Q ⟨r, L, M, v, M', A, e, k⟩ => by
    obtain ⟨x, M1, e1, e⟩ := R.bind_eq e
    refine tD_go A e1 fun r1 H1 n1 A1 l1 => ?_
    split at e
    · cases e
      exact ⟨_, rfl, k r1 H1 n1 A1.rel trivial⟩
    · cases e
theorem se_if (hc : ST g X c dc) (ha : SE g X a da) (hb : SE g X b db) : SE g X (.IfExp c a b pos) (dIf dc da db) :=
  pe_imp (pe_ifExp hc ha hb) fun σ H Q ⟨r, L, M, v, M', A, e, k⟩ => by
    obtain ⟨x, M1, e1, e⟩ := R.bind_eq e
    split at e
    · exact tDT_go A e1 fun r1 H1 n1 A1 => iteT (tD_go A1 e fun r2 H2 n2 A2 l2 => k r2 H2 (n1.trans n2) A2.rel l2)
    · exact tDT_go A e1 fun r1 H1 n1 A1 => iteF (tD_go A1 e fun r2 H2 n2 A2 l2 => k r2 H2 (n1.trans n2) A2.rel l2)
    · cases e
/-! ### lists of expressions, displays -/
def aNil : DA := fun _ M => .ok [] M
def aCons (d : D) (ds : DA) : DA := fun L M => (d L M).bind fun v M1 => (ds L M1).bind fun vs M2 => .ok (v :: vs) M2
variable {es : List Expr} {ds : DA}
theorem sa_nil : SA g X [] aNil := pa_imp pa_nil fun σ H Q ⟨r, L, M, v, M', A, e, k⟩ => by
  cases e
  exact k r H Nxt.refl A.rel Lts.nil
theorem sa_cons (ha : SE g X a da) (hr : SA g X es ds) (hs : starEach (a :: es) X.env = (false, eval a X.env) :: starEach es X.env := by rfl) : SA g X (a :: es) (aCons da ds) :=
  pa_imp (pa_cons ha hr hs) fun σ H Q ⟨r, L, M, v, M', A, e, k⟩ => by
    obtain ⟨x, M1, e1, e⟩ := R.bind_eq e
    obtain ⟨xs, M2, e2, e⟩ := R.bind_eq e
    cases e
    refine tD_go A e1 fun r1 H1 n1 A1 l1 => tDA_go A1 e2 fun r2 H2 n2 A2 l2 => ?_
    have z := k r2 H2 (n1.trans n2) A2.rel (Lts.cons (l1.mono n2.le) l2)
    rw [List.map_cons, n2.mv l1] at z
    exact z
def dTup (ds : DA) : D := fun L M => (ds L M).bind fun vs M1 => if vs.length ≤ 1000 then .ok (.ref M1.length) (M1 ++ [.tup vs]) else .no
def dLst (ds : DA) : D := fun L M => (ds L M).bind fun vs M1 => if vs.length ≤ 1000 then .ok (.ref M1.length) (M1 ++ [.lst vs]) else .no
theorem se_tup {x1} (h : SA g X es ds) : SE g X (.Tuple es x1 pos) (dTup ds) :=
  pe_imp (pe_tup h) fun σ H Q ⟨r, L, M, v, M', A, e, k⟩ => by
    obtain ⟨vs, M1, e1, e⟩ := R.bind_eq e
    split at e
    · rename_i hl
      cases e
      refine tDA_go A e1 fun r1 H1 n1 A1 l1 => ⟨?_, fun p hp => ?_⟩
      · rw [List.length_map]; exact line6 (by omega)
      · exact alloc_fin A1.rel .tup l1 (fun r2 H2 n2 R2 l2 => k r2 H2 (n1.trans n2) R2 l2) p hp
    · cases e
theorem se_lst (h : SA g X es ds) : SE g X (.List es pos) (dLst ds) :=
  pe_imp (pe_lst h) fun σ H Q ⟨r, L, M, v, M', A, e, k⟩ => by
    obtain ⟨vs, M1, e1, e⟩ := R.bind_eq e
    split at e
    · rename_i hl
      cases e
      refine tDA_go A e1 fun r1 H1 n1 A1 l1 => ⟨?_, fun p hp => ?_⟩
      · rw [List.length_map]; exact line6 (by omega)
      · exact alloc_fin A1.rel .lst l1 (fun r2 H2 n2 R2 l2 => k r2 H2 (n1.trans n2) R2 l2) p hp
    · cases e
/-! ### {} -/
def dDk : D := fun _ M => .ok (.ref M.length) (M ++ [.dk []])
def dDt : D := fun _ M => .ok (.ref M.length) (M ++ [.dt []])
theorem se_dk : SE g X (.Dict [] [] pos) dDk := pe_imp pe_dnewK fun σ H Q ⟨r, L, M, v, M', A, e, k⟩ => by
  cases e
  exact fun p hp => alloc_fin (o := .dk []) A.rel .dk (fun _ h => by cases h) k p hp
theorem se_dt : SE g X (.Dict [] [] pos) dDt := pe_imp pe_dnewT fun σ H Q ⟨r, L, M, v, M', A, e, k⟩ => by
  cases e
  exact fun p hp => alloc_fin (o := .dt []) A.rel .dt (fun _ h => by cases h) k p hp
/-! ### slices -/
abbrev DO := Loc → Mem → R (Option Int)
def tDO (g : Cfg) (d : DO) : TO := fun σ H Q => ∃ r L M o M', At g r L M σ H ∧ d L M = .ok o M' ∧ ∀ r' H', Nxt r M r' M' → Rel g r' M' H' → Q o H'
abbrev SO (g : Cfg) (X : Cx) (e : Option Expr) (d : DO) : Prop := PO X e (tDO g d)
def oNone : DO := fun _ M => .ok none M
def oSome (d : D) : DO := fun L M => (d L M).bind fun v M1 => match v with
  | .int i => .ok (some i) M1
  | _ => .no
theorem po_imp {e : Option Expr} {t t' : TO} (h : PO X e t) (k : ∀ σ H Q, t' σ H Q → t σ H Q) : PO X e t' := ⟨fun pins s σ H Q I q => h.run pins s σ H Q I (k σ H Q q)⟩
theorem so_none : SO g X none oNone := po_imp po_none fun σ H Q ⟨r, L, M, v, M', A, e, k⟩ => by
  cases e
  exact k r H Nxt.refl A.rel
theorem so_some (ha : SE g X a da) : SO g X (some a) (oSome da) := po_imp (po_some ha) fun σ H Q ⟨r, L, M, v, M', A, e, k⟩ => by
  obtain ⟨x, M1, e1, e⟩ := R.bind_eq e
  refine tD_go A e1 fun r1 H1 n1 A1 l1 => ?_
  split at e
  · cases e
    exact ⟨_, rfl, k r1 H1 n1 A1.rel⟩
  · cases e
theorem tDO_go {r : Nat → Addr} {L : Loc} {M M' : Mem} {σ : L2.St} {H : Hp} {d : DO} {o : Option Int} {Q : Option Int → Hp → Prop} (A : At g r L M σ H) (e : d L M = .ok o M') (k : ∀ r' H', Nxt r M r' M' → At g r' L M' σ H' → Q o H') : tDO g d σ H Q :=
  ⟨r, L, M, o, M', A, e, fun r' H' n R => k r' H' n (A.next n R)⟩
def cut {α : Type} (xs : List α) (lo hi : Option Int) : List α := (xs.drop (HT.sIx xs.length 0 lo)).take (HT.sIx xs.length xs.length hi - HT.sIx xs.length 0 lo)
theorem cut_map {α β : Type} (f : α → β) (xs : List α) (lo hi : Option Int) : (cut xs lo hi).map f = cut (xs.map f) lo hi := by
  unfold cut
  rw [List.map_take, List.map_drop, List.length_map]
theorem cut_mem {α : Type} {xs : List α} {lo hi : Option Int} {x : α} (h : x ∈ cut xs lo hi) : x ∈ xs := List.mem_of_mem_drop (List.mem_of_mem_take h)
def lSl (g : Cfg) (x : Val) (lo hi : Option Int) (M : Mem) : R Val := match lstOf g M x with
  | some xs => .ok (.ref M.length) (M ++ [.lst (cut xs lo hi)])
  | none => .no
def vSl (g : Cfg) (x : Val) (lo hi : Option Int) (M : Mem) : R Val := match x with
  | .str s => if s.length ≤ 1000000 then .ok (.str (cut s lo hi)) M else .no
  | _ => lSl g x lo hi M
def dSl (g : Cfg) (d : D) (lo hi : DO) : D := fun L M => (d L M).bind fun x M1 => (lo L M1).bind fun l M2 => (hi L M2).bind fun h M3 => vSl g x l h M3
theorem cutS_S (s : List Nat) (lo hi : Option Int) : cutS (S s) lo hi = S (cut s lo hi) := by
  unfold cutS cut
  rw [SX.S_len]
theorem se_sl (G : Good g X) {lo hi : Option Expr} {dl dh : DO} {p2 : Pos} (ha : SE g X a da) (hl : SO g X lo dl) (hh : SO g X hi dh) : SE g X (.Subscript a (.Slice lo hi none p2) pos) (dSl g da dl dh) :=
  pe_imp (pe_slice (sl_str.or sl_list) ha hl hh) fun σ H Q ⟨r, L, M, v, M', A, e, k⟩ => by
    obtain ⟨x, M1, e1, e⟩ := R.bind_eq e
    obtain ⟨l, M2, e2, e⟩ := R.bind_eq e
    obtain ⟨h, M3, e3, e⟩ := R.bind_eq e
    refine tD_go A e1 fun r1 H1 n1 A1 l1 => tDO_go A1 e2 fun r2 H2 n2 A2 => tDO_go A2 e3 fun r3 H3 n3 A3 => ?_
    have N : Nxt r M r3 M3 := (n1.trans n2).trans n3
    rw [← (n2.trans n3).mv l1]
    have lists : ∀ x : Val, lSl g x l h M3 = .ok v M' → rSlL X.K (mv g r3 x) l h H3 Q := fun x e => by
      unfold lSl at e
      split at e
      · rename_i xs hx
        cases e
        obtain ⟨p, hp, hq, wf⟩ := lstOf_ok (K := X.K) G.con A3.rel hx
        refine ⟨p, _, hp, hq, fun p hp => ?_⟩
        have e2 : cutV (xs.map (mv g r3)) l h = (cut xs l h).map (mv g r3) := (cut_map _ _ _ _).symm
        rw [e2]
        exact alloc_fin A3.rel .lst (Lts.sub wf fun v hv => cut_mem hv) (fun r4 H4 n4 R4 l4 => k r4 H4 (N.trans n4) R4 l4) p hp
      · cases e
    cases x with
    | str s =>
      simp only [vSl] at e
      split at e
      · rename_i hs
        cases e
        refine .inl ⟨S s, rfl, by rw [SX.S_len]; exact line6 hs, ?_⟩
        rw [cutS_S]
        exact k r3 H3 N A3.rel trivial
      · cases e
    | _ => exact .inr (lists _ e)
def dRev (g : Cfg) (d : D) : D := fun L M => (d L M).bind fun x M1 => match lstOf g M1 x with
  | some xs => .ok (.ref M1.length) (M1 ++ [.lst xs.reverse])
  | none => .no
theorem se_rev (G : Good g X) {kk : Nat} {p1 p2 p3 : Pos} (ha : SE g X a da) : SE g X (.Subscript a (.Slice none none (some (.UnaryOp .USub (.Constant (.int 1) kk p1) p2)) p3) pos) (dRev g da) :=
  pe_imp (pe_revL ha) fun σ H Q ⟨r, L, M, v, M', A, e, k⟩ => by
    obtain ⟨x, M1, e1, e⟩ := R.bind_eq e
    refine tD_go A e1 fun r1 H1 n1 A1 l1 => ?_
    split at e
    · rename_i xs hx
      cases e
      obtain ⟨p, hp, hq, wf⟩ := lstOf_ok (K := X.K) G.con A1.rel hx
      refine ⟨p, _, hp, hq, fun p hp => ?_⟩
      rw [← List.map_reverse]
      exact alloc_fin A1.rel .lst (Lts.sub wf fun v hv => List.mem_reverse.mp hv) (fun r4 H4 n4 R4 l4 => k r4 H4 (n1.trans n4) R4 l4) p hp
    · cases e
end
end Pa

/-! Calls. -/
namespace Pa
open PySem PySem.Spec
open PyProof.Rows L2
open SX (S)
variable {g : Cfg} {X : Cx}
/-! ### built-in functions by values -/
def CaS (g : Cfg) (f : List Val → Mem → R Val) (rc : List V → Hp → VK → Prop) : Prop := ∀ (r : Nat → Addr) (M : Mem) (H : Hp) (vs : List Val) (v : Val) (M' : Mem) (Q : VK), Rel g r M H → Lts M.length vs → f vs M = .ok v M' → Kont g r M v M' Q → rc (vs.map (mv g r)) H Q
def MtS (g : Cfg) (f : Val → List Val → Mem → R Val) (rm : V → List V → Hp → VK → Prop) : Prop := ∀ (r : Nat → Addr) (M : Mem) (H : Hp) (x : Val) (vs : List Val) (v : Val) (M' : Mem) (Q : VK), Rel g r M H → x.lt M.length → Lts M.length vs → f x vs M = .ok v M' → Kont g r M v M' Q → rm (mv g r x) (vs.map (mv g r)) H Q
def dF (f : List Val → Mem → R Val) (ds : DA) : D := fun L M => (ds L M).bind fun vs M1 => f vs M1
theorem goF {f : List Val → Mem → R Val} {rc : List V → Hp → VK → Prop} {ds : DA} (hs : CaS g f rc) {σ : L2.St} {H : Hp} {Q : VK} (h : tD g (dF f ds) σ H Q) : tCB rc (tDA g ds) σ H Q := by
  obtain ⟨r, L, M, v, M', A, e, k⟩ := h
  obtain ⟨vs, M1, e1, e⟩ := R.bind_eq e
  exact tDA_go A e1 fun r1 H1 n1 A1 l1 => hs r1 M1 H1 vs v M' Q A1.rel l1 e fun r2 H2 n2 R2 l2 => k r2 H2 (n1.trans n2) R2 l2
section
variable {x : Str} {p pos : Pos} {e : Expr} {es : List Expr} {ds : DA} {id T : String} {f : List Val → Mem → R Val} {rc : List V → Hp → VK → Prop}
theorem se_fn (hc : CallR X (.builtin id) rc) (hs : CaS g f rc) (hm : X.mg x = none) (hv : bootBuiltins x = some (.builtin id)) (ha : SA g X (e :: es) ds) (hg : Gl X x := by rfl) (hn : x ≠ "__name__" := by decide) (hdb : (x == ("__debug__" : Str)) = false := by decide)
    (he : starEach (e :: es) X.env = (false, eval e X.env) :: starEach es X.env := by rfl) (hpl : (backTo pos (starEach es X.env)).any (·.1) = false := by rfl) : SE g X (.Call (.Name x p) (e :: es) [] pos) (dF f ds) :=
  pe_imp (pe_callB hc hg hm hv ha hn hdb he hpl) fun _ _ _ h => goF hs h
theorem se_ty (hc : CallR X (.type T) rc) (hs : CaS g f rc) (hm : X.mg x = none) (hv : bootBuiltins x = some (.type T)) (ha : SA g X (e :: es) ds) (hg : Gl X x := by rfl) (hn : x ≠ "__name__" := by decide) (hdb : (x == ("__debug__" : Str)) = false := by decide)
    (he : starEach (e :: es) X.env = (false, eval e X.env) :: starEach es X.env := by rfl) (hpl : (backTo pos (starEach es X.env)).any (·.1) = false := by rfl) : SE g X (.Call (.Name x p) (e :: es) [] pos) (dF f ds) :=
  pe_imp (pe_callTy hc hg hm hv ha hn hdb he hpl) fun _ _ _ h => goF hs h
end
/-! len -/
def bLen (g : Cfg) (vs : List Val) (M : Mem) : R Val := match vs with
  | [.str s] => if s.length ≤ 1000000 then .ok (.int s.length) M else .no
  | [v] => (match seqOf g M v with
    | some xs => .ok (.int xs.length) M
    | none => (match v with
      | .ref a => (match dkOf M a with
        | some kvs => .ok (.int kvs.length) M
        | none => .no)
      | _ => .no))
  | _ => .no
def rLenDk : List V → Hp → VK → Prop := fun xs H Q => ∃ a kvs, xs = [.ref a] ∧ Rd H a (.dK kvs) ∧ Q (.int kvs.length) H
theorem call_len_dk : CallR X (.builtin "len") rLenDk := by
  intro pins s σ H xs us Q I r h
  obtain ⟨a, kvs, rfl, hr, q⟩ := h
  cases r with
  | cons r1 r2 =>
    cases r2
    cases r1
    exact d_len I hr fun t s' I' => ⟨.int kvs.length, H, I', ⟨_, rfl⟩, q⟩
theorem bLen_s {K : PySem.W.Frag} (hK : ConOk g K) : CaS g (bLen g) (fun xs H Q => (∃ p ys, xs = [.ref p] ∧ (SqL K H p ys ∨ SqT K H p ys) ∧ Q (.int ys.length) H) ∨ ((∃ z, xs = [.str z] ∧ z.length ≤ sizeLine ∧ Q (.int z.length) H) ∨ rLenDk xs H Q)) := by
  intro r M H vs v M' Q R l e k
  unfold bLen at e
  split at e
  · rename_i s
    split at e
    · rename_i hl
      cases e
      refine .inr (.inl ⟨S s, rfl, by rw [SX.S_len]; exact line6 hl, ?_⟩)
      rw [SX.S_len]
      exact stay (v := .int _) R trivial k
    · cases e
  · rename_i w _
    split at e
    · rename_i xs hx
      cases e
      obtain ⟨p, hp, hq, wf⟩ := seqOf_ok (K := K) hK R hx
      refine .inl ⟨p, _, by rw [List.map_cons, hp]; rfl, hq, ?_⟩
      rw [List.length_map]
      exact stay (v := .int _) R trivial k
    · split at e
      · split at e
        · rename_i kvs hk
          cases e
          obtain ⟨rd, wf⟩ := dkOf_ok R hk
          refine .inr (.inr ⟨_, _, rfl, rd, ?_⟩)
          rw [List.length_map]
          exact stay (v := .int _) R trivial k
        · cases e
      · cases e
  · cases e
/-! str -/
def bStr (vs : List Val) (M : Mem) : R Val := match vs with
  | [.str s] => .ok (.str s) M
  | [.int i] => if 0 ≤ i ∧ i < 18446744073709551616 then .ok (.str (TL.numL i.toNat)) M else .no
  | _ => .no
theorem log2_64 {n : Nat} (h : n < 18446744073709551616) : n.log2 < 1920 := Nat.lt_of_lt_of_le (PySem.Flt.log2_lt_of (k := 64) (by decide) h) (by decide)
theorem bStr_s : CaS g bStr (fun xs H Q => (∃ i, xs = [.int i] ∧ i.natAbs.log2 < 1920 ∧ Q (.str (toString i)) H) ∨ ∃ a, xs = [.str a] ∧ Q (.str a) H) := by
  intro r M H vs v M' Q R l e k
  unfold bStr at e
  split at e
  · cases e
    exact .inr ⟨_, rfl, stay (v := .str _) R trivial k⟩
  · rename_i i
    split at e
    · rename_i h
      cases e
      refine .inl ⟨i, rfl, log2_64 (by omega), ?_⟩
      obtain ⟨n, rfl⟩ : ∃ n : Nat, i = n := ⟨i.toNat, by omega⟩
      have z := stay (v := .str (TL.numL n)) R trivial (by simpa using k)
      have e : (PySem.Str.ofString (toString ((n : Nat) : Int))) = S (TL.numL n) := SX.num_S n
      show Q (.str (PySem.Str.ofString (toString ((n : Nat) : Int)))) H
      rw [e]
      exact z
    · cases e
  · cases e
/-! int -/
def digits (s : List Nat) : Bool := s.all fun c => decide (48 ≤ c) && decide (c ≤ 57)
def bInt (vs : List Val) (M : Mem) : R Val := match vs with
  | [.int i] => .ok (.int i) M
  | [.bl b] => .ok (.int (if b then 1 else 0)) M
  | [.str s] => if digits s = true ∧ s ≠ [] ∧ s.length ≤ 640 then .ok (.int (NumText.digitsVal s : Nat)) M else .no
  | _ => .no
theorem bInt_s : CaS g bInt (fun xs H Q => ((∃ i, xs = [.int i] ∧ Q (.int i) H) ∨ ∃ k, xs = [.bl k] ∧ Q (.int (if k then 1 else 0)) H) ∨ ∃ a n, xs = [.str a] ∧ PySem.intText? a = some n ∧ a.length ≤ 640 ∧ Q (.int n) H) := by
  intro r M H vs v M' Q R l e k
  unfold bInt at e
  split at e
  · cases e
    exact .inl (.inl ⟨_, rfl, stay (v := .int _) R trivial k⟩)
  · cases e
    exact .inl (.inr ⟨_, rfl, stay (v := .int _) R trivial k⟩)
  · rename_i s
    split at e
    · rename_i h
      cases e
      exact .inr ⟨S s, _, rfl, SX.int_S h.1 h.2.1 (by omega), by rw [SX.S_len]; exact h.2.2, stay (v := .int _) R trivial k⟩
    · cases e
  · cases e
/-! list(x): a copy -/
def bList (g : Cfg) (vs : List Val) (M : Mem) : R Val := match vs with
  | [v] => (match seqOf g M v with
    | some xs => .ok (.ref M.length) (M ++ [.lst xs])
    | none => .no)
  | _ => .no
theorem bList_s {K : PySem.W.Frag} (hK : ConOk g K) : CaS g (bList g) (fun xs H Q => ∃ p ys, xs = [.ref p] ∧ (SqL K H p ys ∨ SqT K H p ys) ∧ ∀ l, H l = none → Q (.ref l) (upd H l (.lst ys))) := by
  intro r M H vs v M' Q R l e k
  unfold bList at e
  split at e
  · split at e
    · rename_i xs hx
      cases e
      obtain ⟨p, hp, hq, wf⟩ := seqOf_ok (K := K) hK R hx
      exact ⟨p, _, by rw [List.map_cons, hp]; rfl, hq, fun p hp => alloc_fin R .lst wf k p hp⟩
    · cases e
  · cases e
/-! max, min of two -/
def bMax (vs : List Val) (M : Mem) : R Val := match vs with
  | [.int i, .int j] => .ok (.int (if j > i then j else i)) M
  | _ => .no
def bMin (vs : List Val) (M : Mem) : R Val := match vs with
  | [.int i, .int j] => .ok (.int (if j < i then j else i)) M
  | _ => .no
theorem bMax_s : CaS g bMax (fun xs H Q => ∃ i j, xs = [.int i, .int j] ∧ Q (.int (if j > i then j else i)) H) := by
  intro r M H vs v M' Q R l e k
  unfold bMax at e
  split at e
  · cases e
    exact ⟨_, _, rfl, stay (v := .int _) R trivial k⟩
  · cases e
theorem bMin_s : CaS g bMin (fun xs H Q => ∃ i j, xs = [.int i, .int j] ∧ Q (.int (if j < i then j else i)) H) := by
  intro r M H vs v M' Q R l e k
  unfold bMin at e
  split at e
  · cases e
    exact ⟨_, _, rfl, stay (v := .int _) R trivial k⟩
  · cases e
/-! all, any, sum -/
def blsOf : List Val → Option (List Bool)
  | [] => some []
  | .bl b :: r => (blsOf r).map (b :: ·)
  | _ => none
def intsOf : List Val → Option (List Int)
  | [] => some []
  | .int b :: r => (intsOf r).map (b :: ·)
  | _ => none
theorem blsOf_ok {r : Nat → Addr} : ∀ {xs : List Val} {bs : List Bool}, blsOf xs = some bs → xs.map (mv g r) = bs.map V.bl
  | [], bs, h => by cases h; rfl
  | .bl b :: xs, bs, h => by
    simp only [blsOf] at h
    obtain ⟨cs, h1, rfl⟩ := Option.map_eq_some_iff.mp h
    rw [List.map_cons, List.map_cons, blsOf_ok h1]; rfl
  | .non :: _, _, h => by cases h
  | .int _ :: _, _, h => by cases h
  | .str _ :: _, _, h => by cases h
  | .ref _ :: _, _, h => by cases h
  | .con _ :: _, _, h => by cases h
theorem intsOf_ok {r : Nat → Addr} : ∀ {xs : List Val} {bs : List Int}, intsOf xs = some bs → xs.map (mv g r) = bs.map V.int
  | [], bs, h => by cases h; rfl
  | .int b :: xs, bs, h => by
    simp only [intsOf] at h
    obtain ⟨cs, h1, rfl⟩ := Option.map_eq_some_iff.mp h
    rw [List.map_cons, List.map_cons, intsOf_ok h1]; rfl
  | .non :: _, _, h => by cases h
  | .bl _ :: _, _, h => by cases h
  | .str _ :: _, _, h => by cases h
  | .ref _ :: _, _, h => by cases h
  | .con _ :: _, _, h => by cases h
def bAll (g : Cfg) (vs : List Val) (M : Mem) : R Val := match vs with
  | [v] => (match (lstOf g M v).bind blsOf with
    | some bs => .ok (.bl (bs.all id)) M
    | none => .no)
  | _ => .no
def bAny (g : Cfg) (vs : List Val) (M : Mem) : R Val := match vs with
  | [v] => (match (lstOf g M v).bind blsOf with
    | some bs => .ok (.bl (bs.any id)) M
    | none => .no)
  | _ => .no
def bSum (g : Cfg) (vs : List Val) (M : Mem) : R Val := match vs with
  | [v] => (match (lstOf g M v).bind intsOf with
    | some bs => .ok (.int bs.sum) M
    | none => .no)
  | _ => .no
theorem bAll_s {K : PySem.W.Frag} (hK : ConOk g K) : CaS g (bAll g) (rAll K) := by
  intro r M H vs v M' Q R l e k
  unfold bAll at e
  split at e
  · split at e
    · rename_i bs hb
      cases e
      obtain ⟨xs, hx, hy⟩ := Option.bind_eq_some_iff.mp hb
      obtain ⟨p, hp, hq, wf⟩ := lstOf_ok (K := K) hK R hx
      rw [blsOf_ok hy] at hq
      exact ⟨p, bs, by rw [List.map_cons, hp]; rfl, hq, stay (v := .bl _) R trivial k⟩
    · cases e
  · cases e
theorem bAny_s {K : PySem.W.Frag} (hK : ConOk g K) : CaS g (bAny g) (rAny K) := by
  intro r M H vs v M' Q R l e k
  unfold bAny at e
  split at e
  · split at e
    · rename_i bs hb
      cases e
      obtain ⟨xs, hx, hy⟩ := Option.bind_eq_some_iff.mp hb
      obtain ⟨p, hp, hq, wf⟩ := lstOf_ok (K := K) hK R hx
      rw [blsOf_ok hy] at hq
      exact ⟨p, bs, by rw [List.map_cons, hp]; rfl, hq, stay (v := .bl _) R trivial k⟩
    · cases e
  · cases e
theorem bSum_s {K : PySem.W.Frag} (hK : ConOk g K) : CaS g (bSum g) (rSum K) := by
  intro r M H vs v M' Q R l e k
  unfold bSum at e
  split at e
  · split at e
    · rename_i bs hb
      cases e
      obtain ⟨xs, hx, hy⟩ := Option.bind_eq_some_iff.mp hb
      obtain ⟨p, hp, hq, wf⟩ := lstOf_ok (K := K) hK R hx
      rw [intsOf_ok hy] at hq
      exact ⟨p, bs, by rw [List.map_cons, hp]; rfl, hq, stay (v := .int _) R trivial k⟩
    · cases e
  · cases e
section
variable {p pos : Pos} {e : Expr} {es : List Expr} {ds : DA} (G : Good g X)
abbrev Pl (pos : Pos) (e : Expr) (es : List Expr) (X : Cx) : Prop := starEach (e :: es) X.env = (false, eval e X.env) :: starEach es X.env ∧ (backTo pos (starEach es X.env)).any (·.1) = false
include G
theorem se_len (hm : X.mg "len" = none) (ha : SA g X (e :: es) ds) (hg : Gl X "len" := by rfl) (hp : Pl pos e es X := by exact ⟨rfl, rfl⟩) : SE g X (.Call (.Name "len" p) (e :: es) [] pos) (dF (bLen g) ds) :=
  se_fn (call_len_seq.or (call_len_str.or call_len_dk)) (bLen_s G.con) hm PySem.boot_len ha hg (by decide) (by decide) hp.1 hp.2
theorem se_max (hm : X.mg "max" = none) (ha : SA g X (e :: es) ds) (hg : Gl X "max" := by rfl) (hp : Pl pos e es X := by exact ⟨rfl, rfl⟩) : SE g X (.Call (.Name "max" p) (e :: es) [] pos) (dF bMax ds) :=
  se_fn (call_max2 G.calm) bMax_s hm (by decide +kernel) ha hg (by decide) (by decide) hp.1 hp.2
theorem se_min (hm : X.mg "min" = none) (ha : SA g X (e :: es) ds) (hg : Gl X "min" := by rfl) (hp : Pl pos e es X := by exact ⟨rfl, rfl⟩) : SE g X (.Call (.Name "min" p) (e :: es) [] pos) (dF bMin ds) :=
  se_fn (call_min2 G.calm) bMin_s hm (by decide +kernel) ha hg (by decide) (by decide) hp.1 hp.2
theorem se_all (hm : X.mg "all" = none) (ha : SA g X (e :: es) ds) (hg : Gl X "all" := by rfl) (hp : Pl pos e es X := by exact ⟨rfl, rfl⟩) : SE g X (.Call (.Name "all" p) (e :: es) [] pos) (dF (bAll g) ds) :=
  se_fn (cr_all G.calm) (bAll_s G.con) hm (by decide +kernel) ha hg (by decide) (by decide) hp.1 hp.2
theorem se_any (hm : X.mg "any" = none) (ha : SA g X (e :: es) ds) (hg : Gl X "any" := by rfl) (hp : Pl pos e es X := by exact ⟨rfl, rfl⟩) : SE g X (.Call (.Name "any" p) (e :: es) [] pos) (dF (bAny g) ds) :=
  se_fn (cr_any G.calm) (bAny_s G.con) hm (by decide +kernel) ha hg (by decide) (by decide) hp.1 hp.2
theorem se_sum (hm : X.mg "sum" = none) (ha : SA g X (e :: es) ds) (hg : Gl X "sum" := by rfl) (hp : Pl pos e es X := by exact ⟨rfl, rfl⟩) : SE g X (.Call (.Name "sum" p) (e :: es) [] pos) (dF (bSum g) ds) :=
  se_fn (cr_sum G.calm) (bSum_s G.con) hm (by decide +kernel) ha hg (by decide) (by decide) hp.1 hp.2
theorem se_list (hm : X.mg "list" = none) (ha : SA g X (e :: es) ds) (hg : Gl X "list" := by rfl) (hp : Pl pos e es X := by exact ⟨rfl, rfl⟩) : SE g X (.Call (.Name "list" p) (e :: es) [] pos) (dF (bList g) ds) :=
  se_ty call_list_of (bList_s G.con) hm (by decide +kernel) ha hg (by decide) (by decide) hp.1 hp.2
omit G
theorem se_strc (hm : X.mg "str" = none) (ha : SA g X (e :: es) ds) (hg : Gl X "str" := by rfl) (hp : Pl pos e es X := by exact ⟨rfl, rfl⟩) : SE g X (.Call (.Name "str" p) (e :: es) [] pos) (dF bStr ds) :=
  se_ty (call_str_int.or SkE.call_str_str) bStr_s hm (by decide +kernel) ha hg (by decide) (by decide) hp.1 hp.2
theorem se_intc (hm : X.mg "int" = none) (ha : SA g X (e :: es) ds) (hg : Gl X "int" := by rfl) (hp : Pl pos e es X := by exact ⟨rfl, rfl⟩) : SE g X (.Call (.Name "int" p) (e :: es) [] pos) (dF bInt ds) :=
  se_ty (call_int1.or call_int_str) bInt_s hm (by decide +kernel) ha hg (by decide) (by decide) hp.1 hp.2
end

/-! ### methods of built-in types -/
def isTy (T : String) (M : Mem) (v : Val) : Bool := match v with
  | .str _ => T == "str"
  | .ref a => (match M[a]? with
    | some (.lst _) => T == "list"
    | some (.fz (.lst _)) => T == "list"
    | some (.dk _) => T == "dict"
    | some (.dt _) => T == "dict"
    | _ => false)
  | _ => false
theorem isTy_ok {K : PySem.W.Frag} {r : Nat → Addr} {M : Mem} {H : Hp} {T : String} {v : Val} (R : Rel g r M H) (h : isTy T M v = true) : tyV K T (mv g r v) H := by
  cases v with
  | str s => exact beq_iff_eq.mp h
  | ref a =>
    simp only [isTy] at h
    split at h
    · rename_i xs hm
      exact .inl ⟨beq_iff_eq.mp h, _, .inl (.inl (lst_at R hm))⟩
    · rename_i xs hm
      obtain ⟨u, hu, x⟩ := R.obj a _ hm
      cases x with
      | fz x =>
        cases x
        exact .inl ⟨beq_iff_eq.mp h, _, .inl (.inr ⟨_, hu⟩)⟩
    · rename_i xs hm
      obtain ⟨u, hu, x⟩ := R.obj a _ hm
      cases x
      exact .inr (.inr (.inl ⟨beq_iff_eq.mp h, .inl ⟨_, hu⟩⟩))
    · rename_i xs hm
      obtain ⟨u, hu, x⟩ := R.obj a _ hm
      cases x
      exact .inr (.inr (.inl ⟨beq_iff_eq.mp h, .inr ⟨_, hu⟩⟩))
    · cases h
  | _ => cases h
def dM (T : String) (f : Val → List Val → Mem → R Val) (d : D) (ds : DA) : D := fun L M => (d L M).bind fun x M1 => if isTy T M1 x = true then (ds L M1).bind fun vs M2 => f x vs M2 else .no
def dM0 (T : String) (f : Val → List Val → Mem → R Val) (d : D) : D := fun L M => (d L M).bind fun x M1 => if isTy T M1 x = true then f x [] M1 else .no
section
variable {o e : Expr} {es : List Expr} {d : D} {ds : DA} {name : Str} {apos cpos : Pos} {T id : String} {f : Val → List Val → Mem → R Val} {rm : V → List V → Hp → VK → Prop}
structure PlM (X : Cx) (o : Expr) (name : Str) (apos : Pos) (e : Expr) (es : List Expr) (cpos : Pos) : Prop where
  hbase : attributeBase o name X.env (eval o X.env) = eval o X.env
  hfew : ((backTo cpos (starEach (e :: es) X.env)).all (fun x => !x.1) && (backToKw cpos (keywordEach [] X.env)).all (fun x => x.1.isSome)
      && decide ((e :: es).length + ([] : List Keyword).length + (if ([] : List Keyword).isEmpty then 0 else 1) < 30)) = true
  hline : (apos.endLine == cpos.line) = true
  hs : starEach (e :: es) X.env = (false, eval e X.env) :: starEach es X.env
  hplain : (backTo cpos (starEach es X.env)).any (·.1) = false
theorem se_m (pa : PlainAttrs T) (slot : Slot T name id) (hty : typeOf (.builtin id) = pure (.type "method_descriptor")) (hm : MtR X id rm) (hs : MtS g f rm) (ho : SE g X o d) (ha : SA g X (e :: es) ds) (p : PlM X o name apos e es cpos) :
    SE g X (.Call (.Attribute o name apos) (e :: es) [] cpos) (dM T f d ds) :=
  pe_imp (pe_bm pa slot hty hm ho ha p.hbase p.hfew p.hline p.hs p.hplain) fun σ H Q ⟨r, L, M, v, M', A, e, k⟩ => by
    obtain ⟨x, M1, e1, e⟩ := R.bind_eq e
    split at e
    · rename_i ht
      obtain ⟨vs, M2, e2, e⟩ := R.bind_eq e
      refine tD_go A e1 fun r1 H1 n1 A1 l1 => ⟨isTy_ok A1.rel ht, tDA_go A1 e2 fun r2 H2 n2 A2 l2 => ?_⟩
      rw [← n2.mv l1]
      exact hs r2 M2 H2 x vs v M' Q A2.rel (l1.mono n2.le) l2 e fun r3 H3 n3 R3 l3 => k r3 H3 ((n1.trans n2).trans n3) R3 l3
    · cases e
theorem se_m0 (pa : PlainAttrs T) (slot : Slot T name id) (hty : typeOf (.builtin id) = pure (.type "method_descriptor")) (hm : MtR X id rm) (hs : MtS g f rm) (ho : SE g X o d)
    (hbase : attributeBase o name X.env (eval o X.env) = eval o X.env := by rfl) (hline : (apos.endLine == cpos.line) = true := by rfl) : SE g X (.Call (.Attribute o name apos) [] [] cpos) (dM0 T f d) :=
  pe_imp (pe_bm0 pa slot hty hm ho hbase hline) fun σ H Q ⟨r, L, M, v, M', A, e, k⟩ => by
    obtain ⟨x, M1, e1, e⟩ := R.bind_eq e
    split at e
    · rename_i ht
      refine tD_go A e1 fun r1 H1 n1 A1 l1 => ⟨isTy_ok A1.rel ht, ?_⟩
      exact hs r1 M1 H1 x [] v M' Q A1.rel l1 Lts.nil e fun r3 H3 n3 R3 l3 => k r3 H3 (n1.trans n3) R3 l3
    · cases e
end
/-! append, extend, pop -/
def mAppend (x : Val) (vs : List Val) (M : Mem) : R Val := match x, vs with
  | .ref a, [v] => (match M[a]? with
    | some (.lst xs) => if xs.length < 1000000 then .ok .non (M.set a (.lst (xs ++ [v]))) else .no
    | _ => .no)
  | _, _ => .no
def mExtend (x : Val) (vs : List Val) (M : Mem) : R Val := match x, vs with
  | .ref a, [.ref b] => (match M[a]?, M[b]? with
    | some (.lst xs), some (.lst ys) => if xs.length + ys.length ≤ 1000000 then .ok .non (M.set a (.lst (xs ++ ys))) else .no
    | _, _ => .no)
  | _, _ => .no
def mPop (x : Val) (vs : List Val) (M : Mem) : R Val := match x, vs with
  | .ref a, [] => (match M[a]? with
    | some (.lst xs) => (match xs[xs.length - 1]? with
      | some v => .ok v (M.set a (.lst xs.dropLast))
      | none => .no)
    | _ => .no)
  | _, _ => .no
theorem put_fin {r : Nat → Addr} {M : Mem} {H : Hp} {a : Nat} {o : Ob} {u : HO} {v : Val} {Q : VK} (R : Rel g r M H) (ha : a < M.length) (x : HoR g r o u) (l : o.lt M.length) (lv : v.lt M.length) (k : Kont g r M v (M.set a o) Q) : Q (mv g r v) (upd H (r a) u) :=
  k r _ nxt_set (R.put ha x l) (by rw [List.length_set]; exact lv)
theorem mAppend_s : MtS g mAppend rAppend := by
  intro r M H x vs v M' Q R lx lv e k
  unfold mAppend at e
  split at e
  · rename_i a w
    split at e
    · rename_i xs hm
      split at e
      · rename_i hl
        cases e
        refine ⟨_, _, _, rfl, rfl, lst_at R hm, by rw [List.length_map]; exact line6' hl, ?_⟩
        have z := put_fin (v := .non) R (lt_of_get hm) .lst (Lts.app (R.wf _ _ hm) lv) trivial k
        rw [List.map_append] at z
        exact z
      · cases e
    · cases e
  · cases e
theorem mExtend_s : MtS g mExtend rExtend := by
  intro r M H x vs v M' Q R lx lv e k
  unfold mExtend at e
  split at e
  · rename_i a b
    split at e
    · rename_i xs ys hm hn
      split at e
      · rename_i hl
        cases e
        refine ⟨_, _, _, _, rfl, rfl, lst_at R hm, lst_at R hn, by rw [List.length_map, List.length_map]; exact line6 hl, ?_⟩
        have z := put_fin (v := .non) R (lt_of_get hm) .lst (Lts.app (R.wf _ _ hm) (R.wf _ _ hn)) trivial k
        rw [List.map_append] at z
        exact z
      · cases e
    · cases e
  · cases e
theorem mPop_s : MtS g mPop rPop := by
  intro r M H x vs v M' Q R lx lv e k
  unfold mPop at e
  split at e
  · rename_i a
    split at e
    · rename_i xs hm
      split at e
      · rename_i w hw
        cases e
        have wf : Lts M.length xs := R.wf _ _ hm
        refine ⟨_, _, _, rfl, rfl, lst_at R hm, by rw [List.length_map, List.getElem?_map, hw]; rfl, ?_⟩
        have z := put_fin (v := v) R (lt_of_get hm) .lst (Lts.sub wf fun y hy => (List.dropLast_sublist xs).subset hy) (wf.get hw) k
        rw [List.map_dropLast] at z
        exact z
      · cases e
    · cases e
  · cases e
/-! texts -/
def strsOf : List Val → Option (List (List Nat))
  | [] => some []
  | .str b :: r => (strsOf r).map (b :: ·)
  | _ => none
theorem strsOf_ok {r : Nat → Addr} : ∀ {xs : List Val} {bs : List (List Nat)}, strsOf xs = some bs → xs.map (mv g r) = (bs.map S).map V.str
  | [], bs, h => by cases h; rfl
  | .str b :: xs, bs, h => by
    simp only [strsOf] at h
    obtain ⟨cs, h1, rfl⟩ := Option.map_eq_some_iff.mp h
    rw [List.map_cons, List.map_cons, List.map_cons, strsOf_ok h1]; rfl
  | .non :: _, _, h => by cases h
  | .int _ :: _, _, h => by cases h
  | .bl _ :: _, _, h => by cases h
  | .ref _ :: _, _, h => by cases h
  | .con _ :: _, _, h => by cases h
def mSplit (x : Val) (vs : List Val) (M : Mem) : R Val := match x, vs with
  | .str a, [.str b] => if b ≠ [] ∧ b.all (· < 256) = true ∧ a.length ≤ 1000000 then .ok (.ref M.length) (M ++ [.lst ((TL.spl b 0 [] a).map .str)]) else .no
  | _, _ => .no
theorem mSplit_s : MtS g mSplit (fun x xs H Q => ∃ a b, x = .str a ∧ xs = [.str b] ∧ (b.length == 0) = false ∧ a.length + 2 ≤ sizeLine ∧ rNewStrs (Txt.split a b) H Q) := by
  intro r M H x vs v M' Q R lx lv e k
  unfold mSplit at e
  split at e
  · rename_i a b
    split at e
    · rename_i h
      cases e
      refine ⟨S a, S b, rfl, rfl, ?_, ?_, fun p hp => ?_⟩
      · rw [SX.S_len]
        cases b with
        | nil => exact absurd rfl h.1
        | cons c b => rfl
      · rw [SX.S_len]; exact Nat.le_trans (Nat.add_le_add_right h.2.2 2) (by decide)
      · rw [SX.split_S h.1 h.2.1]
        have z := alloc_fin (o := .lst ((TL.spl b 0 [] a).map .str)) (u := .lst (((TL.spl b 0 [] a).map .str).map (mv g r))) R .lst (fun w hw => by
          obtain ⟨s, _, rfl⟩ := List.mem_map.mp hw
          trivial) k p hp
        rw [List.map_map] at z ⊢
        exact z
    · cases e
  · cases e
def mJoin (g : Cfg) (x : Val) (vs : List Val) (M : Mem) : R Val := match x, vs with
  | .str a, [v] => (match (seqOf g M v).bind strsOf with
    | some ys => if (ys.map (·.length)).sum + ys.length * a.length ≤ 1000000 then .ok (.str (TL.joinL a ys)) M else .no
    | none => .no)
  | _, _ => .no
theorem mJoin_s {K : PySem.W.Frag} (hK : ConOk g K) : MtS g (mJoin g) (fun x xs H Q => ∃ a p, ∃ ys : List Str, x = .str a ∧ xs = [.ref p] ∧ (SqL K H p (ys.map V.str) ∨ SqT K H p (ys.map V.str)) ∧
    (ys.map (·.length)).sum + ys.length * a.length ≤ 16777216 ∧ Q (.str (Txt.join a ys)) H) := by
  intro r M H x vs v M' Q R lx lv e k
  unfold mJoin at e
  split at e
  · rename_i a w
    split at e
    · rename_i ys hy
      split at e
      · rename_i h
        cases e
        obtain ⟨xs, hx, hz⟩ := Option.bind_eq_some_iff.mp hy
        obtain ⟨p, hp, hq, wf⟩ := seqOf_ok (K := K) hK R hx
        rw [strsOf_ok hz] at hq
        refine ⟨S a, p, ys.map S, rfl, by rw [List.map_cons, hp]; rfl, hq, ?_, ?_⟩
        · rw [SX.lens, List.length_map, SX.S_len]; omega
        · rw [SX.join_S]
          exact stay (v := .str _) R trivial k
      · cases e
    · cases e
  · cases e
section
variable {o e : Expr} {es : List Expr} {d : D} {ds : DA} {apos cpos : Pos}
theorem se_append (ho : SE g X o d) (ha : SA g X (e :: es) ds) (p : PlM X o "append" apos e es cpos := by exact ⟨rfl, rfl, rfl, rfl, rfl⟩) : SE g X (.Call (.Attribute o "append" apos) (e :: es) [] cpos) (dM "list" mAppend d ds) :=
  se_m PySem.F.plainAttrs_list PySem.F.slot_list_append PySem.F.type_list_append mt_append mAppend_s ho ha p
theorem se_extend (ho : SE g X o d) (ha : SA g X (e :: es) ds) (p : PlM X o "extend" apos e es cpos := by exact ⟨rfl, rfl, rfl, rfl, rfl⟩) : SE g X (.Call (.Attribute o "extend" apos) (e :: es) [] cpos) (dM "list" mExtend d ds) :=
  se_m PySem.F.plainAttrs_list PySem.F.slot_list_extend PySem.F.type_list_extend mt_extend mExtend_s ho ha p
theorem se_pop (ho : SE g X o d) (hb : attributeBase o "pop" X.env (eval o X.env) = eval o X.env := by rfl) (hl : (apos.endLine == cpos.line) = true := by rfl) : SE g X (.Call (.Attribute o "pop" apos) [] [] cpos) (dM0 "list" mPop d) :=
  se_m0 PySem.F.plainAttrs_list PySem.F.slot_list_pop PySem.F.type_list_pop mt_pop mPop_s ho hb hl
theorem se_split (ho : SE g X o d) (ha : SA g X (e :: es) ds) (p : PlM X o "split" apos e es cpos := by exact ⟨rfl, rfl, rfl, rfl, rfl⟩) : SE g X (.Call (.Attribute o "split" apos) (e :: es) [] cpos) (dM "str" mSplit d ds) :=
  se_m PySem.F.plainAttrs_str PySem.F.slot_str_split PySem.F.type_str_split mt_split mSplit_s ho ha p
theorem se_join (G : Good g X) (ho : SE g X o d) (ha : SA g X (e :: es) ds) (p : PlM X o "join" apos e es cpos := by exact ⟨rfl, rfl, rfl, rfl, rfl⟩) : SE g X (.Call (.Attribute o "join" apos) (e :: es) [] cpos) (dM "str" (mJoin g) d ds) :=
  se_m PySem.F.plainAttrs_str PySem.F.slot_str_join PySem.F.type_str_join mt_join (mJoin_s G.con) ho ha p
end
/-! ### attributes -/
/-- own classes: what the text makes of them; fields: which attributes are plain -/
structure ClsOk (g : Cfg) (K : PySem.W.Frag) (c : String) (fs : List String) : Prop where
  cl : Cls K (g.cl c)
  no : ∀ f ∈ fs, NoAttr K (g.cl c) (Str.ofString f)
def getf (fs : List (String × Val)) (f : String) : Option Val := match fs with
  | [] => none
  | p :: r => if p.1 = f then some p.2 else getf r f
def putf (f : String) (v : Val) : List (String × Val) → List (String × Val)
  | [] => [(f, v)]
  | p :: r => if p.1 = f then (p.1, v) :: r else p :: putf f v r
theorem ofs_inj {a b : String} (h : Str.ofString a = Str.ofString b) : a = b := by
  have e : a.toList.map Char.toNat = b.toList.map Char.toNat := by
    rw [Str.ofString_eq_toList, Str.ofString_eq_toList] at h
    exact congrArg (fun s : Str => s.cps.toList) h
  have inj : ∀ (l m : List Char), l.map Char.toNat = m.map Char.toNat → l = m := by
    intro l
    induction l with
    | nil => intro m h; cases m with
      | nil => rfl
      | cons _ _ => cases h
    | cons c l ih =>
      intro m h
      cases m with
      | nil => cases h
      | cons c' m =>
        rw [List.map_cons, List.map_cons] at h
        injection h with h1 h2
        rw [ih m h2, Char.toNat_inj.mp h1]
  exact String.toList_inj.mp (inj _ _ e)
theorem getf_ok {r : Nat → Addr} {f : String} : ∀ (fs : List (String × Val)), (fs.map (mfv g r)).lookup (Str.ofString f) = (getf fs f).map (mv g r)
  | [] => rfl
  | p :: fs => by
    rw [List.map_cons]
    show List.lookup (Str.ofString f) ((Str.ofString p.1, mv g r p.2) :: _) = _
    simp only [getf]
    by_cases h : p.1 = f
    · rw [if_pos h, h]
      simp
    · rw [if_neg h]
      have : (Str.ofString f == Str.ofString p.1) = false := beq_eq_false_iff_ne.mpr fun z => h (ofs_inj z).symm
      rw [List.lookup_cons, this, getf_ok fs]
theorem putf_ok {r : Nat → Addr} {f : String} {v : Val} : ∀ (fs : List (String × Val)), putF (Str.ofString f) (mv g r v) (fs.map (mfv g r)) = (putf f v fs).map (mfv g r)
  | [] => rfl
  | p :: fs => by
    rw [List.map_cons]
    show (if Str.ofString p.1 = Str.ofString f then (Str.ofString p.1, mv g r v) :: _ else (Str.ofString p.1, mv g r p.2) :: putF _ _ _) = _
    simp only [putf]
    by_cases h : p.1 = f
    · rw [if_pos (by rw [h]), if_pos h]; rfl
    · rw [if_neg (fun z => h (ofs_inj z)), if_neg h, putf_ok fs]; rfl
theorem getf_mem {f : String} {v : Val} : ∀ {fs : List (String × Val)}, getf fs f = some v → ∃ p ∈ fs, p.2 = v
  | [], h => by cases h
  | p :: r, h => by
    simp only [getf] at h
    split at h
    · cases h; exact ⟨p, List.mem_cons_self, rfl⟩
    · obtain ⟨q, a, b⟩ := getf_mem h
      exact ⟨q, List.mem_cons_of_mem _ a, b⟩
theorem putf_mem {f : String} {v : Val} {p : String × Val} : ∀ {fs : List (String × Val)}, p ∈ putf f v fs → p.2 = v ∨ p ∈ fs
  | [], h => by
    rw [putf, List.mem_singleton] at h
    cases h; exact .inl rfl
  | q :: r, h => by
    simp only [putf] at h
    split at h
    · rcases List.mem_cons.mp h with rfl | h
      · exact .inl rfl
      · exact .inr (List.mem_cons_of_mem _ h)
    · rcases List.mem_cons.mp h with rfl | h
      · exact .inr List.mem_cons_self
      · rcases putf_mem h with h | h
        · exact .inl h
        · exact .inr (List.mem_cons_of_mem _ h)
/-- the classes by their plain fields -/
abbrev CTab := List (String × List String)
def hasF (T : CTab) (c f : String) : Bool := T.any fun p => p.1 == c && p.2.contains f
def TabOk (g : Cfg) (K : PySem.W.Frag) (T : CTab) : Prop := ∀ p ∈ T, ClsOk g K p.1 p.2
theorem TabOk.get {K : PySem.W.Frag} {T : CTab} (h : TabOk g K T) {c f : String} (e : hasF T c f = true) : Cls K (g.cl c) ∧ NoAttr K (g.cl c) (Str.ofString f) := by
  obtain ⟨p, hp, e⟩ := List.any_eq_true.mp e
  rw [Bool.and_eq_true] at e
  have ec := beq_iff_eq.mp e.1
  subst ec
  exact ⟨(h p hp).cl, (h p hp).no f (List.contains_iff_mem.mp e.2)⟩
def dFld (T : CTab) (d : D) (f : String) : D := fun L M => (d L M).bind fun x M1 => match x with
  | .ref a => (match M1[a]? with
    | some (.ins c fs) => if hasF T c f = true then R.of (getf fs f) M1 else .no
    | _ => .no)
  | _ => .no
theorem se_fld {T : CTab} {o : Expr} {d : D} {f : String} {pos : Pos} (hT : TabOk g X.K T) (ho : SE g X o d) (hb : attributeBase o (Str.ofString f) X.env (eval o X.env) = eval o X.env := by rfl) : SE g X (.Attribute o (Str.ofString f) pos) (dFld T d f) :=
  pe_imp (pe_fld ho hb) fun σ H Q ⟨r, L, M, v, M', A, e, k⟩ => by
    obtain ⟨x, M1, e1, e⟩ := R.bind_eq e
    refine tD_go A e1 fun r1 H1 n1 A1 l1 => ?_
    split at e
    · split at e
      · rename_i c fs hm
        split at e
        · rename_i hf
          obtain ⟨hg, rfl⟩ := R.of_eq e
          obtain ⟨u, hu, x⟩ := A1.rel.obj _ _ hm
          cases x
          obtain ⟨c1, c2⟩ := hT.get hf
          refine ⟨_, _, _, _, _, rfl, hu, c1, c2, by rw [getf_ok, hg]; rfl, ?_⟩
          obtain ⟨p, hp, rfl⟩ := getf_mem hg
          exact k r1 H1 n1 A1.rel (A1.rel.wf _ _ hm p hp)
        · cases e
      · cases e
    · cases e
end Pa

/-! isinstance, own defs, classes. -/
namespace Pa
open PySem PySem.Spec
open PyProof.Rows L2
open SX (S)
variable {g : Cfg} {X : Cx}
/-! ### isinstance -/
def bts : List String := ["NoneType", "bool", "int", "str", "list", "tuple", "dict"]
def tyW (g : Cfg) (t : String) : Value := if bts.contains t = true then .type t else .ref (g.cl t)
def tyW' (g : Cfg) (t : String) : V := if bts.contains t = true then .ty t else .ref (g.cl t)
def tyOf (g : Cfg) (cs : List String) (M : Mem) : Val → Option String
  | .non => some "NoneType"
  | .bl _ => some "bool"
  | .int _ => some "int"
  | .str _ => some "str"
  | .con k => (g.con k).map fun p => if p.1 = true then "list" else "tuple"
  | .ref a => (match M[a]? with
    | some (.lst _) => some "list"
    | some (.fz (.lst _)) => some "list"
    | some (.tup _) => some "tuple"
    | some (.dk _) => some "dict"
    | some (.fz (.dk _)) => some "dict"
    | some (.dt _) => some "dict"
    | some (.ins c _) => if cs.contains c = true then some c else none
    | _ => none)
abbrev ITab := List (String × String × Bool)
def isiT (T : ITab) (s t : String) : Option Bool := (List.find? (fun p : String × String × Bool => p.1 == s && p.2.1 == t) T).map (·.2.2)
/-- what the written part says of each pair of types; of the own classes -/
structure IsiOk (g : Cfg) (K : PySem.W.Frag) (T : ITab) (cs : List String) : Prop where
  kit : ∀ s t b, isiT T s t = some b → PySem.W.kitOne K (tyW g s) (tyW g t) = some b
  own : ∀ c ∈ cs, bts.contains c = false ∧ Cls K (g.cl c) ∧ PySem.W.findIn K (.ref (g.cl c)) "__class__" = some (some (.builtin "object.__class__")) ∧ PySem.W.mroIn K (g.cl c) (.type "object") = some true
  gs : PySem.W.specialIn K (.builtin "object.__class__") "__get__" = some (some (.builtin "getset_descriptor.__get__"))
  tk : PySem.W.takesIn K (.builtin "object.__class__") = some true
def dIsi (g : Cfg) (T : ITab) (cs : List String) (d : D) (t : String) : D := fun L M => (d L M).bind fun x M1 => match tyOf g cs M1 x with
  | some s => (match isiT T s t with
    | some b => .ok (.bl b) M1
    | none => .no)
  | none => .no
def tsI (T : ITab) (s : String) : List String → Option Bool
  | [] => some false
  | t :: ts => match isiT T s t, tsI T s ts with
    | some b, some c => some (b || c)
    | _, _ => none
def dIsiT (g : Cfg) (T : ITab) (cs : List String) (d : D) (ts : List String) : D := fun L M => (d L M).bind fun x M1 => match tyOf g cs M1 x with
  | some s => (match tsI T s ts with
    | some b => .ok (.bl b) M1
    | none => .no)
  | none => .no
theorem con_kind {K : PySem.W.Frag} (hK : ConOk g K) {k : Nat} {b : Bool} {xs : List Val} (h : g.con k = some (b, xs)) : ∃ o, K.lookup (g.ca k) = some o ∧ o.cls = .type (if b = true then "list" else "tuple") := by
  obtain ⟨_, h2⟩ := hK k b xs h
  cases b with
  | true =>
    rcases h2 (fun i => i) (fun _ => none) with (z | ⟨o, z⟩) | ⟨o, its, n, a, b, _⟩
    · cases z
    · cases z
    · exact ⟨o, a, b⟩
  | false =>
    rcases h2 (fun i => i) (fun _ => none) with (z | ⟨o, z⟩) | ⟨o, its, n, a, b, _⟩
    · cases z
    · cases z
    · exact ⟨o, a, b⟩
theorem tyX_of {K : PySem.W.Frag} {T : ITab} {cs : List String} (hK : ConOk g K) (I : IsiOk g K T cs) {r : Nat → Addr} {M : Mem} {H : Hp} (R : Rel g r M H) {x : Val} {s : String} (h : tyOf g cs M x = some s) : TyX K H (mv g r x) (tyW g s) := by
  have bt : ∀ t : String, bts.contains t = true → tyW g t = .type t := fun t h => if_pos h
  cases x with
  | non => cases h; rw [bt _ (by decide)]; exact .base .non
  | bl b => cases h; rw [bt _ (by decide)]; exact .base (.bl b)
  | int b => cases h; rw [bt _ (by decide)]; exact .base (.int b)
  | str b => cases h; rw [bt _ (by decide)]; exact .base (.str _)
  | con k =>
    simp only [tyOf] at h
    obtain ⟨⟨b, xs⟩, h1, h2⟩ := Option.map_eq_some_iff.mp h
    obtain ⟨o, a, c⟩ := con_kind hK h1
    cases b with
    | true =>
      have e : s = "list" := h2.symm
      subst e
      rw [bt _ (by decide)]; exact .kList a c
    | false =>
      have e : s = "tuple" := h2.symm
      subst e
      rw [bt _ (by decide)]; exact .kTuple a c
  | ref a =>
    simp only [tyOf] at h
    split at h
    · rename_i xs hm; cases h; rw [bt _ (by decide)]; exact .base (.lst (lst_at R hm))
    · rename_i xs hm
      cases h
      obtain ⟨u, hu, x⟩ := R.obj a _ hm
      cases x with
      | fz x => cases x; rw [bt _ (by decide)]; exact .base (.frz hu)
    · rename_i xs hm; cases h; rw [bt _ (by decide)]; exact .base (.tup (tup_at R hm))
    · rename_i xs hm
      cases h
      obtain ⟨u, hu, x⟩ := R.obj a _ hm
      cases x
      rw [bt _ (by decide)]; exact .base (.dK hu)
    · rename_i xs hm
      cases h
      obtain ⟨u, hu, x⟩ := R.obj a _ hm
      cases x with
      | fz x => cases x; rw [bt _ (by decide)]; exact .fDict hu
    · rename_i xs hm
      cases h
      obtain ⟨u, hu, x⟩ := R.obj a _ hm
      cases x
      rw [bt _ (by decide)]; exact .base (.dT hu)
    · rename_i c fs hm
      split at h
      · rename_i hc
        cases h
        obtain ⟨u, hu, x⟩ := R.obj a _ hm
        cases x
        obtain ⟨n, a, b, c⟩ := I.own s (List.contains_iff_mem.mp hc)
        have : tyW g s = .ref (g.cl s) := if_neg (by rw [n]; decide)
        rw [this]
        exact .base (.ins hu a b I.gs I.tk c)
      · cases h
    · cases h
/-- the class, as an expression tells it -/
abbrev SC (g : Cfg) (X : Cx) (e : Expr) (t : String) : Prop := PE X e (tC (tyW' g t))
theorem sc_bt {x : Str} {t : String} {pos : Pos} (hm : X.mg x = none) (hv : bootBuiltins x = some (.type t)) (hb : bts.contains t = true := by decide) (hg : Gl X x := by rfl) (hn : x ≠ "__name__" := by decide) (hd : (x == ("__debug__" : Str)) = false := by decide) : SC g X (.Name x pos) t := by
  have : tyW' g t = .ty t := if_pos hb
  rw [SC, this]
  exact pe_bltn hg hm hv rfl hn hd
theorem sc_cl {x : Str} {t : String} {pos : Pos} (hm : X.mg x = some (.ref (g.cl t))) (hb : bts.contains t = false := by decide) (hg : Gl X x := by rfl) (hd : (x == ("__debug__" : Str)) = false := by decide) : SC g X (.Name x pos) t := by
  have : tyW' g t = .ref (g.cl t) := if_neg (by rw [hb]; decide)
  rw [SC, this]
  exact pe_glob hg hm rfl hd
theorem clsV {t : String} : ClsV (tyW' g t) (tyW g t) := by
  unfold tyW tyW'
  split
  · exact .ty _
  · exact .own _
section
variable {a e : Expr} {d : D} {p pos : Pos} {T : ITab} {cs : List String} {t : String}
theorem se_isi (G : Good g X) (I : IsiOk g X.K T cs) (hm : X.mg "isinstance" = none) (ha : SE g X a d) (ht : SC g X e t) (hg : Gl X "isinstance" := by rfl) (hp : Pl pos a [e] X := by exact ⟨rfl, rfl⟩) (hs : starEach [e] X.env = (false, eval e X.env) :: starEach [] X.env := by rfl) :
    SE g X (.Call (.Name "isinstance" p) [a, e] [] pos) (dIsi g T cs d t) :=
  pe_imp (pe_callB call_isi hg hm (by decide +kernel) (pa_cons ha (pa_cons ht pa_nil hs) hp.1) (by decide) (by decide) hp.1 hp.2) fun σ H Q ⟨r, L, M, v, M', A, e, k⟩ => by
    obtain ⟨x, M1, e1, e⟩ := R.bind_eq e
    show tD g d σ H (fun x H1 => tC (tyW' g t) σ H1 (fun y H2 => rIsi X.K [x, y] H2 Q))
    refine tD_go A e1 fun r1 H1 n1 A1 l1 => ?_
    split at e
    · rename_i s hs
      split at e
      · rename_i b hb
        cases e
        exact ⟨_, _, _, _, b, rfl, clsV, tyX_of G.con I A1.rel hs, I.kit _ _ _ hb, k r1 H1 n1 A1.rel trivial⟩
      · cases e
    · cases e
/-- a tuple of classes -/
inductive SCs (g : Cfg) (X : Cx) : List Expr → List String → Prop
  | nil : SCs g X [] []
  | cons {e : Expr} {es : List Expr} {t : String} {ts : List String} : SC g X e t → SCs g X es ts → starEach (e :: es) X.env = (false, eval e X.env) :: starEach es X.env → SCs g X (e :: es) (t :: ts)
def tCs (g : Cfg) (ts : List String) : TA := fun _ H Q => Q (ts.map (tyW' g)) H
theorem pa_cs {es : List Expr} {ts : List String} (h : SCs g X es ts) : PA X es (tCs g ts) := by
  induction h with
  | nil => exact pa_nil
  | cons h1 _ h3 ih => exact pa_imp (pa_cons h1 ih h3) fun σ H Q q => q
theorem kit_any {K : PySem.W.Frag} (I : IsiOk g K T cs) {s : String} : ∀ {ts : List String} {b : Bool}, tsI T s ts = some b → PySem.W.kitAny K (tyW g s) (ts.map (tyW g)) = some b
  | [], b, h => by cases h; exact kitAny_nil
  | t :: ts, b, h => by
    simp only [tsI] at h
    split at h
    · rename_i x y h1 h2
      cases h
      refine kitAny_cons (I.kit _ _ _ h1) (fun z => ?_) fun z => ?_
      · rw [z, Bool.false_or]; exact kit_any I h2
      · rw [z, Bool.true_or]
    · cases h
theorem paired_cls : ∀ ts : List String, Paired ClsV (ts.map (tyW' g)) (ts.map (tyW g))
  | [] => .nil
  | _ :: ts => .cons clsV (paired_cls ts)
theorem scs_len {es : List Expr} {ts : List String} (ht : SCs g X es ts) : ts.length = es.length := by
  induction ht with
  | nil => rfl
  | cons _ _ _ ih => rw [List.length_cons, List.length_cons, ih]
theorem se_isiT {es : List Expr} {ts : List String} {kk : Nat} {p2 : Pos} (G : Good g X) (I : IsiOk g X.K T cs) (hm : X.mg "isinstance" = none) (ha : SE g X a d) (ht : SCs g X es ts) (hg : Gl X "isinstance" := by rfl) (hp : Pl pos a [.Tuple es kk p2] X := by exact ⟨rfl, rfl⟩)
    (hs : starEach [.Tuple es kk p2] X.env = (false, eval (.Tuple es kk p2) X.env) :: starEach [] X.env := by rfl) (hl : es.length ≤ 1000 := by decide) :
    SE g X (.Call (.Name "isinstance" p) [a, .Tuple es kk p2] [] pos) (dIsiT g T cs d ts) :=
  pe_imp (pe_callB call_isiT hg hm (by decide +kernel) (pa_cons ha (pa_cons (pe_tup (pa_cs ht)) pa_nil hs) hp.1) (by decide) (by decide) hp.1 hp.2) fun σ H Q ⟨r, L, M, v, M', A, e, k⟩ => by
    obtain ⟨x, M1, e1, e⟩ := R.bind_eq e
    have hlen : ts.length = es.length := scs_len ht
    show tD g d σ H (fun x H1 => tTup (tCs g ts) σ H1 (fun y H2 => rIsiT X.K [x, y] H2 Q))
    refine tD_go A e1 fun r1 H1 n1 A1 l1 => ?_
    split at e
    · rename_i s hs
      split at e
      · rename_i b hb
        cases e
        refine ⟨by rw [List.length_map, hlen]; exact line6 (by omega), fun q hq => ?_⟩
        have R2 : Rel g r1 M' (upd H1 q (.tup (ts.map (tyW' g)))) := A1.rel.side hq
        exact ⟨_, q, _, _, _, b, rfl, upd_same, paired_cls ts, tyX_of G.con I R2 hs, kit_any I hb, k r1 _ n1 R2 trivial⟩
      · cases e
    · cases e
end
/-! ### calls of own defs -/
abbrev Fn := List Val → Mem → R Val
/-- a def's promise by its denotation -/
def spI (g : Cfg) (F : Fn) (n : Nat) : Sp := fun vs H Q _ => ∃ r args M v M', vs = args.map (mv g r) ∧ args.length = n ∧ Lts M.length args ∧ Rel g r M H ∧ F args M = .ok v M' ∧ Kont g r M v M' Q
theorem spI_len {F : Fn} {n : Nat} {vs : List V} {H : Hp} {Q : VK} {E : XK} (h : spI g F n vs H Q E) : vs.length = n := by
  obtain ⟨r, args, M, v, M', rfl, h, _⟩ := h
  rw [List.length_map]; exact h
def dCall (F : Fn) (ds : DA) : D := fun L M => (ds L M).bind fun vs M1 => F vs M1
section
variable {x : Str} {p pos : Pos} {e : Expr} {es : List Expr} {ds : DA} {k : Nat} {f : Addr} {fd : FuncData} {ps : List Str} {F : Fn}
/-- what a caller must know of a def -/
structure Callee (g : Cfg) (X : Cx) (k : Nat) (f : Addr) (F : Fn) (n : Nat) (dfl : List Val) : Prop where
  ex : ∃ (fd : FuncData) (ps : List Str) (ds : List Value), FnOk X.prog X.w X.K X.mg X.base CX0 k f fd ps (spI g F n) ∧ Binds X.K fd ps ds ∧ (∀ r, Vals (dfl.map (mv g r)) ds) ∧ ∀ n, Lts n dfl
  kp : PySem.W.keepIn X.K (.ref f) = true
theorem sp_of {F : Fn} {n : Nat} {dfl : List Val} {r : Nat → Addr} {M M' : Mem} {H : Hp} {vs : List Val} {v : Val} {Q : VK} {E : XK} (R : Rel g r M H) (l : Lts M.length vs) (ld : Lts M.length dfl) (e : F (vs ++ dfl) M = .ok v M') (hn : (vs ++ dfl).length = n) (k : Kont g r M v M' Q) :
    spI g F n (vs.map (mv g r) ++ dfl.map (mv g r)) H Q E := ⟨r, vs ++ dfl, M, v, M', by rw [List.map_append], hn, l.app ld, R, e, k⟩
def dArg (n : Nat) (dfl : List Val) (F : Fn) (ds : DA) : D := fun L M => (ds L M).bind fun vs M1 => if (vs ++ dfl).length = n then F (vs ++ dfl) M1 else .no
theorem se_call {n : Nat} {dfl : List Val} (C : Callee g X k f F n dfl) (hr : Room k X.A) (hm : X.mg x = some (.ref f)) (ha : SA g X (e :: es) ds) (hg : Gl X x := by rfl) (hdb : (x == ("__debug__" : Str)) = false := by decide) (hp : Pl pos e es X := by exact ⟨rfl, rfl⟩) :
    SE g X (.Call (.Name x p) (e :: es) [] pos) (dArg n dfl F ds) := by
  obtain ⟨fd, ps, dv, hF, hb, hd, ld⟩ := C.ex
  refine pe_imp (pe_call hF hr hg hm C.kp hb (hd (fun i => i)) pass0 ha hdb hp.1 hp.2) fun σ H Q ⟨r, L, M, v, M', A, e, q⟩ => ?_
  obtain ⟨vs, M1, e1, e⟩ := R.bind_eq e
  split at e
  · rename_i hn
    refine tDA_go A e1 fun r1 H1 n1 A1 l1 => ?_
    have ed : dfl.map (mv g r1) = dfl.map (mv g fun i => i) := mvs_eq (n := 0) (fun i h => absurd h (Nat.not_lt_zero i)) (ld 0)
    have z := sp_of (E := E0) A1.rel l1 (ld _) e hn fun r2 H2 n2 R2 l2 => q r2 H2 (n1.trans n2) R2 l2
    rw [ed] at z
    exact z
  · cases e
theorem se_call0 {n : Nat} {dfl : List Val} (C : Callee g X k f F n dfl) (hr : Room k X.A) (hm : X.mg x = some (.ref f)) (hg : Gl X x := by rfl) (hdb : (x == ("__debug__" : Str)) = false := by decide) :
    SE g X (.Call (.Name x p) [] [] pos) (dArg n dfl F aNil) := by
  obtain ⟨fd, ps, dv, hF, hb, hd, ld⟩ := C.ex
  refine pe_imp (pe_call0 hF hr hg hm C.kp hb (hd (fun i => i)) pass0 hdb) fun σ H Q ⟨r, L, M, v, M', A, e, q⟩ => ?_
  obtain ⟨vs, M1, e1, e⟩ := R.bind_eq e
  cases e1
  split at e
  · rename_i hn
    have ed : dfl.map (mv g r) = dfl.map (mv g fun i => i) := mvs_eq (n := 0) (fun i h => absurd h (Nat.not_lt_zero i)) (ld 0)
    have z := sp_of (E := E0) A.rel Lts.nil (ld _) e hn q
    rw [ed] at z
    exact z
  · cases e
/-! ### C(..) -/
/-- a class that is made; F: its __init__ -/
structure Maker (g : Cfg) (X : Cx) (k : Nat) (c : String) (F : Fn) (n : Nat) (dfl : List Val) : Prop where
  ex : ∃ (f : Addr) (fd : FuncData) (ps : List Str) (ds : List Value), Mk X.K (g.cl c) f ∧ FnOk X.prog X.w X.K X.mg X.base CX0 k f fd ps (spI g F n) ∧ Binds X.K fd ps ds ∧ (∀ r, Vals (dfl.map (mv g r)) ds) ∧ ∀ n, Lts n dfl
def dNew (n : Nat) (dfl : List Val) (c : String) (F : Fn) (ds : DA) : D := fun L M => (ds L M).bind fun vs M1 => if (vs ++ dfl).length + 1 = n then
  (F (.ref M1.length :: (vs ++ dfl)) (M1 ++ [.ins c []])).bind fun w M2 => match w with
  | .non => .ok (.ref M1.length) M2
  | _ => .no else .no
theorem new_go {n : Nat} {dfl : List Val} {c : String} {r1 : Nat → Addr} {M1 M' : Mem} {H1 : Hp} {vs : List Val} {v : Val} {Q : VK} {E : XK} (ld : ∀ n, Lts n dfl) (R1 : Rel g r1 M1 H1) (l1 : Lts M1.length vs) (hn : (vs ++ dfl).length + 1 = n)
    (e : ((F (.ref M1.length :: (vs ++ dfl)) (M1 ++ [.ins c []])).bind fun w M2 => match w with
      | .non => R.ok (Val.ref M1.length) M2
      | _ => .no) = .ok v M') (q : Kont g r1 M1 v M' Q) : ∀ x dx, H1 x = none → H1 dx = none → dx ≠ x →
      spI g F n (.ref x :: (vs.map (mv g r1) ++ dfl.map (mv g fun i => i))) (upd (upd H1 dx (.own x)) x (.ins (g.cl c) dx [])) (fun v H2 => v = .non ∧ Q (.ref x) H2) E := by
  intro x dx hx hdx hne
  obtain ⟨w, M2, e2, e⟩ := R.bind_eq e
  have hx2 : upd H1 dx (.own x) x = none := by rw [upd_ne (Ne.symm hne)]; exact hx
  have R2 : Rel g (ext r1 M1.length x) (M1 ++ [.ins c []]) (upd (upd H1 dx (.own x)) x (.ins (g.cl c) dx [])) :=
    (R1.side hdx).alloc (o := .ins c []) hx2 .ins fun _ h => by cases h
  have nx : Nxt r1 M1 (ext r1 M1.length x) (M1 ++ [.ins c []]) := nxt_ext
  have lx : (Val.ref M1.length).lt (M1 ++ [Ob.ins c []]).length := by show M1.length < _; simp
  refine ⟨ext r1 M1.length x, .ref M1.length :: (vs ++ dfl), M1 ++ [.ins c []], w, M2, ?_, by rw [List.length_cons]; exact hn, Lts.cons lx ((l1.mono nx.le).app (ld _)), R2, e2, fun r3 H3 n3 R3 l3 => ?_⟩
  · rw [List.map_cons, List.map_append, nx.mvs l1, mvs_eq (g := g) (r := fun i => i) (r' := ext r1 M1.length x) (n := 0) (fun i h => absurd h (Nat.not_lt_zero i)) (ld 0)]
    show V.ref x :: _ = V.ref (ext r1 M1.length x M1.length) :: _
    rw [ext_at]
  · split at e
    · cases e
      refine ⟨rfl, ?_⟩
      have z := q r3 H3 (nx.trans n3) R3 (lx.mono n3.le)
      have e3 : mv g r3 (.ref M1.length) = V.ref x := by
        rw [n3.mv lx]
        exact congrArg V.ref ext_at
      rwa [e3] at z
    · cases e
theorem se_new {n : Nat} {dfl : List Val} {c : String} (C : Maker g X k c F n dfl) (hr : Room (k + 1) X.A) (hm : X.mg x = some (.ref (g.cl c))) (ha : SA g X (e :: es) ds) (hg : Gl X x := by rfl) (hdb : (x == ("__debug__" : Str)) = false := by decide) (hp : Pl pos e es X := by exact ⟨rfl, rfl⟩) :
    SE g X (.Call (.Name x p) (e :: es) [] pos) (dNew n dfl c F ds) := by
  obtain ⟨f, fd, ps, dv, hM, hF, hb, hd, ld⟩ := C.ex
  refine pe_imp (pe_make hM hF hr hg hm hb (hd (fun i => i)) pass0 ha hdb hp.1 hp.2) fun σ H Q ⟨r, L, M, v, M', A, e, q⟩ => ?_
  obtain ⟨vs, M1, e1, e⟩ := R.bind_eq e
  split at e
  · rename_i hn
    exact tDA_go A e1 fun r1 H1 n1 A1 l1 => new_go ld A1.rel l1 hn e fun r2 H2 n2 R2 l2 => q r2 H2 (n1.trans n2) R2 l2
  · cases e
theorem se_new0 {n : Nat} {dfl : List Val} {c : String} (C : Maker g X k c F n dfl) (hr : Room (k + 1) X.A) (hm : X.mg x = some (.ref (g.cl c))) (hg : Gl X x := by rfl) (hdb : (x == ("__debug__" : Str)) = false := by decide) :
    SE g X (.Call (.Name x p) [] [] pos) (dNew n dfl c F aNil) := by
  obtain ⟨f, fd, ps, dv, hM, hF, hb, hd, ld⟩ := C.ex
  refine pe_imp (pe_make0 hM hF hr hg hm hb (hd (fun i => i)) pass0 hdb) fun σ H Q ⟨r, L, M, v, M', A, e, q⟩ => ?_
  obtain ⟨vs, M1, e1, e⟩ := R.bind_eq e
  cases e1
  split at e
  · rename_i hn
    exact new_go (vs := []) ld A.rel Lts.nil hn e q
  · cases e
end
/-! ### o.m(..), by the class of o -/
/-- the methods by their names: class, how many parameters, what it does -/
abbrev MTab := List (String × Fn)
structure MethOk (g : Cfg) (X : Cx) (k n : Nat) (c m : String) (F : Fn) : Prop where
  ex : ∃ (f : Addr) (fd : FuncData) (ps : List Str), Cls X.K (g.cl c) ∧ Meth X.K (g.cl c) (Str.ofString m) f ∧ FnOk X.prog X.w X.K X.mg X.base CX0 k f fd ps (spI g F n) ∧ Binds X.K fd ps []
def mfind (T : MTab) (c : String) : Option Fn := (T.find? fun p => p.1 == c).map (·.2)
theorem mfind_ok {T : MTab} {c : String} {F : Fn} {P : String → Fn → Prop} (hT : ∀ p ∈ T, P p.1 p.2) (h : mfind T c = some F) : P c F := by
  obtain ⟨p, hp, e⟩ := Option.map_eq_some_iff.mp h
  have h1 := hT p (List.mem_of_find?_eq_some hp)
  have h2 := List.find?_some hp
  rw [beq_iff_eq.mp h2, e] at h1
  exact h1
def dMeth (T : MTab) (m : String) (n : Nat) (d : D) (ds : DA) : D := fun L M => (d L M).bind fun x M1 => match x with
  | .ref a => (match M1[a]? with
    | some (.ins c fs) => (match mfind T c, getf fs m with
      | some F, none => (ds L M1).bind fun vs M2 => if vs.length + 1 = n then F (.ref a :: vs) M2 else .no
      | _, _ => .no)
    | _ => .no)
  | _ => .no
section
variable {o e : Expr} {es : List Expr} {d : D} {ds : DA} {k n : Nat} {m : String} {apos pos : Pos} {T : MTab}
theorem se_meth {pl : Sem Bool} (hT : ∀ p ∈ T, MethOk g X k n p.1 m p.2) (hr : Room k X.A) (ho : SE g X o d) (ha : SA g X (e :: es) ds) (hp : Pl pos e es X := by exact ⟨rfl, rfl⟩)
    (ht : eval (.Call (.Attribute o (Str.ofString m) apos) (e :: es) [] pos) X.env = (do
      let ov ← eval o X.env
      standAt apos.atName
      let (f, first) ← holding [ov] (getMethod ov (Str.ofString m) pl)
      callWith pos f first (backTo pos (starEach (e :: es) X.env)) (backToKw pos (keywordEach [] X.env))) := by rfl) :
    SE g X (.Call (.Attribute o (Str.ofString m) apos) (e :: es) [] pos) (dMeth T m n d ds) := by
  refine ⟨fun pins s σ H Q I ⟨r, L, M, v, M', A, e0, q⟩ => ?_⟩
  obtain ⟨x, M1, e1, e0⟩ := R.bind_eq e0
  refine PySem.W.methodCall_KW (pl := pl) (thn (ho.run pins s σ H _ I (tD_go A e1 (Q := fun x' H1 => ∃ r1, Nxt r M r1 M1 ∧ At g r1 L M1 σ H1 ∧ x' = mv g r1 x ∧ x.lt M1.length) fun r1 H1 n1 A1 l1 => ⟨r1, n1, A1, rfl, l1⟩)) fun u s1 ⟨x', H1, I1, rx, r1, n1, A1, ex, l1⟩ => ?_) ht
  cases x with
  | ref a =>
    simp only at e0
    split at e0
    · rename_i c fs hm
      split at e0
      · rename_i F h1 h2
        obtain ⟨vs, M2, e2, e0⟩ := R.bind_eq e0
        split at e0
        · rename_i hn
          obtain ⟨f, fd, ps, hc, hM, hF, hb⟩ := (mfind_ok (P := fun c F => MethOk g X k n c m F) hT h1).ex
          obtain ⟨w, hw, ho'⟩ := A1.rel.obj a _ hm
          cases ho'
          subst ex
          obtain rfl : u = Value.ref (r1 a) := rx
          refine getmeth_ok I1 hw hc hM (by rw [getf_ok, h2]; rfl) ?_
          refine PySem.W.callWith_K (first := [.ref (r1 a)]) (h₀ := X.base) I.ok.mod.kin hM.kp (thn (ha.run pos pins s1 σ H1 _ I1 (tDA_go A1 e2 (Q := fun ws H2 => ∃ r2, Nxt r1 M1 r2 M2 ∧ At g r2 L M2 σ H2 ∧ ws = vs.map (mv g r2) ∧ Lts M2.length vs) fun r2 H2 n2 A2 l2 => ⟨r2, n2, A2, rfl, l2⟩))
            fun us s2 ⟨ws, H2, I2, rr, r2, n2, A2, ew, l2⟩ => ⟨I2.kIn, ?_⟩) hp.1 hp.2
          refine run_fn (us := .ref (r1 a) :: us) (vs := .ref (r1 a) :: ws) hF hr hb .nil pass0 I2 (.cons rfl rr) ?_
          rw [List.append_nil, ew]
          refine ⟨r2, .ref a :: vs, M2, v, M', ?_, by rw [List.length_cons]; exact hn, Lts.cons (l1.mono n2.le) l2, A2.rel, e0, fun r3 H3 n3 R3 l3 => q r3 H3 ((n1.trans n2).trans n3) R3 l3⟩
          rw [List.map_cons]
          show V.ref (r1 a) :: _ = V.ref (r2 a) :: _
          rw [n2.eq a l1]
        · cases e0
      · cases e0
    · cases e0
  | _ => cases e0
theorem se_meth0 {pl : Sem Bool} (hT : ∀ p ∈ T, MethOk g X k n p.1 m p.2) (hr : Room k X.A) (ho : SE g X o d)
    (ht : eval (.Call (.Attribute o (Str.ofString m) apos) [] [] pos) X.env = (do
      let ov ← eval o X.env
      standAt apos.atName
      let (f, first) ← holding [ov] (getMethod ov (Str.ofString m) pl)
      callWith pos f first (backTo pos (starEach [] X.env)) (backToKw pos (keywordEach [] X.env))) := by rfl) :
    SE g X (.Call (.Attribute o (Str.ofString m) apos) [] [] pos) (dMeth T m n d aNil) := by
  refine ⟨fun pins s σ H Q I ⟨r, L, M, v, M', A, e0, q⟩ => ?_⟩
  obtain ⟨x, M1, e1, e0⟩ := R.bind_eq e0
  refine PySem.W.methodCall_KW (pl := pl) (thn (ho.run pins s σ H _ I (tD_go A e1 (Q := fun x' H1 => ∃ r1, Nxt r M r1 M1 ∧ At g r1 L M1 σ H1 ∧ x' = mv g r1 x ∧ x.lt M1.length) fun r1 H1 n1 A1 l1 => ⟨r1, n1, A1, rfl, l1⟩)) fun u s1 ⟨x', H1, I1, rx, r1, n1, A1, ex, l1⟩ => ?_) ht
  cases x with
  | ref a =>
    simp only at e0
    split at e0
    · rename_i c fs hm
      split at e0
      · rename_i F h1 h2
        obtain ⟨vs, M2, e2, e0⟩ := R.bind_eq e0
        cases e2
        split at e0
        · rename_i hn
          obtain ⟨f, fd, ps, hc, hM, hF, hb⟩ := (mfind_ok (P := fun c F => MethOk g X k n c m F) hT h1).ex
          obtain ⟨w, hw, ho'⟩ := A1.rel.obj a _ hm
          cases ho'
          subst ex
          obtain rfl : u = Value.ref (r1 a) := rx
          refine getmeth_ok I1 hw hc hM (by rw [getf_ok, h2]; rfl) ?_
          refine PySem.W.callWith_K0 (first := [.ref (r1 a)]) I1.kIn hM.kp (run_fn (us := [.ref (r1 a)]) (vs := [.ref (r1 a)]) hF hr hb .nil pass0 I1 (.cons rfl .nil) ?_)
          exact ⟨r1, [.ref a], M1, v, M', rfl, hn, Lts.cons l1 Lts.nil, A1.rel, e0, fun r3 H3 n3 R3 l3 => q r3 H3 (n1.trans n3) R3 l3⟩
        · cases e0
      · cases e0
    · cases e0
  | _ => cases e0
end
/-! ### C.m(self, ..): a def read off a class -/
structure CFun (K : PySem.W.Frag) (C : Addr) (m : Str) (f : Addr) : Prop where
  at_ : PySem.W.findCls K (.ref C) (.type "type") m = some (.val (.ref f))
  rd : PySem.W.readsIn K C (.type "type") = true
  ga : PySem.W.specialIn K (.ref C) "__getattribute__" = some (some (.builtin "type.__getattribute__"))
theorem se_cfn {x : Str} {p apos pos : Pos} {e : Expr} {es : List Expr} {ds : DA} {k n : Nat} {f : Addr} {F : Fn} {m : Str} {c : String} {pl : Sem Bool} (C : Callee g X k f F n []) (hr : Room k X.A) (hm : X.mg x = some (.ref (g.cl c))) (hC : CFun X.K (g.cl c) m f) (ha : SA g X (e :: es) ds)
    (hg : Gl X x := by rfl) (hdb : (x == ("__debug__" : Str)) = false := by decide) (hp : Pl pos e es X := by exact ⟨rfl, rfl⟩)
    (ht : eval (.Call (.Attribute (.Name x p) m apos) (e :: es) [] pos) X.env = (do
      let ov ← eval (.Name x p) X.env
      standAt apos.atName
      let (f, first) ← holding [ov] (getMethod ov m pl)
      callWith pos f first (backTo pos (starEach (e :: es) X.env)) (backToKw pos (keywordEach [] X.env))) := by rfl) :
    SE g X (.Call (.Attribute (.Name x p) m apos) (e :: es) [] pos) (dArg n [] F ds) := by
  obtain ⟨fd, ps, dv, hF, hb, hd, ld⟩ := C.ex
  have h0 : Vals [] dv := by simpa using hd (fun i => i)
  cases h0
  refine ⟨fun pins s σ H Q I ⟨r, L, M, v, M', A, e0, q⟩ => ?_⟩
  obtain ⟨vs, M1, e1, e0⟩ := R.bind_eq e0
  split at e0
  · rename_i hn
    rw [List.append_nil] at hn e0
    refine PySem.W.methodCall_KW (pl := pl) (ld_glob I hg hm ?_ hdb) ht
    refine PySem.W.method_cls I.kIn hC.ga ?_
    refine PySem.W.cls_value I.kIn hC.rd hC.at_ rfl ?_
    have I1 : Inv X pins σ H { s with toks := s.toks + 1 } := I.tok _
    refine PySem.W.callWith_K (first := []) (h₀ := X.base) I.ok.mod.kin C.kp (thn (ha.run pos pins _ σ H _ I1 (tDA_go A e1 (Q := fun ws H2 => ∃ r2, Nxt r M r2 M1 ∧ At g r2 L M1 σ H2 ∧ ws = vs.map (mv g r2) ∧ Lts M1.length vs) fun r2 H2 n2 A2 l2 => ⟨r2, n2, A2, rfl, l2⟩))
      fun us s2 ⟨ws, H2, I2, rr, r2, n2, A2, ew, l2⟩ => ⟨I2.kIn, ?_⟩) hp.1 hp.2
    refine run_fn (us := us) (vs := ws) hF hr hb .nil pass0 I2 rr ?_
    rw [List.append_nil, ew]
    exact ⟨r2, vs, M1, v, M', rfl, hn, l2, A2.rel, e0, fun r3 H3 n3 R3 l3 => q r3 H3 (n2.trans n3) R3 l3⟩
  · cases e0
end Pa

/-! What is walked; statements; comprehensions. -/
namespace Pa
open PySem PySem.Spec
open PyProof.Rows L2
open SX (S)
variable {g : Cfg} {X : Cx}
/-! ### what is walked -/
inductive Itb where
  | lst (v : Val) (n : Nat) | tup (v : Val) (n : Nat) | rng (lo c : Int) (n : Nat) | str (s : List Nat) | zip (v w : Val) (n : Nat)
def Itb.num : Itb → Nat
  | .lst _ n => n
  | .tup _ n => n
  | .rng _ _ n => n
  | .str s => s.length
  | .zip _ _ n => n
def yld (g : Cfg) : Itb → Nat → Mem → R Val
  | .lst v _, i, M => (match lstOf g M v with
    | some xs => R.of xs[i]? M
    | none => .no)
  | .tup v _, i, M => (match tupOf g M v with
    | some xs => R.of xs[i]? M
    | none => .no)
  | .rng lo c _, i, M => .ok (.int (lo + (i : Int) * c)) M
  | .str s, i, M => (match s[i]? with
    | some c => .ok (.str [c]) M
    | none => .no)
  | .zip v w _, i, M => (match lstOf g M v, lstOf g M w with
    | some xs, some ys => (match xs[i]?, ys[i]? with
      | some x, some y => .ok (.ref M.length) (M ++ [.tup [x, y]])
      | _, _ => .no)
    | _, _ => .no)
def fin (g : Cfg) : Itb → Nat → Mem → Bool
  | .lst v _, i, M => (match lstOf g M v with
    | some xs => decide (xs.length ≤ i)
    | none => false)
  | .tup v _, i, M => (match tupOf g M v with
    | some xs => decide (xs.length ≤ i)
    | none => false)
  | .rng _ _ n, i, _ => decide (n ≤ i)
  | .str s, i, _ => decide (s.length ≤ i)
  | .zip v w _, i, M => (match lstOf g M v, lstOf g M w with
    | some xs, some ys => decide (xs.length ≤ i ∨ ys.length ≤ i)
    | _, _ => false)
structure ItOk (g : Cfg) (K : PySem.W.Frag) (r0 : Nat → Addr) (M0 : Mem) (J : It) (b : Itb) : Prop where
  stop : ∀ r M H i, Nxt r0 M0 r M → Rel g r M H → fin g b i M = true → J.stop i H
  go : ∀ r M H i v M1, Nxt r0 M0 r M → Rel g r M H → i < b.num → yld g b i M = .ok v M1 → J.go i H ∧ ∀ x H', J.yld i H x H' → ∃ r1, Nxt r M r1 M1 ∧ Rel g r1 M1 H' ∧ x = mv g r1 v ∧ v.lt M1.length
abbrev DI := Loc → Mem → R Itb
def tI (g : Cfg) (K : PySem.W.Frag) (d : DI) : TI := fun σ H R => ∃ r L M b M', At g r L M σ H ∧ d L M = .ok b M' ∧ ∀ r' H' J, Nxt r M r' M' → Rel g r' M' H' → ItOk g K r' M' J b → R J H'
abbrev SI (g : Cfg) (X : Cx) (tg e : Expr) (d : DI) : Prop := PI X tg e (tI g X.K d)
theorem pi_imp {tg e : Expr} {t t' : TI} (h : PI X tg e t) (k : ∀ σ H R, t' σ H R → t σ H R) : PI X tg e t' := ⟨fun pins s σ H R I q => h.run pins s σ H R I (k σ H R q)⟩
theorem PI.or {tg e : Expr} {t t' : TI} (h : PI X tg e t) (h' : PI X tg e t') : PI X tg e (fun σ H R => t σ H R ∨ t' σ H R) := ⟨fun pins s σ H R I q => q.elim (h.run pins s σ H R I) (h'.run pins s σ H R I)⟩
theorem it_lst {K : PySem.W.Frag} (hK : ConOk g K) {r0 : Nat → Addr} {M0 : Mem} {v : Val} {p : Addr} {n : Nat} (hp : mv g r0 v = .ref p) (l : v.lt M0.length) : ItOk g K r0 M0 (Itl K p) (.lst v n) := by
  have same : ∀ {r M H xs}, Nxt r0 M0 r M → Rel g r M H → lstOf g M v = some xs → SqL K H p (xs.map (mv g r)) ∧ Lts M.length xs := fun {r M H xs} n R e => by
    obtain ⟨q, e1, e2, e3⟩ := lstOf_ok (K := K) hK R e
    rw [n.mv l, hp] at e1
    cases e1
    exact ⟨e2, e3⟩
  refine ⟨fun r M H i n R e => ?_, fun r M H i w M1 n R hi e => ?_⟩
  · simp only [fin] at e
    split at e
    · rename_i xs hx
      exact ⟨_, (same n R hx).1, by rw [List.length_map]; exact of_decide_eq_true e⟩
    · cases e
  · simp only [yld] at e
    split at e
    · rename_i xs hx
      obtain ⟨h1, h2⟩ := same n R hx
      obtain ⟨e1, rfl⟩ := Pa.R.of_eq e
      have hg : (xs.map (mv g r))[i]? = some (mv g r w) := by rw [List.getElem?_map, e1]; rfl
      refine ⟨⟨_, _, h1, hg⟩, fun x H' ⟨eh, hy⟩ => ?_⟩
      subst eh
      exact ⟨r, Nxt.refl, R, Option.some.inj ((hy _ h1).symm.trans hg), h2.get e1⟩
    · cases e
theorem it_tup {K : PySem.W.Frag} (hK : ConOk g K) {r0 : Nat → Addr} {M0 : Mem} {v : Val} {p : Addr} {n : Nat} (hp : mv g r0 v = .ref p) (l : v.lt M0.length) : ItOk g K r0 M0 (Itt K p) (.tup v n) := by
  have same : ∀ {r M H xs}, Nxt r0 M0 r M → Rel g r M H → tupOf g M v = some xs → SqT K H p (xs.map (mv g r)) ∧ Lts M.length xs := fun {r M H xs} n R e => by
    obtain ⟨q, e1, e2, e3⟩ := tupOf_ok (K := K) hK R e
    rw [n.mv l, hp] at e1
    cases e1
    exact ⟨e2, e3⟩
  refine ⟨fun r M H i n R e => ?_, fun r M H i w M1 n R hi e => ?_⟩
  · simp only [fin] at e
    split at e
    · rename_i xs hx
      exact ⟨_, (same n R hx).1, by rw [List.length_map]; exact of_decide_eq_true e⟩
    · cases e
  · simp only [yld] at e
    split at e
    · rename_i xs hx
      obtain ⟨h1, h2⟩ := same n R hx
      obtain ⟨e1, rfl⟩ := Pa.R.of_eq e
      have hg : (xs.map (mv g r))[i]? = some (mv g r w) := by rw [List.getElem?_map, e1]; rfl
      refine ⟨⟨_, _, h1, hg⟩, fun x H' ⟨eh, hy⟩ => ?_⟩
      subst eh
      exact ⟨r, Nxt.refl, R, Option.some.inj ((hy _ h1).symm.trans hg), h2.get e1⟩
    · cases e
theorem it_str {K : PySem.W.Frag} {r0 : Nat → Addr} {M0 : Mem} {s : List Nat} : ItOk g K r0 M0 (Its (S s)) (.str s) := by
  refine ⟨fun r M H i n R e => ?_, fun r M H i w M1 n R hi e => ?_⟩
  · show (S s).cps.size ≤ i
    have := of_decide_eq_true e
    simpa using this
  · simp only [yld] at e
    split at e
    · rename_i c hc
      cases e
      have hc' : (S s).cps[i]? = some c := by simpa using hc
      refine ⟨by show i < (S s).cps.size; have hi : i < s.length := hi; simpa using hi, fun x H' ⟨eh, c', h1, h2⟩ => ?_⟩
      subst eh h2
      have : c' = c := Option.some.inj (h1.symm.trans hc')
      subst this
      exact ⟨r, Nxt.refl, R, rfl, trivial⟩
    · cases e
theorem it_rng {K : PySem.W.Frag} {r0 : Nat → Addr} {M0 : Mem} {lo c : Int} {n : Nat} : ItOk g K r0 M0 (Itc lo c n) (.rng lo c n) := by
  refine ⟨fun r M H i _ R e => of_decide_eq_true (p := n ≤ i) e, fun r M H i w M1 n R hi e => ?_⟩
  simp only [yld] at e
  cases e
  exact ⟨hi, fun x H' ⟨eh, ex⟩ => by subst eh ex; exact ⟨r, Nxt.refl, R, rfl, trivial⟩⟩
theorem it_rng1 {K : PySem.W.Frag} {r0 : Nat → Addr} {M0 : Mem} {lo : Int} {n : Nat} : ItOk g K r0 M0 (Itr lo n) (.rng lo 1 n) := by
  refine ⟨fun r M H i _ R e => of_decide_eq_true (p := n ≤ i) e, fun r M H i w M1 n R hi e => ?_⟩
  simp only [yld] at e
  cases e
  exact ⟨hi, fun x H' ⟨eh, ex⟩ => by
    subst eh ex
    exact ⟨r, Nxt.refl, R, by show V.int _ = V.int _; rw [Int.mul_one], trivial⟩⟩
theorem it_zip {K : PySem.W.Frag} (hK : ConOk g K) {r0 : Nat → Addr} {M0 : Mem} {v w : Val} {p q : Addr} {n : Nat} (hp : mv g r0 v = .ref p) (hq : mv g r0 w = .ref q) (lv : v.lt M0.length) (lw : w.lt M0.length) : ItOk g K r0 M0 (Itz K p q) (.zip v w n) := by
  have same : ∀ {r M H xs v p}, mv g r0 v = .ref p → v.lt M0.length → Nxt r0 M0 r M → Rel g r M H → lstOf g M v = some xs → SqL K H p (xs.map (mv g r)) ∧ Lts M.length xs := fun {r M H xs v p} hp l n R e => by
    obtain ⟨q, e1, e2, e3⟩ := lstOf_ok (K := K) hK R e
    rw [n.mv l, hp] at e1
    cases e1
    exact ⟨e2, e3⟩
  refine ⟨fun r M H i n R e => ?_, fun r M H i z M1 n R hi e => ?_⟩
  · simp only [fin] at e
    split at e
    · rename_i xs ys hx hy
      exact ⟨_, _, (same hp lv n R hx).1, (same hq lw n R hy).1, by rw [List.length_map, List.length_map]; exact of_decide_eq_true e⟩
    · cases e
  · simp only [yld] at e
    split at e
    · rename_i xs ys hx hy
      obtain ⟨h1, h2⟩ := same hp lv n R hx
      obtain ⟨h3, h4⟩ := same hq lw n R hy
      split at e
      · rename_i x y e1 e2
        cases e
        have g1 : (xs.map (mv g r))[i]? = some (mv g r x) := by rw [List.getElem?_map, e1]; rfl
        have g2 : (ys.map (mv g r))[i]? = some (mv g r y) := by rw [List.getElem?_map, e2]; rfl
        refine ⟨⟨_, _, _, _, h1, h3, g1, g2⟩, fun u H' ⟨T, x', y', eu, hT, eh, k1, k2⟩ => ?_⟩
        have ex : x' = mv g r x := Option.some.inj ((k1 _ h1).symm.trans g1)
        have ey : y' = mv g r y := Option.some.inj ((k2 _ h3).symm.trans g2)
        subst eu eh ex ey
        exact ⟨ext r M.length T, nxt_ext, R.alloc (o := .tup [x, y]) hT .tup (Lts.cons (h2.get e1) (Lts.cons (h4.get e2) Lts.nil)), (congrArg V.ref ext_at).symm, by show M.length < _; simp⟩
      · cases e
    · cases e
def iSeq (g : Cfg) (d : D) : DI := fun L M => (d L M).bind fun v M1 => match v with
  | .str s => .ok (.str s) M1
  | _ => (match lstOf g M1 v with
    | some xs => .ok (.lst v xs.length) M1
    | none => (match tupOf g M1 v with
      | some xs => .ok (.tup v xs.length) M1
      | none => .no))
section
variable {tg e : Expr} {d : D}
theorem si_seq (G : Good g X) (ha : SE g X e d) : SI g X tg e (iSeq g d) :=
  pi_imp (PI.or (pi_str ha) (PI.or (pi_list ha) (pi_tup ha))) fun σ H Q ⟨r, L, M, b, M', A, e, k⟩ => by
    obtain ⟨v, M1, e1, e⟩ := R.bind_eq e
    have lists : ∀ v : Val, v.lt 0 ∨ True → d L M = .ok v M1 → (match lstOf g M1 v with
        | some xs => R.ok (Itb.lst v xs.length) M1
        | none => (match tupOf g M1 v with
          | some xs => .ok (.tup v xs.length) M1
          | none => .no)) = .ok b M' → iList X.K (tD g d) σ H Q ∨ iTup X.K (tD g d) σ H Q := fun v _ e1 e => by
      split at e
      · rename_i xs hx
        cases e
        refine .inl (tD_go A e1 fun r1 H1 n1 A1 l1 => ?_)
        obtain ⟨p, hp, hq, wf⟩ := lstOf_ok (K := X.K) G.con A1.rel hx
        exact ⟨p, hp, ⟨_, hq⟩, k r1 H1 _ n1 A1.rel (it_lst G.con hp l1)⟩
      · split at e
        · rename_i xs hx
          cases e
          refine .inr (tD_go A e1 fun r1 H1 n1 A1 l1 => ?_)
          obtain ⟨p, hp, hq, wf⟩ := tupOf_ok (K := X.K) G.con A1.rel hx
          exact ⟨p, hp, ⟨_, hq⟩, k r1 H1 _ n1 A1.rel (it_tup G.con hp l1)⟩
        · cases e
    cases v with
    | str s =>
      cases e
      exact .inl (tD_go A e1 fun r1 H1 n1 A1 l1 => ⟨_, rfl, k r1 H1 _ n1 A1.rel it_str⟩)
    | _ => exact .inr (lists _ (.inr trivial) e1 e)
end
def iR1 (a : DA) : DI := fun L M => (a L M).bind fun vs M1 => match vs with
  | [.int j] => if -1000000 ≤ j ∧ j ≤ 1000000 then .ok (.rng 0 1 j.toNat) M1 else .no
  | _ => .no
def iR2 (a : DA) : DI := fun L M => (a L M).bind fun vs M1 => match vs with
  | [.int i, .int j] => if -1000000 ≤ j ∧ j ≤ 1000000 ∧ -1000000 ≤ i ∧ i ≤ 1000000 then .ok (.rng i 1 (j - i).toNat) M1 else .no
  | _ => .no
def rcount (i j c : Int) : Nat := if i < j then ((j - i - 1) / c + 1).toNat else 0
def iR3 (a : DA) : DI := fun L M => (a L M).bind fun vs M1 => match vs with
  | [.int i, .int j, .int c] => if -1000000 ≤ j ∧ j ≤ 1000000 ∧ -1000000 ≤ i ∧ i ≤ 1000000 ∧ 0 < c ∧ c ≤ 1000 then .ok (.rng i c (rcount i j c)) M1 else .no
  | _ => .no
section
variable {tg a b c : Expr} {ds : DA} {p pos : Pos}
theorem si_r1 (hm : X.mg "range" = none) (ha : SA g X [a] ds) (hg : Gl X "range" := by rfl) (hs : starEach [a] X.env = [(false, eval a X.env)] := by rfl) : SI g X tg (.Call (.Name "range" p) [a] [] pos) (iR1 ds) :=
  pi_imp (pi_range1 hg hm ha hs) fun σ H Q ⟨r, L, M, b, M', A, e, k⟩ => by
    obtain ⟨vs, M1, e1, e⟩ := R.bind_eq e
    refine tDA_go A e1 fun r1 H1 n1 A1 l1 => ?_
    split at e
    · split at e
      · rename_i h
        cases e
        exact ⟨_, rfl, by omega, by omega, k r1 H1 _ n1 A1.rel it_rng1⟩
      · cases e
    · cases e
theorem si_r2 (hm : X.mg "range" = none) (ha : SA g X [a, b] ds) (hg : Gl X "range" := by rfl) (hs : starEach [a, b] X.env = [(false, eval a X.env), (false, eval b X.env)] := by rfl) (hs2 : starEach [b] X.env = [(false, eval b X.env)] := by rfl) : SI g X tg (.Call (.Name "range" p) [a, b] [] pos) (iR2 ds) :=
  pi_imp (pi_range2 hg hm ha hs hs2) fun σ H Q ⟨r, L, M, b, M', A, e, k⟩ => by
    obtain ⟨vs, M1, e1, e⟩ := R.bind_eq e
    refine tDA_go A e1 fun r1 H1 n1 A1 l1 => ?_
    split at e
    · split at e
      · rename_i h
        cases e
        exact ⟨_, _, rfl, ⟨by omega, by omega, by omega, by omega⟩, k r1 H1 _ n1 A1.rel it_rng1⟩
      · cases e
    · cases e
end
theorem small_of {i j c : Int} (h : -1000000 ≤ j ∧ j ≤ 1000000 ∧ -1000000 ≤ i ∧ i ≤ 1000000 ∧ 0 < c ∧ c ≤ 1000) : RgC i j c (rcount i j c) := by
  have hc : c > 0 := h.2.2.2.2.1
  have hd : (j - i - 1) / c ≤ 2000000 := by
    have h1 : (j - i - 1) / c ≤ (2000000 : Int) / c := Int.ediv_le_ediv hc (by omega)
    have h2 : (2000000 : Int) / c ≤ 2000000 := Int.ediv_le_self _ (by omega)
    omega
  have e : Builtin.Range.rangeSize i j c = (rcount i j c : Nat) := by
    unfold Builtin.Range.rangeSize rcount
    rw [if_pos hc]
    by_cases hij : i < j
    · rw [if_pos hij, if_pos hij]
      have : 0 ≤ (j - i - 1) / c := Int.ediv_nonneg (by omega) (by omega)
      omega
    · rw [if_neg hij, if_neg hij]; rfl
  refine ⟨by omega, by omega, ?_, e⟩
  have hb : (rcount i j c : Int) ≤ 2000001 := by
    unfold rcount
    split
    · have : 0 ≤ (j - i - 1) / c := Int.ediv_nonneg (by omega) (by omega)
      omega
    · exact Int.le_of_lt (by decide)
  have h0 : (0 : Int) ≤ (rcount i j c : Int) := Int.natCast_nonneg _
  have hm : (rcount i j c : Int) * c ≤ 2000001 * 1000 := Int.mul_le_mul hb h.2.2.2.2.2 (by omega) (by decide)
  have hm0 : 0 ≤ (rcount i j c : Int) * c := Int.mul_nonneg h0 (by omega)
  unfold Builtin.Range.small
  rw [e]
  simp only [Builtin.Range.rangeFitsLong, Bool.and_eq_true, Bool.or_eq_true, decide_eq_true_eq, beq_iff_eq]
  rw [if_pos hc]
  refine ⟨by omega, .inr ?_⟩
  rw [Bool.and_eq_true, decide_eq_true_eq, decide_eq_true_eq]
  omega
theorem si_r3 {tg a b c : Expr} {ds : DA} {p pos : Pos} (hm : X.mg "range" = none) (ha : SA g X [a, b, c] ds) (hg : Gl X "range" := by rfl) (hs : starEach [a, b, c] X.env = (false, eval a X.env) :: starEach [b, c] X.env := by rfl) (hpl : (backTo pos (starEach [b, c] X.env)).any (·.1) = false := by rfl) :
    SI g X tg (.Call (.Name "range" p) [a, b, c] [] pos) (iR3 ds) :=
  pi_imp (pi_range3 hg hm ha hs hpl) fun σ H Q ⟨r, L, M, b, M', A, e, k⟩ => by
    obtain ⟨vs, M1, e1, e⟩ := R.bind_eq e
    refine tDA_go A e1 fun r1 H1 n1 A1 l1 => ?_
    split at e
    · split at e
      · rename_i h
        cases e
        exact ⟨_, _, _, _, rfl, small_of h, k r1 H1 _ n1 A1.rel it_rng⟩
      · cases e
    · cases e
/-- zip of two lists -/
def jZip (g : Cfg) (a : DA) : DI := fun L M => (a L M).bind fun vs M1 => match vs with
  | [v, w] => (match lstOf g M1 v, lstOf g M1 w with
    | some xs, some ys => .ok (.zip v w (min xs.length ys.length)) M1
    | _, _ => .no)
  | _ => .no
/-! ### targets -/
abbrev DT := Val → Loc → Mem → R Loc
structure TgOk (g : Cfg) (K : PySem.W.Frag) (t : DT) (gt : TG) : Prop where
  ok : ∀ (r : Nat → Addr) (L : Loc) (M : Mem) (σ : L2.St) (H : Hp) (v : Val) (L' : Loc) (M' : Mem) (Q : L2.St → Hp → Prop), At g r L M σ H → v.lt M.length → t v L M = .ok L' M' → (∀ r' H', Nxt r M r' M' → Rel g r' M' H' → Lok M'.length L' → Q (mS g r' L') H') → gt (mv g r v) σ H Q
def tNm (i : Nat) : DT := fun v L M => .ok (L.set i (some v)) M
theorem tNm_ok {K : PySem.W.Frag} {i : Nat} : TgOk g K (tNm i) (gName i) := ⟨fun r L M σ H v L' M' Q A l e k => by
  cases e
  show Q (σ.set i (some (mv g r v))) H
  rw [A.sl, mS_set]
  exact k r H Nxt.refl A.rel (A.lok.set l)⟩
def setAll (L : Loc) : List Nat → List Val → Loc
  | i :: is, v :: vs => setAll (L.set i (some v)) is vs
  | _, _ => L
def tTp (g : Cfg) (is : List Nat) : DT := fun v L M => match tupOf g M v with
  | some xs => if xs.length = is.length then .ok (setAll L is xs) M else .no
  | none => .no
def gNames : List Nat → TGs
  | [] => gNil
  | i :: is => gCons (gName i) (gNames is)
theorem setAll_ok {r : Nat → Addr} {M : Mem} {H : Hp} {Q : L2.St → Hp → Prop} : ∀ {is : List Nat} {xs : List Val} {L : Loc}, xs.length = is.length → Lok M.length L → Lts M.length xs → (Lok M.length (setAll L is xs) → Q (mS g r (setAll L is xs)) H) → gNames is (xs.map (mv g r)) (mS g r L) H Q
  | [], [], L, _, lo, _, k => ⟨rfl, k lo⟩
  | [], _ :: _, _, h, _, _, _ => by cases h
  | _ :: _, [], _, h, _, _, _ => by cases h
  | i :: is, x :: xs, L, h, lo, l, k => by
    refine ⟨mv g r x, xs.map (mv g r), rfl, ?_⟩
    show gNames is (xs.map (mv g r)) ((mS g r L).set i (some (mv g r x))) H Q
    rw [mS_set]
    exact setAll_ok (Nat.succ.inj h) (lo.set (l x List.mem_cons_self)) (fun v hv => l v (List.mem_cons_of_mem _ hv)) k
theorem tTp_ok {K : PySem.W.Frag} (hK : ConOk g K) {is : List Nat} : TgOk g K (tTp g is) (gTup K is.length (gNames is)) := ⟨fun r L M σ H v L' M' Q A l e k => by
  simp only [tTp] at e
  split at e
  · rename_i xs hx
    split at e
    · rename_i hl
      cases e
      obtain ⟨p, hp, hq, wf⟩ := tupOf_ok (K := K) hK A.rel hx
      refine ⟨p, _, hp, hq, by rw [List.length_map]; exact hl, ?_⟩
      rw [A.sl]
      exact setAll_ok hl A.lok wf fun lo => k r H Nxt.refl A.rel lo
    · cases e
  · cases e⟩

theorem si_zip (G : Good g X) {elts : List Expr} {kk : Nat} {tpos : Pos} {e e2 : Expr} {ds : DA} {p pos : Pos} (hm : X.mg "zip" = none) (ha : SA g X [e, e2] ds) (hg : Gl X "zip" := by rfl)
    (hs : starEach [e, e2] X.env = (false, eval e X.env) :: starEach [e2] X.env := by rfl) (hpl : (backTo pos (starEach [e2] X.env)).any (·.1) = false := by rfl) :
    SI g X (.Tuple elts kk tpos) (.Call (.Name "zip" p) [e, e2] [] pos) (jZip g ds) :=
  pi_imp (pi_zip hg hm ha hs hpl) fun σ H Q ⟨r, L, M, b, M', A, e, k⟩ => by
    obtain ⟨vs, M1, e1, e⟩ := R.bind_eq e
    refine tDA_go A e1 fun r1 H1 n1 A1 l1 => ?_
    split at e
    · rename_i v w
      split at e
      · rename_i xs ys hx hy
        cases e
        obtain ⟨p, hp, hq, _⟩ := lstOf_ok (K := X.K) G.con A1.rel hx
        obtain ⟨p', hp', hq', _⟩ := lstOf_ok (K := X.K) G.con A1.rel hy
        exact ⟨p, p', _, _, by rw [List.map_cons, List.map_cons, hp, hp']; rfl, hq, hq', k r1 H1 _ n1 A1.rel (it_zip G.con hp hp' (l1 v (by simp)) (l1 w (by simp)))⟩
      · cases e
    · cases e
/-! ### targets as the text has them -/
structure STg (g : Cfg) (X : Cx) (e : Expr) (t : DT) : Prop where
  ex : ∃ gt, PG X e gt ∧ TgOk g X.K t gt
theorem stg_nm (G : Good g X) {i : Nat} {x : Str} {pos : Pos} (hi : X.N[i]? = some x := by rfl) (hx : L2.Loc X.env.scope x := by first | exact Or.inl rfl | exact Or.inr rfl) (hf : X.fn x = true ∨ X.env.scope.names.lookup x = some .local := by first | exact .inl rfl | exact .inr rfl) : STg g X (.Name x pos) (tNm i) :=
  ⟨gName i, pg_name G.nd hi hx hf, tNm_ok⟩
inductive PNs (X : Cx) : List Expr → List Nat → Prop
  | nil : PNs X [] []
  | cons {i : Nat} {x : Str} {pos : Pos} {es : List Expr} {is : List Nat} : X.N[i]? = some x → L2.Loc X.env.scope x → (X.fn x = true ∨ X.env.scope.names.lookup x = some .local) → PNs X es is → PNs X (.Name x pos :: es) (i :: is)
theorem PNs.pgs (hN : X.N.Nodup) {es : List Expr} {is : List Nat} (h : PNs X es is) : PGs X es (gNames is) := by
  induction h with
  | nil => exact pgs_nil
  | cons h1 h2 h3 _ ih => exact pgs_cons (pg_name hN h1 h2 h3) ih
theorem PNs.len {es : List Expr} {is : List Nat} (h : PNs X es is) : es.length = is.length := by
  induction h with
  | nil => rfl
  | cons _ _ _ _ ih => rw [List.length_cons, List.length_cons, ih]
theorem stg_tp (G : Good g X) {es : List Expr} {is : List Nat} {kk : Nat} {pos : Pos} (h : PNs X es is) (hn : (assignEach es X.env).length = is.length := by rfl) (hst : (assignEach es X.env).findIdx? (·.1) = none := by rfl) : STg g X (.Tuple es kk pos) (tTp g is) :=
  ⟨_, pg_tup G.calm (h.pgs G.nd) hn hst, tTp_ok G.con⟩
/-! ### statements -/
def xSkip : Ds := fun L M => .ok (.nx L) M
def xSeq (a b : Ds) : Ds := fun L M => (a L M).bind fun f M1 => match f with
  | .nx L1 => b L1 M1
  | .rt v => .ok (.rt v) M1
  | .bk L1 => .ok (.bk L1) M1
  | .ct L1 => .ok (.ct L1) M1
def xIf (c : D) (a b : Ds) : Ds := fun L M => (c L M).bind fun v M1 => match v with
  | .bl true => a L M1
  | .bl false => b L M1
  | _ => .no
def xRet (d : D) : Ds := fun L M => (d L M).bind fun v M1 => .ok (.rt v) M1
def xRetN : Ds := fun _ M => .ok (.rt .non) M
def xExpr (d : D) : Ds := fun L M => (d L M).bind fun _ M1 => .ok (.nx L) M1
def xBrk : Ds := fun L M => .ok (.bk L) M
def xCont : Ds := fun L M => .ok (.ct L) M
def xAsg (d : D) (t : DT) : Ds := fun L M => (d L M).bind fun v M1 => (t v L M1).bind fun L1 M2 => .ok (.nx L1) M2
def xSet (i : Nat) (d : D) : Ds := fun L M => (d L M).bind fun v M1 => .ok (.nx (L.set i (some v))) M1
def xFld (T : CTab) (o : D) (f : String) (d : D) : Ds := fun L M => (d L M).bind fun v M1 => (o L M1).bind fun x M2 => match x with
  | .ref a => (match M2[a]? with
    | some (.ins c fs) => if hasF T c f = true ∧ fs.length < 100 then .ok (.nx L) (M2.set a (.ins c (putf f v fs))) else .no
    | _ => .no)
  | _ => .no
def setIx (x y v : Val) (M : Mem) : R Unit := match x with
  | .ref a => (match M[a]? with
    | some (.lst xs) => (match y with
      | .int i => (match ixN xs.length i with
        | some j => .ok () (M.set a (.lst (xs.set j v)))
        | none => .no)
      | _ => .no)
    | some (.dk kvs) => (match keyOf y with
      | some k => if kvs.length < 1000000 then .ok () (M.set a (.dk (putk kvs k v))) else .no
      | none => .no)
    | some (.dt kvs) => (match tkeyOf M y with
      | some k => if kvs.length < 1000000 then .ok () (M.set a (.dt (putk kvs k v))) else .no
      | none => .no)
    | _ => .no)
  | _ => .no
def xSub (o i d : D) : Ds := fun L M => (d L M).bind fun v M1 => (o L M1).bind fun x M2 => (i L M2).bind fun y M3 => (setIx x y v M3).bind fun _ M4 => .ok (.nx L) M4
theorem ins_at {r : Nat → Addr} {M : Mem} {H : Hp} {a : Nat} {c : String} {fs : List (String × Val)} (R : Rel g r M H) (e : M[a]? = some (.ins c fs)) : ∃ dx, H (r a) = some (.ins (g.cl c) dx (fs.map (mfv g r))) := by
  obtain ⟨u, hu, x⟩ := R.obj a _ e
  cases x
  exact ⟨_, hu⟩
section
variable {e c : Expr} {d dc : D} {pos : Pos} {st : Stmt} {a b : List Stmt} {da db : Ds}
theorem sss_nil : SSs g X [] xSkip := pss_imp pss_nil fun D σ H ⟨r, L, M, f, M', A, e, k⟩ => by
  cases e
  have z : D.nx (mS g r L) H := (show Lok M.length L → D.nx (mS g r L) H from k r H Nxt.refl A.rel) A.lok
  rw [← A.sl] at z
  exact z
theorem sss_cons {ds : Ds} (h1 : SS g X st ds) (h2 : SSs g X b db) : SSs g X (st :: b) (xSeq ds db) := pss_imp (pss_cons h1 h2) fun D σ H ⟨r, L, M, f, M', A, e, k⟩ => by
  obtain ⟨f1, M1, e1, e⟩ := R.bind_eq e
  refine ⟨r, L, M, f1, M1, A, e1, fun r1 H1 n1 R1 => ?_⟩
  cases f1 with
  | nx L1 => exact fun lo => ⟨r1, L1, M1, f, M', At.of R1 lo, e, fun r2 H2 n2 R2 => k r2 H2 (n1.trans n2) R2⟩
  | rt v => cases e; exact k r1 H1 n1 R1
  | bk L1 => cases e; exact k r1 H1 n1 R1
  | ct L1 => cases e; exact k r1 H1 n1 R1
theorem sss_one {ds : Ds} (h1 : SS g X st ds) : SSs g X [st] ds := pss_one h1
theorem ss_if (hc : ST g X c dc) (ha : SSs g X a da) (hb : SSs g X b db) : SS g X (.If c a b pos) (xIf dc da db) := ps_imp (ps_if hc ha hb) fun D σ H ⟨r, L, M, f, M', A, e, k⟩ => by
  obtain ⟨v, M1, e1, e⟩ := R.bind_eq e
  split at e
  · exact tDT_go A e1 fun r1 H1 n1 A1 => iteT ⟨r1, L, M1, f, M', A1, e, fun r2 H2 n2 R2 => k r2 H2 (n1.trans n2) R2⟩
  · exact tDT_go A e1 fun r1 H1 n1 A1 => iteF ⟨r1, L, M1, f, M', A1, e, fun r2 H2 n2 R2 => k r2 H2 (n1.trans n2) R2⟩
  · cases e
theorem ss_ret (he : SE g X e d) : SS g X (.Return (some e) pos) (xRet d) := ps_imp (ps_ret he) fun D σ H ⟨r, L, M, f, M', A, e, k⟩ => by
  obtain ⟨v, M1, e1, e⟩ := R.bind_eq e
  cases e
  exact tD_go A e1 fun r1 H1 n1 A1 l1 => (show v.lt _ → D.rt (mv g r1 v) H1 from k r1 H1 n1 A1.rel) l1
theorem ss_retN : SS g X (.Return none pos) xRetN := ps_imp ps_retN fun D σ H ⟨r, L, M, f, M', A, e, k⟩ => by
  cases e
  exact (show Val.non.lt M.length → D.rt (mv g r Val.non) H from k r H Nxt.refl A.rel) trivial
theorem ss_expr (he : SE g X e d) (hs : swapsWith e none pos.line X.env = pure false := by rfl) : SS g X (.Expr e pos) (xExpr d) := ps_imp (ps_expr he hs) fun D σ H ⟨r, L, M, f, M', A, e, k⟩ => by
  obtain ⟨v, M1, e1, e⟩ := R.bind_eq e
  cases e
  refine tD_go A e1 fun r1 H1 n1 A1 l1 => ?_
  have z : D.nx (mS g r1 L) H1 := (show Lok _ L → D.nx (mS g r1 L) H1 from k r1 H1 n1 A1.rel) A1.lok
  rw [← A1.sl] at z
  exact z
theorem ss_pass : SS g X (.Pass pos) xSkip := ps_imp ps_pass fun D σ H ⟨r, L, M, f, M', A, e, k⟩ => by
  cases e
  have z : D.nx (mS g r L) H := (show Lok M.length L → D.nx (mS g r L) H from k r H Nxt.refl A.rel) A.lok
  rw [← A.sl] at z
  exact z
theorem ss_doc {x : Str} {j pos'} : SS g X (.Expr (.Constant (.str x) j pos) pos') xSkip := ps_imp ps_doc fun D σ H ⟨r, L, M, f, M', A, e, k⟩ => by
  cases e
  have z : D.nx (mS g r L) H := (show Lok M.length L → D.nx (mS g r L) H from k r H Nxt.refl A.rel) A.lok
  rw [← A.sl] at z
  exact z
theorem ss_brk : SS g X (.Break pos) xBrk := ps_imp ps_break fun D σ H ⟨r, L, M, f, M', A, e, k⟩ => by
  cases e
  have z : D.bk (mS g r L) H := (show Lok M.length L → D.bk (mS g r L) H from k r H Nxt.refl A.rel) A.lok
  rw [← A.sl] at z
  exact z
theorem ss_cont : SS g X (.Continue pos) xCont := ps_imp ps_continue fun D σ H ⟨r, L, M, f, M', A, e, k⟩ => by
  cases e
  have z : D.ct (mS g r L) H := (show Lok M.length L → D.ct (mS g r L) H from k r H Nxt.refl A.rel) A.lok
  rw [← A.sl] at z
  exact z
def xNever : Ds := fun _ _ => .no
theorem ss_never : SS g X st xNever := ps_imp ps_never fun D σ H ⟨r, L, M, f, M', A, e, k⟩ => by cases e
theorem ss_set (G : Good g X) {i : Nat} {x : Str} {pos' : Pos} (he : SE g X e d) (hi : X.N[i]? = some x := by rfl) (hx : L2.Loc X.env.scope x := by first | exact Or.inl rfl | exact Or.inr rfl) (hs : swapsWith e (some (.Name x pos')) pos.line X.env = pure false := by rfl)
    (hf : X.fn x = true ∨ X.env.scope.names.lookup x = some .local := by first | exact .inl rfl | exact .inr rfl) : SS g X (.Assign [.Name x pos'] e pos) (xSet i d) := ps_imp (ps_set G.nd hi hx he hs hf) fun D σ H ⟨r, L, M, f, M', A, e, k⟩ => by
  obtain ⟨v, M1, e1, e⟩ := R.bind_eq e
  cases e
  refine tD_go A e1 fun r1 H1 n1 A1 l1 => ?_
  show D.nx (σ.set i (some (mv g r1 v))) H1
  rw [A1.sl, mS_set]
  exact (show Lok _ (L.set i (some v)) → D.nx (mS g r1 (L.set i (some v))) H1 from k r1 H1 n1 A1.rel) (A1.lok.set l1)
theorem ss_asg {tg : Expr} {t : DT} (he : SE g X e d) (ht : STg g X tg t) (hs : swapsWithSole [tg] e pos.line X.env = pure false := by rfl) (hw : swappedStores [tg] e X.env = pure none := by rfl) (h3 : (assignEach [tg] X.env).map (·.2) = [assign tg X.env] := by rfl) : SS g X (.Assign [tg] e pos) (xAsg d t) := by
  obtain ⟨gt, h1, h2⟩ := ht.ex
  refine ps_imp (ps_asg he h1 hs hw h3) fun D σ H ⟨r, L, M, f, M', A, e, k⟩ => ?_
  obtain ⟨v, M1, e1, e⟩ := R.bind_eq e
  obtain ⟨L1, M2, e2, e⟩ := R.bind_eq e
  cases e
  refine tD_go A e1 fun r1 H1 n1 A1 l1 => ?_
  exact h2.ok r1 L M1 σ H1 v L1 _ _ A1 l1 e2 fun r2 H2 n2 R2 lo => (show Lok _ L1 → D.nx (mS g r2 L1) H2 from k r2 H2 (n1.trans n2) R2) lo
theorem ss_fld {T : CTab} (hT : TabOk g X.K T) {o : Expr} {f : String} {dd : D} {pos' : Pos} (ho : SE g X o dd) (he : SE g X e d) (hs : swapsWith e (some (.Attribute o (Str.ofString f) pos')) pos.line X.env = pure false := by rfl) : SS g X (.Assign [.Attribute o (Str.ofString f) pos'] e pos) (xFld T dd f d) :=
  ps_imp (ps_fld ho he hs) fun D σ H ⟨r, L, M, fl, M', A, e, k⟩ => by
    obtain ⟨v, M1, e1, e⟩ := R.bind_eq e
    obtain ⟨x, M2, e2, e⟩ := R.bind_eq e
    refine tD_go A e1 fun r1 H1 n1 A1 l1 => tD_go A1 e2 fun r2 H2 n2 A2 l2 => ?_
    split at e
    · rename_i a
      split at e
      · rename_i c fs hm
        split at e
        · rename_i hf
          cases e
          obtain ⟨dx, hu⟩ := ins_at A2.rel hm
          obtain ⟨c1, c2⟩ := hT.get hf.1
          refine ⟨_, _, _, _, rfl, hu, c1, c2, by rw [List.length_map]; omega, ?_⟩
          rw [← n2.mv l1, putf_ok]
          have R3 := A2.rel.put (o := .ins c (putf f v fs)) (u := .ins (g.cl c) dx ((putf f v fs).map (mfv g r2))) (lt_of_get hm) .ins (fun p hp => by
            rcases putf_mem hp with z | z
            · rw [z]; exact l1.mono n2.le
            · exact A2.rel.wf _ _ hm p z)
          have z : D.nx (mS g r2 L) _ := (show Lok _ L → D.nx (mS g r2 L) _ from k r2 _ ((n1.trans n2).trans nxt_set) R3) (by rw [List.length_set]; exact A2.lok)
          rw [← A2.sl] at z
          exact z
        · cases e
      · cases e
    · cases e
def rSetA : TSet := fun o i v H Q => rSetL o i v H Q ∨ rSetD o i v H Q
theorem set_all (hu : X.A.units + 1 < cLine) : PSet X rSetA := by
  intro pins s σ H o i v ov iv u Q I ro ri rv h
  rcases h with h | h
  · exact set_list pins s σ H o i v ov iv u Q I ro ri rv h
  · exact set_dict hu pins s σ H o i v ov iv u Q I ro ri rv h
theorem setIx_ok {r : Nat → Addr} {M M' : Mem} {H : Hp} {x y v : Val} {Q : Hp → Prop} (R : Rel g r M H) (lv : v.lt M.length) (e : setIx x y v M = .ok () M') (k : ∀ H', M'.length = M.length → Rel g r M' H' → Q H') : rSetA (mv g r x) (mv g r y) (mv g r v) H Q := by
  unfold setIx at e
  split at e
  · rename_i a
    split at e
    · rename_i xs hm
      split at e
      · rename_i i
        split at e
        · rename_i j hj
          cases e
          refine .inl ⟨_, _, i, j, rfl, rfl, lst_at R hm, by rw [List.length_map]; exact hj, ?_⟩
          have wf : Lts M.length xs := R.wf _ _ hm
          have z := k _ (List.length_set ..) (R.put (o := .lst (xs.set j v)) (lt_of_get hm) .lst (fun w hw => by
            rcases List.mem_or_eq_of_mem_set hw with z | z
            · exact wf w z
            · rw [z]; exact lv))
          rw [List.map_set] at z
          exact z
        · cases e
      · cases e
    · rename_i kvs hm
      split at e
      · rename_i key hk
        split at e
        · rename_i hl
          cases e
          obtain ⟨u, hu, x⟩ := R.obj _ _ hm
          cases x
          have wf := R.wf _ _ hm
          refine .inr ⟨_, _, rfl, .inl ⟨_, mk key, hu, keyOf_ok hk, by rw [List.length_map]; exact line6' hl, rfl⟩, ?_⟩
          have z := k _ (List.length_set ..) (R.put (o := .dk (putk kvs key v)) (lt_of_get hm) .dk (fun p hp => by
            rcases putk_mem hp with z | z
            · rw [z]; exact lv
            · exact wf p z))
          have ee : (putk kvs key v).map (mkv g r) = putK (kvs.map (mkv g r)) (mk key) (mv g r v) := (putK_map (f := mk) (h := mv g r) (fun _ _ => mk_inj) key v kvs).symm
          rw [ee] at z
          exact z
        · cases e
      · cases e
    · rename_i kvs hm
      split at e
      · rename_i key hk
        split at e
        · rename_i hl
          cases e
          obtain ⟨u, hu, x⟩ := R.obj _ _ hm
          cases x
          have wf := R.wf _ _ hm
          obtain ⟨b, hb, ht⟩ := tkeyOf_ok R hk
          refine .inr ⟨_, _, rfl, .inr ⟨_, key.map mk, b, hu, hb, ht, by rw [List.length_map]; exact line6' hl, rfl⟩, ?_⟩
          have z := k _ (List.length_set ..) (R.put (o := .dt (putk kvs key v)) (lt_of_get hm) .dt (fun p hp => by
            rcases putk_mem hp with z | z
            · rw [z]; exact lv
            · exact wf p z))
          have ee : (putk kvs key v).map (mkt g r) = putK (kvs.map (mkt g r)) (key.map mk) (mv g r v) := (putK_map (f := fun k : List DKey => k.map mk) (h := mv g r) (fun _ _ => mks_inj) key v kvs).symm
          rw [ee] at z
          exact z
        · cases e
      · cases e
    · cases e
  · cases e
abbrev PlSub (X : Cx) (o i : Expr) (pos : Pos) : Prop := ∀ v, assign (.Subscript o i pos) X.env v = (do
      let ov ← holding [v] (eval o X.env)
      let iv ← holding [v, ov] (eval i X.env)
      standAt pos
      holding [v, ov, iv] (setItem ov iv v)
      release [v, ov, iv] [])
theorem ss_sub (G : Good g X) {o i : Expr} {dd di : D} {pos' : Pos} (he : SE g X e d) (ho : SE g X o dd) (hi : SE g X i di) (hp : PlSub X o i pos' := by intro _; rfl)
    (hs : swapsWithSole [.Subscript o i pos'] e pos.line X.env = pure false := by rfl) (hw : swappedStores [.Subscript o i pos'] e X.env = pure none := by rfl) : SS g X (.Assign [.Subscript o i pos'] e pos) (xSub dd di d) :=
  ps_imp (ps_asg he (pg_sub ho hi (set_all G.u1) hp) hs hw) fun D σ H ⟨r, L, M, f, M', A, e, k⟩ => by
    obtain ⟨v, M1, e1, e⟩ := R.bind_eq e
    obtain ⟨x, M2, e2, e⟩ := R.bind_eq e
    obtain ⟨y, M3, e3, e⟩ := R.bind_eq e
    obtain ⟨u, M4, e4, e⟩ := R.bind_eq e
    cases e
    refine tD_go A e1 fun r1 H1 n1 A1 l1 => tD_go A1 e2 fun r2 H2 n2 A2 l2 => tD_go A2 e3 fun r3 H3 n3 A3 l3 => ?_
    rw [← n3.mv l2, ← (n2.trans n3).mv l1]
    refine setIx_ok A3.rel (l1.mono (n2.trans n3).le) e4 fun H4 hl R4 => ?_
    have n4 := Nxt.of_len (r := r3) hl
    have z : D.nx (mS g r3 L) H4 := (show Lok _ L → D.nx (mS g r3 L) H4 from k r3 H4 (((n1.trans n2).trans n3).trans n4) R4) (by rw [hl]; exact A3.lok)
    rw [← A3.sl] at z
    exact z
end

/-! ### for -/
def forL (g : Cfg) (it : Itb) (tg : DT) (body : Ds) : Nat → Nat → Ds
  | 0, i, L, M => if fin g it i M = true then .ok (.nx L) M else .no
  | n + 1, i, L, M => (yld g it i M).bind fun v M1 => (tg v L M1).bind fun L1 M2 => (body L1 M2).bind fun f M3 => match f with
    | .nx L2 => forL g it tg body n (i + 1) L2 M3
    | .ct L2 => forL g it tg body n (i + 1) L2 M3
    | .bk L2 => .ok (.nx L2) M3
    | .rt v => .ok (.rt v) M3
def xFor (g : Cfg) (it : DI) (tg : DT) (body : Ds) : Ds := fun L M => (it L M).bind fun b M1 => forL g b tg body b.num 0 L M1
/-- what is wanted behind -/
def FP (g : Cfg) (D : Ends) (r : Nat → Addr) (M : Mem) (f : Fl) (M' : Mem) : Prop := ∀ r' H', Nxt r M r' M' → Rel g r' M' H' → match f with
  | .nx L' => Lok M'.length L' → D.nx (mS g r' L') H'
  | .rt v => v.lt M'.length → D.rt (mv g r' v) H'
  | .bk L' => Lok M'.length L' → D.bk (mS g r' L') H'
  | .ct L' => Lok M'.length L' → D.ct (mS g r' L') H'
theorem FP.next {D : Ends} {r r1 : Nat → Addr} {M M1 M' : Mem} {f : Fl} (h : FP g D r M f M') (n : Nxt r M r1 M1) : FP g D r1 M1 f M' := fun r' H' n' R => h r' H' (n.trans n') R
theorem forL_ok {K : PySem.W.Frag} {it : Itb} {r0 : Nat → Addr} {M0 : Mem} {J : It} {t : DT} {gt : TG} {body : Ds} {D : Ends} (hit : ItOk g K r0 M0 J it) (ht : TgOk g K t gt) {f : Fl} {M' : Mem} : ∀ i m σ H,
    (∃ r L M, At g r L M σ H ∧ Nxt r0 M0 r M ∧ i + m = it.num ∧ forL g it t body m i L M = .ok f M' ∧ FP g D r M f M' ∧ ((∃ L', f = .nx L') ∨ ∃ v, f = .rt v)) →
    (J.stop i H ∧ D.nx σ H) ∨ (J.go i H ∧ ∃ N : L2.St → Hp → Prop, (∀ σ' H', N σ' H' → ∃ m', m' < m ∧ ∃ r L M, At g r L M σ' H' ∧ Nxt r0 M0 r M ∧ (i + 1) + m' = it.num ∧ forL g it t body m' (i + 1) L M = .ok f M' ∧ FP g D r M f M' ∧ ((∃ L', f = .nx L') ∨ ∃ v, f = .rt v)) ∧
      ∀ x H', J.yld i H x H' → gt x σ H' fun σ2 H2 => tDS g body { D with nx := N, ct := N, bk := D.nx } σ2 H2) := by
  rintro i m σ H ⟨r, L, M, A, n0, hm, e, k, hf⟩
  cases m with
  | zero =>
    simp only [forL] at e
    split at e
    · rename_i hfin
      cases e
      refine .inl ⟨hit.stop r M' H i n0 A.rel hfin, ?_⟩
      have z : D.nx (mS g r L) H := (show Lok _ L → D.nx (mS g r L) H from k r H Nxt.refl A.rel) A.lok
      rw [← A.sl] at z
      exact z
    · cases e
  | succ m =>
    simp only [forL] at e
    obtain ⟨v, M1, e1, e⟩ := R.bind_eq e
    obtain ⟨L1, M2, e2, e⟩ := R.bind_eq e
    obtain ⟨f1, M3, e3, e⟩ := R.bind_eq e
    obtain ⟨go, hy⟩ := hit.go r M H i v M1 n0 A.rel (by omega) e1
    refine .inr ⟨go, fun σ' H' => ∃ r L M, At g r L M σ' H' ∧ Nxt r0 M0 r M ∧ (i + 1) + m = it.num ∧ forL g it t body m (i + 1) L M = .ok f M' ∧ FP g D r M f M' ∧ ((∃ L', f = .nx L') ∨ ∃ v, f = .rt v), fun σ' H' h => ⟨m, Nat.lt_succ_self _, h⟩, fun x H1 hx => ?_⟩
    obtain ⟨r1, n1, R1, ex, l1⟩ := hy x H1 hx
    subst ex
    have A1 : At g r1 L M1 σ H1 := A.next n1 R1
    refine ht.ok r1 L M1 σ H1 v L1 M2 _ A1 l1 e2 fun r2 H2 n2 R2 lo => ?_
    refine ⟨r2, L1, M2, f1, M3, At.of R2 lo, e3, fun r3 H3 n3 R3 => ?_⟩
    have N3 := (n1.trans n2).trans n3
    cases f1 with
    | nx L2 => exact fun lo3 => ⟨r3, L2, M3, At.of R3 lo3, n0.trans N3, by omega, e, k.next N3, hf⟩
    | ct L2 => exact fun lo3 => ⟨r3, L2, M3, At.of R3 lo3, n0.trans N3, by omega, e, k.next N3, hf⟩
    | bk L2 => cases e; exact k r3 H3 N3 R3
    | rt v => cases e; exact k r3 H3 N3 R3
theorem forL_end {it : Itb} {t : DT} {body : Ds} : ∀ {m i : Nat} {L : Loc} {M : Mem} {f : Fl} {M' : Mem}, forL g it t body m i L M = .ok f M' → (∃ L', f = .nx L') ∨ ∃ v, f = .rt v
  | 0, i, L, M, f, M', e => by
    simp only [forL] at e
    split at e
    · cases e; exact .inl ⟨_, rfl⟩
    · cases e
  | m + 1, i, L, M, f, M', e => by
    simp only [forL] at e
    obtain ⟨v, M1, e1, e⟩ := R.bind_eq e
    obtain ⟨L1, M2, e2, e⟩ := R.bind_eq e
    obtain ⟨f1, M3, e3, e⟩ := R.bind_eq e
    cases f1 with
    | nx L2 => exact forL_end e
    | ct L2 => exact forL_end e
    | bk L2 => cases e; exact .inl ⟨_, rfl⟩
    | rt v => cases e; exact .inr ⟨_, rfl⟩
section
variable {e c : Expr} {d dc : D} {pos : Pos} {b : List Stmt} {db : Ds}
theorem ss_for (hp : PassesOwn (model X.prog X.w) X.A X.env X.xe) (G : Good g X) {tg : Expr} {t : DT} {di : DI} (hi : SI g X tg e di) (ht : STg g X tg t) (hb : SSs g X b db) (hs : ∀ x, foldedSetIterable e X.env x = pure x := by intro _; rfl) : SS g X (.For tg e b [] pos) (xFor g di t db) := by
  obtain ⟨gt, h1, h2⟩ := ht.ex
  refine ps_imp (ps_for hp G.calm hi h1 hb hs) fun D σ H ⟨r, L, M, f, M', A, e, k⟩ => ?_
  obtain ⟨it, M1, e1, e⟩ := R.bind_eq e
  refine ⟨r, L, M, it, M1, A, e1, fun r1 H1 J n1 R1 hJ => ?_⟩
  exact ⟨_, ⟨it.num, r1, L, M1, A.next n1 R1, Nxt.refl, by omega, e, FP.next k n1, forL_end e⟩, fun i m σ H => forL_ok hJ h2 i m σ H⟩
/-! ### while -/
def whL (c : D) (body : Ds) : Nat → Ds
  | 0, _, _ => .no
  | n + 1, L, M => (c L M).bind fun v M1 => match v with
    | .bl false => .ok (.nx L) M1
    | .bl true => (body L M1).bind fun f M2 => match f with
      | .nx L2 => whL c body n L2 M2
      | .ct L2 => whL c body n L2 M2
      | .bk L2 => .ok (.nx L2) M2
      | .rt v => .ok (.rt v) M2
    | _ => .no
def xWhile (n : Nat) (c : D) (body : Ds) : Ds := fun L M => whL c body n L M
theorem ss_while (hp : PassesOwn (model X.prog X.w) X.A X.env X.xe) (n : Nat) (hc : ST g X c dc) (hb : SSs g X b db) : SS g X (.While c b [] pos) (xWhile n dc db) := ps_imp (ps_while hp hc hb) fun D σ H ⟨r, L, M, f, M', A, e, k⟩ => by
  refine ⟨fun m σ H => ∃ r L M, At g r L M σ H ∧ whL dc db m L M = .ok f M' ∧ FP g D r M f M', ⟨n, r, L, M, A, e, k⟩, ?_⟩
  rintro m σ H ⟨r, L, M, A, e, k⟩
  cases m with
  | zero => cases e
  | succ m =>
    simp only [whL] at e
    obtain ⟨v, M1, e1, e⟩ := R.bind_eq e
    split at e
    · cases e
      refine tDT_go A e1 fun r1 H1 n1 A1 => ?_
      have z : D.nx (mS g r1 L) H1 := (show Lok _ L → D.nx (mS g r1 L) H1 from k r1 H1 n1 A1.rel) A1.lok
      rw [← A1.sl] at z
      exact z
    · obtain ⟨f1, M2, e2, e⟩ := R.bind_eq e
      refine tDT_go A e1 fun r1 H1 n1 A1 => ⟨fun σ' H' => ∃ r L M, At g r L M σ' H' ∧ whL dc db m L M = .ok f M' ∧ FP g D r M f M', fun σ' H' h => ⟨m, Nat.lt_succ_self _, h⟩, ?_⟩
      refine ⟨r1, L, M1, f1, M2, A1, e2, fun r2 H2 n2 R2 => ?_⟩
      have N2 := n1.trans n2
      cases f1 with
      | nx L2 => exact fun lo => ⟨r2, L2, M2, At.of R2 lo, e, k.next N2⟩
      | ct L2 => exact fun lo => ⟨r2, L2, M2, At.of R2 lo, e, k.next N2⟩
      | bk L2 => cases e; exact k r2 H2 N2 R2
      | rt v => cases e; exact k r2 H2 N2 R2
    · cases e
end
/-! ### [elt for target in iter if test] -/
def wipeL (L : Loc) : List Nat → Loc
  | [] => L
  | v :: vs => (wipeL L vs).set v none
theorem wipeL_ok {r : Nat → Addr} : ∀ (vs : List Nat) (L : Loc), mS g r (wipeL L vs) = wipe (mS g r L) vs
  | [], _ => rfl
  | v :: vs, L => by
    show mS g r ((wipeL L vs).set v none) = (wipe (mS g r L) vs).set v none
    rw [← wipeL_ok vs L]
    unfold mS
    rw [List.map_set]; rfl
theorem wipeL_lok {n : Nat} : ∀ {vs : List Nat} {L : Loc}, Lok n L → Lok n (wipeL L vs)
  | [], _, h => h
  | v :: vs, L, h => fun w hw => by
    rcases List.mem_or_eq_of_mem_set hw with z | z
    · exact wipeL_lok h w z
    · cases z
/-- a target that stores into the block's own slots alone -/
def Own (g : Cfg) (vs : List Nat) (t : DT) : Prop := ∀ v L M L' M', t v L M = .ok L' M' → M' = M ∧ wipeL L' vs = wipeL L vs
theorem own_nm {i : Nat} : Own g [i] (tNm i) := fun v L M L' M' e => by
  cases e
  refine ⟨rfl, ?_⟩
  show (L.set i (some v)).set i none = L.set i none
  rw [List.set_set]
def cYes : D := fun _ M => .ok (.bl true) M
def compL (g : Cfg) (it : Itb) (tg : DT) (tt te : D) (D0 : Nat) (L0 : Loc) : Nat → Nat → Mem → R Unit
  | 0, i, M => if fin g it i M = true then .ok () M else .no
  | n + 1, i, M => (yld g it i M).bind fun v M1 => (tg v L0 M1).bind fun L1 M2 => (tt L1 M2).bind fun b M3 => match b with
    | .bl true => (te L1 M3).bind fun y M4 => (match M4[D0]? with
      | some (.lst acc) => if acc.length < 1000000 then compL g it tg tt te D0 L0 n (i + 1) (M4.set D0 (.lst (acc ++ [y]))) else .no
      | _ => .no)
    | .bl false => compL g it tg tt te D0 L0 n (i + 1) M3
    | _ => .no
def dComp (g : Cfg) (it : DI) (tg : DT) (tt te : D) (vs : List Nat) : D := fun L M => (it L M).bind fun b M1 => (compL g b tg tt te M1.length (wipeL L vs) b.num 0 (M1 ++ [.lst []])).bind fun _ M2 => .ok (.ref M1.length) M2
theorem comp_ok {K : PySem.W.Frag} {it : Itb} {r0 : Nat → Addr} {M0 : Mem} {J : It} {t : DT} {gt : TG} {tt te : D} {vs : List Nat} {D : Nat} {Da : Addr} {L0 : Loc} {σ0 : L2.St} {Q : VK} (hit : ItOk g K r0 M0 J it) (ht : TgOk g K t gt) (ho : Own g vs t)
    (hw : wipeL L0 vs = L0) (lo : Lok M0.length L0) (hs : σ0 = mS g r0 L0) (hD : D = M0.length) {M' : Mem} : ∀ i m H,
    (∃ r M, Nxt r0 M0 r M ∧ D < M.length ∧ r D = Da ∧ Rel g r M H ∧ i + m = it.num ∧ compL g it t tt te D L0 m i M = .ok () M' ∧ ∀ r' H', Nxt r M r' M' → Rel g r' M' H' → Q (.ref Da) H') →
    (J.stop i H ∧ Q (.ref Da) H) ∨ (J.go i H ∧ ∃ N : Hp → Prop, (∀ H', N H' → ∃ m', m' < m ∧ ∃ r M, Nxt r0 M0 r M ∧ D < M.length ∧ r D = Da ∧ Rel g r M H' ∧ (i + 1) + m' = it.num ∧ compL g it t tt te D L0 m' (i + 1) M = .ok () M' ∧ ∀ r' H', Nxt r M r' M' → Rel g r' M' H' → Q (.ref Da) H') ∧
      ∀ x H', J.yld i H x H' → gt x σ0 H' fun σ2 H2 => wipe σ2 vs = σ0 ∧ tDT g tt σ2 H2 fun b H3 =>
        if b = true then tD g te σ2 H3 fun y H4 => ∃ acc, H4 Da = some (.lst acc) ∧ acc.length < sizeLine ∧ N (upd H4 Da (.lst (acc ++ [y]))) else N H3) := by
  rintro i m H ⟨r, M, n0, hDl, hDa, R0, hm, e, k⟩
  cases m with
  | zero =>
    simp only [compL] at e
    split at e
    · rename_i hfin
      cases e
      exact .inl ⟨hit.stop r M' H i n0 R0 hfin, k r H Nxt.refl R0⟩
    · cases e
  | succ m =>
    simp only [compL] at e
    obtain ⟨v, M1, e1, ea⟩ := R.bind_eq e
    obtain ⟨L1, M2, e2, eb⟩ := R.bind_eq ea
    obtain ⟨b, M3, e3, ec⟩ := R.bind_eq eb
    clear e ea eb
    obtain ⟨go, hy⟩ := hit.go r M H i v M1 n0 R0 (by omega) e1
    obtain ⟨em, ew⟩ := ho v L0 M1 L1 M2 e2
    subst em
    refine .inr ⟨go, fun H' => ∃ r M, Nxt r0 M0 r M ∧ D < M.length ∧ r D = Da ∧ Rel g r M H' ∧ (i + 1) + m = it.num ∧ compL g it t tt te D L0 m (i + 1) M = .ok () M' ∧ ∀ r' H', Nxt r M r' M' → Rel g r' M' H' → Q (.ref Da) H', fun H' h => ⟨m, Nat.lt_succ_self _, h⟩, fun x H1 hx => ?_⟩
    obtain ⟨r1, n1, R1, ex, l1⟩ := hy x H1 hx
    subst ex
    have N1 := n0.trans n1
    have A1 : At g r1 L0 M2 σ0 H1 := ⟨R1, lo.mono N1.le, by rw [hs]; exact (N1.sg lo).symm⟩
    refine ht.ok r1 L0 M2 σ0 H1 v L1 M2 _ A1 l1 e2 fun r2 H2 n2 R2 lo2 => ⟨?_, ?_⟩
    · rw [← wipeL_ok, ew, hw, hs]
      exact (N1.trans n2).sg lo
    have A2 : At g r2 L1 M2 (mS g r2 L1) H2 := At.of R2 lo2
    have fix : ∀ {r' : Nat → Addr} {M' : Mem}, Nxt r M r' M' → r' D = Da := fun {r' M'} n => by rw [n.eq D hDl]; exact hDa
    split at ec
    · obtain ⟨y, M4, e4, ed⟩ := R.bind_eq ec
      clear ec
      split at ed
      · rename_i acc hacc
        split at ed
        · rename_i hl
          refine tDT_go A2 e3 fun r3 H3 n3 A3 => iteT (tD_go A3 e4 fun r4 H4 n4 A4 l4 => ?_)
          have N4 := ((n1.trans n2).trans n3).trans n4
          have hr4 : r4 D = Da := fix N4
          refine ⟨acc.map (mv g r4), by rw [← hr4]; exact lst_at A4.rel hacc, by rw [List.length_map]; exact line6' hl, ?_⟩
          have wf : Lts M4.length acc := A4.rel.wf _ _ hacc
          have R5 := A4.rel.put (o := .lst (acc ++ [y])) (u := .lst ((acc ++ [y]).map (mv g r4))) (lt_of_get hacc) .lst (wf.app (Lts.cons l4 Lts.nil))
          rw [hr4, List.map_append] at R5
          have N5 : Nxt r M r4 (M4.set D (.lst (acc ++ [y]))) := N4.trans nxt_set
          exact ⟨r4, _, n0.trans N5, Nat.lt_of_lt_of_le hDl N5.le, hr4, R5, by omega, ed, fun r' H' n' R' => k r' H' (N5.trans n') R'⟩
        · cases ed
      · cases ed
    · refine tDT_go A2 e3 fun r3 H3 n3 A3 => iteF ?_
      have N3 := (n1.trans n2).trans n3
      exact ⟨r3, M3, n0.trans N3, Nat.lt_of_lt_of_le hDl N3.le, fix N3, A3.rel, by omega, ec, fun r' H' n' R' => k r' H' (N3.trans n') R'⟩
    · cases ec
end Pa

/-! Comprehensions as expressions; defs; the law's end. -/
namespace Pa
open PySem PySem.Spec
open PyProof.Rows L2
open SX (S)
variable {g : Cfg} {X : Cx}
abbrev Bk (X : Cx) (scope : Scope) (s : Shared) (H : Hp) (C : Addr) (cl : List (Str × Addr)) (fp : List Addr) : Cx := X.blk s H scope (compEnvC scope cl C X.env) fp
theorem Good.blk (G : Good g X) {scope : Scope} {s : Shared} {H : Hp} {C : Addr} {cl : List (Str × Addr)} {fp : List Addr} : Good g (Bk X scope s H C cl fp) := ⟨G.con, G.un, G.calm, G.nd⟩
theorem lc_go {G : Good g X} {gt : TG} {t : DT} {di : DI} {tt te : D} {vs : List Nat} {σ : L2.St} {H : Hp} {Q : VK} (hT : TgOk g X.K t gt) (ho : Own g vs t) (hw : ∀ L : Loc, wipeL (wipeL L vs) vs = wipeL L vs) (h : tD g (dComp g di t tt te vs) σ H Q) : tLc (tI g X.K di) gt (tDT g tt) (tD g te) vs σ H Q := by
  obtain ⟨r, L, M, v, M', A, e, k⟩ := h
  obtain ⟨it, M1, e1, e⟩ := R.bind_eq e
  obtain ⟨u, M2, e2, e⟩ := R.bind_eq e
  cases e
  refine ⟨r, L, M, it, M1, A, e1, fun r1 H1 J n1 R1 hJ D hD => ?_⟩
  have A1 : At g r1 L M1 σ H1 := A.next n1 R1
  have R2 : Rel g (ext r1 M1.length D) (M1 ++ [.lst []]) (upd H1 D (.lst [])) := R1.alloc (o := .lst []) hD .lst Lts.nil
  have lx : M1.length < (M1 ++ [Ob.lst []]).length := by simp
  have es : wipe σ vs = mS g r1 (wipeL L vs) := by rw [A1.sl, wipeL_ok]
  refine ⟨fun i m H => ∃ r M, Nxt r1 M1 r M ∧ M1.length < M.length ∧ r M1.length = D ∧ Rel g r M H ∧ i + m = it.num ∧ compL g it t tt te M1.length (wipeL L vs) m i M = .ok u M' ∧ ∀ r' H', Nxt r M r' M' → Rel g r' M' H' → Q (.ref D) H',
    ⟨it.num, ext r1 M1.length D, _, nxt_ext, lx, ext_at, R2, by omega, e2, fun r' H' n' R' => ?_⟩, fun i m H h => ?_⟩
  · have z := k r' H' (n1.trans (nxt_ext.trans n')) R' (show M1.length < M'.length from Nat.lt_of_lt_of_le lx n'.le)
    have e3 : mv g r' (.ref M1.length) = V.ref D := congrArg V.ref ((n'.eq _ lx).trans ext_at)
    rwa [e3] at z
  · rw [es]
    exact comp_ok (D := M1.length) (Da := D) (σ0 := mS g r1 (wipeL L vs)) hJ hT ho (hw L) (wipeL_lok A1.lok) rfl rfl i m H h
theorem wipe2_1 {i : Nat} (L : Loc) : wipeL (wipeL L [i]) [i] = wipeL L [i] := by
  show (L.set i none).set i none = L.set i none
  rw [List.set_set]
theorem wipe2_2 {i j : Nat} (L : Loc) : wipeL (wipeL L [i, j]) [i, j] = wipeL L [i, j] := by
  show ((((L.set j none).set i none).set j none).set i none) = (L.set j none).set i none
  by_cases h : i = j
  · subst h; simp only [List.set_set]
  · rw [List.set_comm none none h, List.set_set, List.set_set]
theorem wipe2_3 {i j k : Nat} (hij : i ≠ j) (hik : i ≠ k) (hjk : j ≠ k) (L : Loc) : wipeL (wipeL L [i, j, k]) [i, j, k] = wipeL L [i, j, k] := by
  show ((((((L.set k none).set j none).set i none).set k none).set j none).set i none) = ((L.set k none).set j none).set i none
  rw [List.set_comm none none hik, List.set_comm none none hjk, List.set_set, List.set_comm none none hij, List.set_set, List.set_set]
theorem own_tp1 {i j : Nat} (h : i ≠ j) : Own g [i, j] (tTp g [i, j]) := fun v L M L' M' e => by
  simp only [tTp] at e
  split at e
  · rename_i xs hx
    split at e
    · rename_i hl
      cases e
      refine ⟨rfl, ?_⟩
      match xs, hl with
      | [a, b], _ =>
        show ((((L.set i (some a)).set j (some b)).set j none).set i none) = (L.set j none).set i none
        rw [List.set_set, List.set_comm _ _ (Ne.symm h), List.set_set, List.set_comm _ _ h]
    · cases e
  · cases e
theorem own_tp2 {i j : Nat} (h : i ≠ j) : Own g [j, i] (tTp g [i, j]) := fun v L M L' M' e => by
  simp only [tTp] at e
  split at e
  · rename_i xs hx
    split at e
    · rename_i hl
      cases e
      refine ⟨rfl, ?_⟩
      match xs, hl with
      | [a, b], _ =>
        show ((((L.set i (some a)).set j (some b)).set i none).set j none) = (L.set i none).set j none
        rw [List.set_comm (some b) none (Ne.symm h), List.set_set, List.set_set]
    · cases e
  · cases e
theorem pts_no {Y : Cx} : PTs Y [] (tDT g cYes) := ⟨fun pins s σ H Q I ⟨r, L, M, b, M', A, e, k⟩ => by
  cases e
  exact (pts_nil (X := Y)).run pins s σ H Q I (k r H Nxt.refl A.rel)⟩
section
variable {elt tg iter : Expr} {ifs : List Expr} {scope : Scope} {own : List (Str × Nat)} {pos : Pos} {gt : TG} {t : DT} {di : DI} {tt te : D}
structure CompOk (g : Cfg) (X : Cx) (tg iter : Expr) (ifs : List Expr) (elt : Expr) (scope : Scope) (own : List (Str × Nat)) (gt : TG) (t : DT) (di : DI) (tt te : D) : Prop where
  hi : SI g X tg iter di
  ok : blkC X.N X.env.scope scope own = true
  hg : ∀ s H C cl fp, PG (Bk X scope s H C cl fp) tg gt
  ht : ∀ s H C cl fp, PTs (Bk X scope s H C cl fp) ifs (tDT g tt)
  he : ∀ s H C cl fp, SE g (Bk X scope s H C cl fp) elt te
  hT : TgOk g X.K t gt
  ho : Own g (own.map (·.2)) t
  hw : ∀ L : Loc, wipeL (wipeL L (own.map (·.2))) (own.map (·.2)) = wipeL L (own.map (·.2))
theorem se_comp (G : Good g X) (c : CompOk g X tg iter ifs elt scope own gt t di tt te) (hs : ∀ x, foldedSetIterable iter X.env x = pure x := by intro _; rfl) : SE g X (.ListComp elt [⟨tg, iter, ifs, 0⟩] scope pos) (dComp g di t tt te (own.map (·.2))) :=
  pe_imp (pe_lc G.calm G.nd c.hi (blkOk_by c.ok) c.hg c.ht c.he hs) fun _ _ _ h => lc_go (G := G) c.hT c.ho c.hw h
theorem ss_setLc (G : Good g X) {i : Nat} {y : Str} {py spos : Pos} (c : CompOk g X tg iter ifs elt scope own gt t di tt te) (hy : X.N[i]? = some y := by rfl) (hyl : X.env.scope.names.lookup y = some .local := by rfl)
    (hk : X.env.scope.kind = .function := by rfl) (hl : (py.line == pos.line) = true := by rfl) (hl2 : pos.line = spos.line := by rfl) (ha : (scope.names.any fun (n, k) => n == y && (k == .local || k == .cell)) = false := by decide +kernel) (hs : ∀ x, foldedSetIterable iter X.env x = pure x := by intro _; rfl) :
    SS g X (.Assign [.Name y py] (.ListComp elt [⟨tg, iter, ifs, 0⟩] scope pos) spos) (xSet i (dComp g di t tt te (own.map (·.2)))) :=
  ps_imp (ps_setLc G.calm G.nd hy hyl (sw_true hk hyl (by rw [← hl2] at *; exact hl) ha) c.hi (blkOk_by c.ok) c.hg c.ht c.he hs) fun D σ H ⟨r, L, M, f, M', A, e, k⟩ => by
    obtain ⟨v, M1, e1, e⟩ := R.bind_eq e
    cases e
    refine lc_go (G := G) c.hT c.ho c.hw (tD_go A e1 fun r1 H1 n1 A1 l1 => ?_)
    show D.nx (σ.set i (some (mv g r1 v))) H1
    rw [A1.sl, mS_set]
    exact (show Lok _ (L.set i (some v)) → D.nx (mS g r1 (L.set i (some v))) H1 from k r1 H1 n1 A1.rel) (A1.lok.set l1)
end
/-! ### a def -/
def runD (n : Nat) (d : Ds) : Fn := fun args M => (d (args.map some ++ List.replicate (n - args.length) none) M).bind fun f M1 => match f with
  | .nx _ => .ok .non M1
  | .rt v => .ok v M1
  | _ => .no
section
variable {P : Program} {w : World} {K : PySem.W.Frag} {mg : Str → Option Value} {base : Heap}
abbrev DX (P : Program) (w : World) (K : PySem.W.Frag) (mg : Str → Option Value) (base : Heap) (N : List Str) (qual : Str) (scope : Scope) (f : Addr) (cdv : Value) (A : Around) (outer : List Env) (s : Shared) (H : Hp) (E : XK) : Cx := (cxOf CX0 P w K mg base N qual scope f cdv A outer s H E).nox
theorem fn_ok {x qual : Str} {params : Arguments} {body : List Stmt} {scope : Scope} {dvs : List V} {f : Addr} {fd : FuncData} {N ps : List Str} {k : Nat} {d : Ds} (hK : ConOk g K) (F : FunD K x qual params body scope dvs [] f fd) (Sc : FnScope N ps scope)
    (hb : ∀ cdv A outer s H E, Room k A → Good g (DX P w K mg base N qual scope f cdv A outer s H E) → Room k (DX P w K mg base N qual scope f cdv A outer s H E).A → SSs g (DX P w K mg base N qual scope f cdv A outer s H E) body d) : FnOk P w K mg base CX0 (k + 1) f fd ps (spI g (runD N.length d) ps.length) := by
  refine F.ok Sc (fun vs H Q E h => spI_len h) fun cdv A outer s H vs Q E hr h => ?_
  have hr' : Room k (DX P w K mg base N qual scope f cdv A outer s H E).A := hr
  have hA : Room k A := ⟨hr.hd, by have := hr.dp; show A.depth + _ + _ < _; have e : (A.deeper (envOfC qual scope s.heap.objs.size f cdv)).depth = A.depth + 1 := rfl; omega, by have := hr.un; have e : (A.deeper (envOfC qual scope s.heap.objs.size f cdv)).units = A.units + 3 := rfl; omega⟩
  have G : Good g (DX P w K mg base N qual scope f cdv A outer s H E) := ⟨hK, hr.units, rfl, Sc.nd⟩
  refine ⟨_, (hb cdv A outer s H E hA G hr').nox, ?_⟩
  obtain ⟨r, args, M, v, M', rfl, hl, lo, R0, e, k⟩ := h
  obtain ⟨fl, M1, e1, e⟩ := R.bind_eq e
  have es : L2.start N (args.map (mv g r)) = mS g r (args.map some ++ List.replicate (N.length - args.length) none) := by
    unfold L2.start mS
    rw [List.map_append, List.map_map, List.map_map, List.map_replicate, List.length_map]
    rfl
  rw [es]
  have lk : Lok M.length (args.map some ++ List.replicate (N.length - args.length) none) := fun w hw => by
    rcases List.mem_append.mp hw with hw | hw
    · obtain ⟨u, hu, eu⟩ := List.mem_map.mp hw
      cases eu
      exact lo _ hu
    · rw [List.mem_replicate] at hw
      cases hw.2
  refine ⟨r, _, M, fl, M1, At.of R0 lk, e1, fun r1 H1 n1 R1 => ?_⟩
  cases fl with
  | nx L1 =>
    cases e
    intro _
    exact k r1 H1 n1 R1 trivial
  | rt u =>
    cases e
    intro lu
    exact k r1 H1 n1 R1 lu
  | bk L1 => cases e
  | ct L1 => cases e
theorem fn_zero {f : Addr} {fd : FuncData} {ps : List Str} {n : Nat} : FnOk P w K mg base CX0 0 f fd ps (spI g (fun _ _ => .no) ps.length) := by
  refine ⟨fun vs H Q E h => spI_len h, fun A outer s H args us vs Q E hr e0 hb hv h => ?_⟩
  obtain ⟨r, args, M, v, M', _, _, _, _, e, _⟩ := h
  cases e
end
end Pa

/-! A whole text: its defs, its facts, its end. -/
namespace Pa
open PySem PySem.Spec
open PyProof.Rows L2
open SX (S)
/-- a def of the text: where it stands, its statement, its parameters, its slots, what it denotes (over the config and the other defs by number) -/
structure FD where
  at_ : Str × Option Str
  name : Str
  qual : Str
  st : Stmt
  ps : List Str
  N : List Str
  den : Cfg → (Nat → Fn) → Ds
def FD.D (d : FD) : He.DefD := ⟨d.at_, d.name, d.qual, defArgs d.st, defBody d.st, defScope d.st, [], []⟩
/-- what the defs do, by number, n calls deep -/
def cal (g : Cfg) (fds : List FD) : Nat → Nat → Fn
  | 0, _ => fun _ _ => .no
  | n + 1, i => match fds[i]? with
    | some d => runD d.N.length (d.den g (cal g fds n))
    | none => fun _ _ => .no
/-- a law's text -/
structure Lw where
  fds : List FD
  T : CTab
  I : List (String × String × Bool)
  cs : List String
  frees : List String
  clss : List String
  cons : List (String × Val)
  tups : List (Nat × String × List Val)
  makers : List (String × Nat)
  meths : List (String × String × Nat)
  cfns : List (String × String × Nat)
def Lw.con (lw : Lw) (k : Nat) : Option (Bool × List Val) := (lw.tups.find? fun p => p.1 == k).map fun p => (false, p.2.2)
def Lw.coName (lw : Lw) (k : Nat) : String := ((lw.tups.find? fun p => p.1 == k).map fun p => p.2.1).getD ""
/-- sa: where the script stands, where it is an object of the module; sc: its items then -/
def Lw.cfg (lw : Lw) (K : PySem.W.Frag) (sa : Addr) (sc : Option (List Val)) : Cfg where
  cl := fun c => He.ga K (Str.ofString c)
  ca := fun k => if k = 0 then sa else He.ga K (Str.ofString (lw.coName k))
  con := fun k => if k = 0 then sc.map fun xs => (true, xs) else lw.con k
def Lw.ad (lw : Lw) (K : PySem.W.Frag) (i : Nat) : Addr := match lw.fds[i]? with
  | some d => He.fAd K d.at_
  | none => 0
/-! ### what is checked of the written part -/
def freeB (K : PySem.W.Frag) (x : String) : Bool := decide (PySem.W.nsIn K mainGlobals (Str.ofString x) = some none)
def gloB (K : PySem.W.Frag) (x : Str) : Bool := decide (PySem.W.nsIn K mainGlobals x = some (some (.ref (He.ga K x))))
def valB (v : Val) (u : Value) : Bool := match v, u with
  | .non, .none => true
  | .bl a, .bool b => a == b
  | .int i, .int j _ => decide (i = j)
  | .str s, .str x _ => decide (x = S s)
  | _, _ => false
theorem valB_ok {v : Val} {u : Value} (h : valB v u = true) : (∀ g r, RelV (mv g r v) u) ∧ ∀ n, v.lt n := by
  unfold valB at h
  split at h
  · exact ⟨fun _ _ => rfl, fun _ => trivial⟩
  · rename_i a b
    have e := beq_iff_eq.mp h
    subst e
    exact ⟨fun _ _ => rfl, fun _ => trivial⟩
  · rename_i i j t
    have e := of_decide_eq_true h
    subst e
    exact ⟨fun _ _ => ⟨t, rfl⟩, fun _ => trivial⟩
  · rename_i s x t
    have e := of_decide_eq_true h
    subst e
    exact ⟨fun _ _ => ⟨t, rfl⟩, fun _ => trivial⟩
  · cases h
def conB (K : PySem.W.Frag) (p : String × Val) : Bool := match PySem.W.nsIn K mainGlobals (Str.ofString p.1) with
  | some (some u) => valB p.2 u
  | _ => false
def valsB : List Val → List Value → Bool
  | [], [] => true
  | v :: vs, u :: us => valB v u && valsB vs us
  | _, _ => false
theorem valsB_ok : ∀ {vs : List Val} {us : List Value}, valsB vs us = true → (∀ g r, Vals (vs.map (mv g r)) us) ∧ ∀ n, Lts n vs
  | [], [], _ => ⟨fun _ _ => .nil, fun _ => Lts.nil⟩
  | [], _ :: _, h => by cases h
  | _ :: _, [], h => by cases h
  | v :: vs, u :: us, h => by
    obtain ⟨h1, h2⟩ := Bool.and_eq_true_iff.mp h
    obtain ⟨a, b⟩ := valB_ok h1
    obtain ⟨c, d⟩ := valsB_ok h2
    exact ⟨fun g r => .cons (a g r) (c g r), fun n => Lts.cons (b n) (d n)⟩
def tupB (K : PySem.W.Frag) (p : Nat × String × List Val) : Bool := gloB K (Str.ofString p.2.1) && (p.1 != 0 && (match K.lookup (He.ga K (Str.ofString p.2.1)) with
  | some ⟨.type c, _, .seq its _, _⟩ => decide (c = "tuple") && (decide (its.size ≤ 1000000) && valsB p.2.2 its.toList)
  | _ => false))
def clsB (K : PySem.W.Frag) (C : Addr) : Bool := PySem.W.plainGet K C Str.empty && (PySem.W.hasDictIn K C && (PySem.W.plainOver K C && decide (PySem.W.findIn K (.ref C) "__setattr__" = some (some (.builtin "object.__setattr__")))))
theorem clsB_ok {K : PySem.W.Frag} {C : Addr} (h : clsB K C = true) : Cls K C := by
  simp only [clsB, Bool.and_eq_true, decide_eq_true_eq] at h
  exact ⟨h.1, h.2.1, h.2.2.1, h.2.2.2⟩
def tabB (g : Cfg) (K : PySem.W.Frag) (p : String × List String) : Bool := clsB K (g.cl p.1) && p.2.all fun f => decide (PySem.W.findIn K (.ref (g.cl p.1)) (Str.ofString f) = some none)
def isiB (g : Cfg) (K : PySem.W.Frag) (p : String × String × Bool) : Bool := decide (PySem.W.kitOne K (tyW g p.1) (tyW g p.2.1) = some p.2.2)
def ownB (g : Cfg) (K : PySem.W.Frag) (c : String) : Bool := !bts.contains c && (clsB K (g.cl c) && (decide (PySem.W.findIn K (.ref (g.cl c)) "__class__" = some (some (.builtin "object.__class__"))) && decide (PySem.W.mroIn K (g.cl c) (.type "object") = some true)))
def getB (K : PySem.W.Frag) : Bool := decide (PySem.W.specialIn K (.builtin "object.__class__") "__get__" = some (some (.builtin "getset_descriptor.__get__"))) && decide (PySem.W.takesIn K (.builtin "object.__class__") = some true)
def mkB (lw : Lw) (g : Cfg) (K : PySem.W.Frag) (p : String × Nat) : Bool := PySem.W.makesIn K (g.cl p.1) && (decide (PySem.W.findIn K (.ref (g.cl p.1)) "__init__" = some (some (.ref (lw.ad K p.2)))) && (PySem.W.isFn K (.ref (lw.ad K p.2)) && PySem.W.keepIn K (.ref (g.cl p.1))))
def methB (lw : Lw) (g : Cfg) (K : PySem.W.Frag) (p : String × String × Nat) : Bool := clsB K (g.cl p.1) && (decide (PySem.W.findIn K (.ref (g.cl p.1)) (Str.ofString p.2.1) = some (some (.ref (lw.ad K p.2.2)))) && (PySem.W.isFn K (.ref (lw.ad K p.2.2)) && PySem.W.keepIn K (.ref (lw.ad K p.2.2))))
def cfnB (lw : Lw) (g : Cfg) (K : PySem.W.Frag) (p : String × String × Nat) : Bool := (match PySem.W.findCls K (.ref (g.cl p.1)) (.type "type") (Str.ofString p.2.1) with | some (.val v) => decide (v = .ref (lw.ad K p.2.2)) | _ => false) && (PySem.W.readsIn K (g.cl p.1) (.type "type") &&
  decide (PySem.W.specialIn K (.ref (g.cl p.1)) "__getattribute__" = some (some (.builtin "type.__getattribute__"))))
def lwB (lw : Lw) (K : PySem.W.Frag) : Bool :=
  let g := lw.cfg K 0 none
  lw.frees.all (freeB K) && (lw.clss.all (fun c => gloB K (Str.ofString c)) && (lw.fds.all (fun d => match d.at_.2 with | none => gloB K d.at_.1 | some _ => true) && (lw.cons.all (conB K) && (lw.tups.all (tupB K) && (lw.T.all (tabB g K) && (lw.I.all (isiB g K) &&
    (lw.cs.all (ownB g K) && (getB K && (lw.makers.all (mkB lw g K) && (lw.meths.all (methB lw g K) && lw.cfns.all (cfnB lw g K)))))))))))
/-! ### the facts -/
structure LF (lw : Lw) (g : Cfg) (K : PySem.W.Frag) (mg : Str → Option Value) : Prop where
  con : ConOk g K
  tab : TabOk g K lw.T
  isi : IsiOk g K lw.I lw.cs
  fr : ∀ x ∈ lw.frees, mg (Str.ofString x) = none
  cons : ∀ p ∈ lw.cons, ∃ u, mg (Str.ofString p.1) = some u ∧ (∀ r, RelV (mv g r p.2) u) ∧ ∀ n, p.2.lt n
  tups : ∀ p ∈ lw.tups, mg (Str.ofString p.2.1) = some (.ref (g.ca p.1))
  cls : ∀ c ∈ lw.clss, mg (Str.ofString c) = some (.ref (g.cl c))
  glo : ∀ d ∈ lw.fds, d.at_.2 = none → mg d.at_.1 = some (.ref (He.fAd K d.at_))
  mks : ∀ p ∈ lw.makers, Mk K (g.cl p.1) (lw.ad K p.2)
  meth : ∀ p ∈ lw.meths, Cls K (g.cl p.1) ∧ Meth K (g.cl p.1) (Str.ofString p.2.1) (lw.ad K p.2.2)
  cfn : ∀ p ∈ lw.cfns, CFun K (g.cl p.1) (Str.ofString p.2.1) (lw.ad K p.2.2)
theorem find_uniq {l : List (Nat × String × List Val)} {k : Nat} {p : Nat × String × List Val} (h : l.find? (fun p => p.1 == k) = some p) : p ∈ l ∧ p.1 = k := ⟨List.mem_of_find?_eq_some h, by simpa using List.find?_some h⟩
/-- the constants' numbers are unlike -/
def Lw.ok (lw : Lw) : Bool := decide ((lw.tups.map (·.1)).Nodup)
theorem find_of_nodup : ∀ {l : List (Nat × String × List Val)}, (l.map (·.1)).Nodup → ∀ {p}, p ∈ l → l.find? (fun q => q.1 == p.1) = some p
  | [], _, p, h => by cases h
  | q :: l, hn, p, h => by
    rw [List.map_cons, List.nodup_cons] at hn
    rw [List.find?_cons]
    by_cases e : q.1 = p.1
    · have e2 : (q.1 == p.1) = true := beq_iff_eq.mpr e
      rw [e2]
      rcases List.mem_cons.mp h with rfl | h
      · rfl
      · exact absurd (List.mem_map.mpr ⟨p, h, e.symm⟩) hn.1
    · have e2 : (q.1 == p.1) = false := beq_eq_false_iff_ne.mpr e
      rw [e2]
      rcases List.mem_cons.mp h with rfl | h
      · exact absurd rfl e
      · exact find_of_nodup hn.2 h
theorem lf_of {lw : Lw} {K : PySem.W.Frag} {h : Heap} {mg : Str → Option Value} {sa : Addr} {sc : Option (List Val)} (hok : lw.ok = true) (X : K.In h) (G : h.Ns mainGlobals mg) (b : lwB lw K = true)
    (hs : ∀ xs, sc = some xs → (∀ n, Lts n xs) ∧ ∀ g r H, SqL K H sa (xs.map (mv g r))) : LF lw (lw.cfg K sa sc) K mg := by
  simp only [lwB, Bool.and_eq_true, List.all_eq_true] at b
  obtain ⟨b1, b2, b3, b4, b5, b6, b7, b8, b9, b10, b11, b12⟩ := b
  have hnd := of_decide_eq_true hok
  have glo : ∀ {x : Str}, gloB K x = true → mg x = some (.ref (He.ga K x)) := fun {x} e => PySem.W.mg_of X G (of_decide_eq_true e)
  refine ⟨fun k b xs e => ?_, fun p hp => ?_, ⟨fun s t b e => ?_, fun c hc => ?_, ?_, ?_⟩, fun x hx => PySem.W.mg_none_of X G (of_decide_eq_true (b1 x hx)), fun p hp => ?_, fun p hp => ?_, fun c hc => glo (b2 c hc), fun d hd e => ?_, fun p hp => ?_, fun p hp => ?_, fun p hp => ?_⟩
  · by_cases hk : k = 0
    · subst hk
      have e' : sc.map (fun xs => (true, xs)) = some (b, xs) := e
      obtain ⟨ys, hy, ez⟩ := Option.map_eq_some_iff.mp e'
      cases ez
      obtain ⟨h1, h2⟩ := hs _ hy
      exact ⟨h1, fun r => if_pos rfl ▸ fun H => h2 _ r H⟩
    · have e' : lw.con k = some (b, xs) := by
        have := e
        simpa only [Lw.cfg, hk, if_false] using this
      obtain ⟨p, hp, ez⟩ := Option.map_eq_some_iff.mp e'
      cases ez
      obtain ⟨hm, hpk⟩ := find_uniq hp
      have hb := b5 p hm
      simp only [tupB, Bool.and_eq_true] at hb
      obtain ⟨g1, g2, g3⟩ := hb
      cases q : K.lookup (He.ga K (Str.ofString p.2.1)) with
      | none => rw [q] at g3; cases g3
      | some o =>
        obtain ⟨oc, od, dt, sl⟩ := o
        rw [q] at g3
        cases oc with
        | type c =>
          cases dt with
          | seq its n =>
            simp only [Bool.and_eq_true, decide_eq_true_eq] at g3
            obtain ⟨rfl, hz, hv⟩ := g3
            obtain ⟨v1, v2⟩ := valsB_ok hv
            have hca : (lw.cfg K sa sc).ca k = He.ga K (Str.ofString p.2.1) := by
              have hn : lw.coName k = p.2.1 := by
                unfold Lw.coName
                rw [hp]; rfl
              show (if k = 0 then sa else He.ga K (Str.ofString (lw.coName k))) = _
              rw [if_neg hk, hn]
            refine ⟨v2, fun r => ?_⟩
            rw [if_neg (by decide), hca]
            exact fun H => .inr ⟨_, its, n, q, rfl, rfl, line6 hz, v1 _ r⟩
          | _ => cases g3
        | _ => cases g3
  · have hb := b6 p hp
    simp only [tabB, Bool.and_eq_true, List.all_eq_true, decide_eq_true_eq] at hb
    exact ⟨clsB_ok hb.1, fun f hf => hb.2 f hf⟩
  · obtain ⟨p, hp, ez⟩ := Option.map_eq_some_iff.mp e
    have hm := List.mem_of_find?_eq_some hp
    have hq := List.find?_some hp
    simp only [Bool.and_eq_true, beq_iff_eq] at hq
    have hb := of_decide_eq_true (b7 p hm)
    rw [hq.1, hq.2, ez] at hb
    exact hb
  · have hb := b8 c hc
    simp only [ownB, Bool.and_eq_true, decide_eq_true_eq, Bool.not_eq_true'] at hb
    exact ⟨hb.1, clsB_ok hb.2.1, hb.2.2.1, hb.2.2.2⟩
  · simp only [getB, Bool.and_eq_true, decide_eq_true_eq] at b9
    exact b9.1
  · simp only [getB, Bool.and_eq_true, decide_eq_true_eq] at b9
    exact b9.2
  · have hb := b4 p hp
    unfold conB at hb
    cases q : PySem.W.nsIn K mainGlobals (Str.ofString p.1) with
    | none => rw [q] at hb; cases hb
    | some o =>
      rw [q] at hb
      cases o with
      | none => cases hb
      | some u =>
        obtain ⟨v1, v2⟩ := valB_ok hb
        exact ⟨u, PySem.W.mg_of X G q, fun r => v1 _ r, v2⟩
  · have hb := b5 p hp
    simp only [tupB, Bool.and_eq_true, bne_iff_ne] at hb
    have e := glo hb.1
    have hn : lw.coName p.1 = p.2.1 := by
      unfold Lw.coName
      rw [find_of_nodup hnd hp]; rfl
    show _ = some (Value.ref (if p.1 = 0 then sa else He.ga K (Str.ofString (lw.coName p.1))))
    rw [if_neg hb.2.1, hn]
    exact e
  · have hb := b3 d hd
    rw [e] at hb
    have e2 := glo hb
    rw [e2]
    show _ = some (Value.ref (match d.at_.2 with | none => He.ga K d.at_.1 | some m => He.ma K (He.ga K d.at_.1) m))
    rw [e]
  · have hb := b10 p hp
    simp only [mkB, Bool.and_eq_true, decide_eq_true_eq] at hb
    exact ⟨hb.1, hb.2.1, hb.2.2.1, hb.2.2.2⟩
  · have hb := b11 p hp
    simp only [methB, Bool.and_eq_true, decide_eq_true_eq] at hb
    exact ⟨clsB_ok hb.1, hb.2.1, hb.2.2.1, hb.2.2.2⟩
  · have hb := b12 p hp
    simp only [cfnB, Bool.and_eq_true, decide_eq_true_eq] at hb
    obtain ⟨h1, h2, h3⟩ := hb
    cases q : PySem.W.findCls K (.ref ((lw.cfg K 0 none).cl p.1)) (.type "type") (Str.ofString p.2.1) with
    | none => rw [q] at h1; cases h1
    | some o =>
      rw [q] at h1
      cases o with
      | val v =>
        have e := of_decide_eq_true h1
        subst e
        exact ⟨q, h2, h3⟩
      | _ => cases h1
end Pa

/-! A whole text: its defs, its facts, its end. -/
/-! All defs at once; a law's end. -/
namespace Pa
open PySem PySem.Spec
open PyProof.Rows L2
open SX (S)
variable {lw : Lw} {g : Cfg} {X : Cx} {n : Nat}
/-- what a def's body may use -/
structure Env (lw : Lw) (g : Cfg) (X : Cx) (n : Nat) : Prop where
  G : Good g X
  room : Room (2 * n + 1) X.A
  lf : LF lw g X.K X.mg
  bd : ∀ (i : Nat) (d : FD), lw.fds[i]? = some d → ∀ (kV doc pm : Value) (an : Option Addr) (cdv ct : Value) (us : List Value), us.length = d.ps.length → bindArgs (PySem.W.fnOf d.name d.qual (defArgs d.st) (defBody d.st) (defScope d.st) .none kV doc pm an cdv ct) ⟨us, []⟩ = pure (d.ps.zip us)
  ok : ∀ (i : Nat) (d : FD), lw.fds[i]? = some d → ∃ fd, FunD X.K d.name d.qual (defArgs d.st) (defBody d.st) (defScope d.st) [] [] (lw.ad X.K i) fd ∧ FnOk X.prog X.w X.K X.mg X.base CX0 (2 * n) (lw.ad X.K i) fd d.ps (spI g (cal g lw.fds n i) d.ps.length)
structure FDok (lw : Lw) (d : FD) : Prop where
  sc : FnScope d.N d.ps (defScope d.st)
  bd : ∀ (kV doc pm : Value) (an : Option Addr) (cdv ct : Value) (us : List Value), us.length = d.ps.length → bindArgs (PySem.W.fnOf d.name d.qual (defArgs d.st) (defBody d.st) (defScope d.st) .none kV doc pm an cdv ct) ⟨us, []⟩ = pure (d.ps.zip us)
  bod : ∀ {g P w K mg base f cdv A outer s H E n}, Env lw g (DX P w K mg base d.N d.qual (defScope d.st) f cdv A outer s H E) n → SSs g (DX P w K mg base d.N d.qual (defScope d.st) f cdv A outer s H E) (defBody d.st) (d.den g (cal g lw.fds n))
theorem Env.r0 (V : Env lw g X n) : Room (2 * n) X.A := V.room.mono (Nat.le_succ _)
theorem Env.callee (V : Env lw g X n) {i : Nat} {d : FD} (h : lw.fds[i]? = some d) : Callee g X (2 * n) (lw.ad X.K i) (cal g lw.fds n i) d.ps.length [] := by
  obtain ⟨fd, F, ok⟩ := V.ok i d h
  exact ⟨⟨fd, d.ps, [], ok, F.bindsN (V.bd i d h), fun _ => .nil, fun _ => Lts.nil⟩, F.kp⟩
theorem Env.glo (V : Env lw g X n) {i : Nat} {d : FD} (h : lw.fds[i]? = some d) (e : d.at_.2 = none) : X.mg d.at_.1 = some (.ref (lw.ad X.K i)) := by
  have z := V.lf.glo d (List.mem_of_getElem? h) e
  rw [z]
  unfold Lw.ad
  rw [h]
theorem Env.free (V : Env lw g X n) (i : Nat) {x : String} (h : lw.frees[i]? = some x := by rfl) : X.mg (Str.ofString x) = none := V.lf.fr x (List.mem_of_getElem? h)
theorem Env.cls (V : Env lw g X n) (i : Nat) {c : String} (h : lw.clss[i]? = some c := by rfl) : X.mg (Str.ofString c) = some (.ref (g.cl c)) := V.lf.cls c (List.mem_of_getElem? h)
theorem Env.con (V : Env lw g X n) (i : Nat) {x : String} {v : Val} (h : lw.cons[i]? = some (x, v) := by rfl) : ∃ u, X.mg (Str.ofString x) = some u ∧ (∀ r, RelV (mv g r v) u) ∧ ∀ n, v.lt n := V.lf.cons (x, v) (List.mem_of_getElem? h)
theorem Env.tup (V : Env lw g X n) (i : Nat) {k : Nat} {x : String} {vs : List Val} (h : lw.tups[i]? = some (k, x, vs) := by rfl) : X.mg (Str.ofString x) = some (.ref (g.ca k)) := V.lf.tups (k, x, vs) (List.mem_of_getElem? h)
theorem Env.maker (V : Env lw g X n) (j : Nat) {c : String} {i : Nat} {d : FD} (h : lw.makers[j]? = some (c, i)) (hd : lw.fds[i]? = some d) : Maker g X (2 * n) c (cal g lw.fds n i) d.ps.length [] := by
  obtain ⟨fd, F, ok⟩ := V.ok i d hd
  exact ⟨⟨_, fd, d.ps, [], V.lf.mks (c, i) (List.mem_of_getElem? h), ok, F.bindsN (V.bd i d hd), fun _ => .nil, fun _ => Lts.nil⟩⟩
theorem Env.meth (V : Env lw g X n) (j : Nat) {c m : String} {i : Nat} {d : FD} (h : lw.meths[j]? = some (c, m, i)) (hd : lw.fds[i]? = some d) : MethOk g X (2 * n) d.ps.length c m (cal g lw.fds n i) := by
  obtain ⟨fd, F, ok⟩ := V.ok i d hd
  obtain ⟨h1, h2⟩ := V.lf.meth (c, m, i) (List.mem_of_getElem? h)
  exact ⟨_, fd, d.ps, h1, h2, ok, F.bindsN (V.bd i d hd)⟩
theorem Env.cfn (V : Env lw g X n) (j : Nat) {c m : String} {i : Nat} (h : lw.cfns[j]? = some (c, m, i) := by rfl) : CFun X.K (g.cl c) (Str.ofString m) (lw.ad X.K i) := V.lf.cfn (c, m, i) (List.mem_of_getElem? h)
theorem Env.gc (V : Env lw g X n) (i : Nat) {x : String} {v : Val} (h : lw.cons[i]? = some (x, v) := by rfl) : GloC g X (Str.ofString x) v := by
  obtain ⟨u, h1, h2, h3⟩ := V.con i h
  exact ⟨⟨u, h1, h2⟩, h3⟩
theorem Env.gt (V : Env lw g X n) (i : Nat) {k : Nat} {x : String} {vs : List Val} (h : lw.tups[i]? = some (k, x, vs) := by rfl) : GloC g X (Str.ofString x) (.con k) := ⟨⟨_, V.tup i h, fun _ => rfl⟩, fun _ => trivial⟩
theorem ml_cons {k n : Nat} {c m : String} {F : Fn} {T : MTab} (h : MethOk g X k n c m F) (hT : ∀ p ∈ T, MethOk g X k n p.1 m p.2) : ∀ p ∈ (c, F) :: T, MethOk g X k n p.1 m p.2 := fun p hp => by
  rcases List.mem_cons.mp hp with rfl | hp
  · exact h
  · exact hT p hp
/-- a comprehension's inside -/
theorem Env.blk (V : Env lw g X n) {scope : Scope} {s : Shared} {H : Hp} {C : Addr} {cl : List (Str × Addr)} {fp : List Addr} : Env lw g (Bk X scope s H C cl fp) n := ⟨V.G.blk, V.room, V.lf, V.bd, V.ok⟩
theorem all_ok {P : Program} {w : World} {K : PySem.W.Frag} {mg : Str → Option Value} {base : Heap} (hK : LF lw g K mg) (hfd : ∀ (i : Nat) (d : FD), lw.fds[i]? = some d → FDok lw d)
    (F : ∀ (i : Nat) (d : FD), lw.fds[i]? = some d → ∃ fd, FunD K d.name d.qual (defArgs d.st) (defBody d.st) (defScope d.st) [] [] (lw.ad K i) fd) : ∀ (n i : Nat) (d : FD), lw.fds[i]? = some d → ∃ fd, FunD K d.name d.qual (defArgs d.st) (defBody d.st) (defScope d.st) [] [] (lw.ad K i) fd ∧ FnOk P w K mg base CX0 (2 * n) (lw.ad K i) fd d.ps (spI g (cal g lw.fds n i) d.ps.length)
  | 0, i, d, h => by
    obtain ⟨fd, hf⟩ := F i d h
    exact ⟨fd, hf, fn_zero (n := d.ps.length)⟩
  | n + 1, i, d, h => by
    obtain ⟨fd, hf⟩ := F i d h
    refine ⟨fd, hf, ?_⟩
    have e : cal g lw.fds (n + 1) i = runD d.N.length (d.den g (cal g lw.fds n)) := by
      simp only [cal, h]
    rw [e]
    refine fn_ok (k := 2 * n + 1) hK.con hf (hfd i d h).sc fun cdv A outer s H E hA G hr => ?_
    exact (hfd i d h).bod ⟨G, hr, hK, fun i d h => (hfd i d h).bd, fun i d h => all_ok hK hfd F n i d h⟩
/-- the script in memory -/
inductive Scr (g : Cfg) (ns : List Int) : Val → Mem → Prop
  | con {M : Mem} (h : g.con 0 = some (true, ns.map .int)) : Scr g ns (.con 0) M
  | ref {M : Mem} (h : M[0]? = some (.fz (.lst (ns.map .int)))) : Scr g ns (.ref 0) M
theorem Scr.lst {ns : List Int} {v : Val} {M : Mem} (h : Scr g ns v M) : lstOf g M v = some (ns.map .int) := by
  cases h with
  | con h => simp only [lstOf, h]
  | ref h => simp only [lstOf, h]
theorem Scr.lt {ns : List Int} {v : Val} {M : Mem} (h : Scr g ns v M) : v.lt M.length := by
  cases h with
  | con h => exact trivial
  | ref h => exact lt_of_get h
theorem Scr.app {ns : List Int} {v : Val} {M X : Mem} (h : Scr g ns v M) : Scr g ns v (M ++ X) := by
  cases h with
  | con h => exact .con h
  | ref h => exact .ref (by rw [List.getElem?_append_left (lt_of_get h)]; exact h)
theorem Scr.set {ns : List Int} {v : Val} {M : Mem} {i : Nat} {o o' : Ob} (h : Scr g ns v M) (hi : M[i]? = some o) (hn : ∀ z, o ≠ .fz z) : Scr g ns v (M.set i o') := by
  cases h with
  | con h => exact .con h
  | ref h =>
    refine .ref ?_
    by_cases e : i = 0
    · subst e
      rw [h] at hi
      cases hi
      exact absurd rfl (hn _)
    · rw [List.getElem?_set_ne e]; exact h
/-- a law: what is left is plain -/
theorem law_walk {l : PySem.W.OpenLaw} {m N ix : Nat} {q : Program} {loose : List Str} {XP : (Str → Option Value) → Heap → Prop} {dr : DefRec} {x : Str} {dl : FD}
    (hn : l.most = some m) (hn2 : m ≤ sizeLine) (hdf : dr.params.defaults = []) (hr : Room (2 * N) callerA)
    (hdl : lw.fds[ix]? = some dl) (hat : dl.at_ = (dr.name, none)) (hps : dl.ps = [x]) (hok : lw.ok = true) (hfd : ∀ (i : Nat) (d : FD), lw.fds[i]? = some d → FDok lw d)
    (hpl : ∀ (g : Cfg) (M : Mem) (sv : Val) (ns : List Int), (∀ k, k ≠ 0 → g.con k = lw.con k) → ns.length ≤ m → Scr g ns sv M → ∃ M', cal g lw.fds N ix [sv] M = .ok (.bl true) M') :
    PySem.W.WalkO q loose XP (He.hookX 4 [] (lw.fds.map FD.D) [] [] (lwB lw)).says l.row.toRowW dr [] (fun f vs => PySem.call f vs) := by
  refine L2.walk_ofE (l := l) (n := m) (k := 2 * N) (x := x) (CX := L2.CX0) hn hn2 hdf hr ?_ (fun _ _ _ _ z => z)
  intro w mg fa h Y G hmg
  obtain ⟨K, KX, c⟩ := Y
  have F : ∀ (i : Nat) (d : FD), lw.fds[i]? = some d → ∃ fd, FunD K d.name d.qual (defArgs d.st) (defBody d.st) (defScope d.st) [] [] (lw.ad K i) fd := fun i d hd => by
    obtain ⟨fd, hf⟩ := c.t.d.defs (List.mem_map_of_mem (f := FD.D) (List.mem_of_getElem? hd))
    refine ⟨fd, ?_⟩
    unfold Lw.ad
    rw [hd]
    exact hf
  have hfa : fa = lw.ad K ix := by
    have LFa := lf_of (sa := 0) (sc := none) hok KX G c.more fun xs e => by cases e
    have z := LFa.glo dl (List.mem_of_getElem? hdl) (by rw [hat])
    rw [hat] at z
    have z2 := hmg.symm.trans z
    cases z2
    unfold Lw.ad
    rw [hdl, ← hat]
  subst hfa
  obtain ⟨fd, hf⟩ := F ix dl hdl
  refine ⟨K, fd, fun vs H Q E => ∃ (g : Cfg), LF lw g K mg ∧ spI g (cal g lw.fds N ix) dl.ps.length vs H Q E, KX, fun s u => ?_, fun H a ns hl hO hS => ?_, fun base hb1 hb2 => ?_⟩
  · have b := FunD.bindsA hf (hfd ix dl hdl).bd s [u] (by rw [hps]; rfl)
    rw [hps] at b
    exact b
  · have two : (∃ o, H a = some (.frz o (.lst (ns.map V.int)))) ∨ ∃ (o : Obj) (its : Array Value) (n : Nat), K.lookup a = some o ∧ o.cls = .type "list" ∧ o.dict = none ∧ o.data = .seq its n ∧ its.size ≤ sizeLine ∧ Vals (ns.map V.int) its.toList := by
      rcases hS with (h1 | ⟨o, h1⟩) | h1
      · rcases hO a with h2 | ⟨o, xs, h2⟩
        · rw [h1] at h2; cases h2
        · rw [h1] at h2; cases h2
      · exact .inl ⟨o, h1⟩
      · exact .inr h1
    rcases two with ⟨o, h1⟩ | h1
    · have LFa := lf_of (sa := 0) (sc := none) hok KX G c.more fun xs e => by cases e
      refine ⟨lw.cfg K 0 none, LFa, ?_⟩
      have sc : Scr (lw.cfg K 0 none) ns (.ref 0) [.fz (.lst (ns.map .int))] := .ref rfl
      obtain ⟨M', e⟩ := hpl (lw.cfg K 0 none) [.fz (.lst (ns.map .int))] (.ref 0) ns (fun k hk => by simp only [Lw.cfg, hk, if_false]) hl sc
      refine ⟨fun _ => a, [.ref 0], _, .bl true, M', rfl, by rw [hps]; rfl, Lts.cons (by show 0 < 1; omega) Lts.nil, ?_, e, fun _ _ _ _ _ => rfl⟩
      have em : (ns.map V.int) = (ns.map Val.int).map (mv (lw.cfg K 0 none) fun _ => a) := by rw [List.map_map]; rfl
      refine ⟨fun i ob hi => ?_, fun i j hi hj _ => ?_, fun i ob hi => ?_⟩
      · match i, hi with
        | 0, hi =>
          cases hi
          refine ⟨_, h1, ?_⟩
          rw [em]
          exact .fz .lst
      · have h1 : i < 1 := hi
        have h2 : j < 1 := hj
        omega
      · match i, hi with
        | 0, hi =>
          cases hi
          exact fun v hv => by
            obtain ⟨k, _, rfl⟩ := List.mem_map.mp hv
            exact trivial
    · have hl2 : ∀ n, Lts n (ns.map Val.int) := fun n v hv => by
        obtain ⟨k, _, rfl⟩ := List.mem_map.mp hv
        exact trivial
      have LFa := lf_of (lw := lw) (sa := a) (sc := some (ns.map .int)) hok KX G c.more fun xs e => by
        cases e
        refine ⟨hl2, fun g r H => ?_⟩
        have em : (ns.map Val.int).map (mv g r) = ns.map V.int := by rw [List.map_map]; rfl
        rw [em]
        exact Or.inr h1
      refine ⟨lw.cfg K a (some (ns.map .int)), LFa, ?_⟩
      obtain ⟨M', e⟩ := hpl (lw.cfg K a (some (ns.map .int))) [] (.con 0) ns (fun k hk => by simp only [Lw.cfg, hk, if_false]) hl (.con rfl)
      refine ⟨fun _ => 0, [.con 0], [], .bl true, M', ?_, by rw [hps]; rfl, Lts.cons trivial Lts.nil, ⟨fun i ob hi => ?_, fun i j hi => ?_, fun i ob hi => ?_⟩, e, fun _ _ _ _ _ => rfl⟩
      · rfl
      · cases hi
      · exact absurd hi (Nat.not_lt_zero _)
      · cases hi
  · have all : ∀ g, LF lw g K mg → FnOk l.prog w K mg base CX0 (2 * N) (lw.ad K ix) fd [x] (spI g (cal g lw.fds N ix) dl.ps.length) := fun g hg => by
      obtain ⟨fd2, hf2, ok2⟩ := all_ok (P := l.prog) (w := w) (base := base) hg hfd F N ix dl hdl
      have efd : fd2 = fd := by
        obtain ⟨oc, od, dV, kV, doc, pm, an, cdv, ct, osl, _, lk, _⟩ := hf.ex
        obtain ⟨oc2, od2, dV2, kV2, doc2, pm2, an2, cdv2, ct2, osl2, _, lk2, _⟩ := hf2.ex
        rw [lk] at lk2
        cases lk2
        rfl
      rw [← efd, ← hps]
      exact ok2
    exact ⟨fun vs H Q E ⟨g, hg, h⟩ => (all g hg).len vs H Q E h, fun A outer s H args us vs Q E hr he hb hv ⟨g, hg, h⟩ => (all g hg).run A outer s H args us vs Q E hr he hb hv h⟩
end Pa

/-! What the denotations do, by their ends: for plain proofs. -/
namespace Pa
open PySem PySem.Spec
open PyProof.Rows L2
open SX (S)
def Ev {α : Type} (r : R α) (Q : α → Mem → Prop) : Prop := ∃ a M, r = .ok a M ∧ Q a M
@[simp] theorem ev_ok {α : Type} (a : α) (M : Mem) (Q : α → Mem → Prop) : Ev (R.ok a M) Q = Q a M := by
  refine propext ⟨fun ⟨_, _, e, q⟩ => ?_, fun q => ⟨_, _, rfl, q⟩⟩
  cases e
  exact q
@[simp] theorem ev_no {α : Type} (Q : α → Mem → Prop) : Ev (R.no : R α) Q = False := by
  refine propext ⟨fun ⟨_, _, e, _⟩ => ?_, fun h => h.elim⟩
  cases e
@[simp high] theorem ev_guard {α : Type} {p : Prop} [Decidable p] (r : R α) (Q : α → Mem → Prop) : Ev (if p then r else R.no) Q = (p ∧ Ev r Q) := by
  by_cases h : p <;> simp [h]
@[simp] theorem ev_ite {α : Type} {p : Prop} [Decidable p] (x y : R α) (Q : α → Mem → Prop) : Ev (if p then x else y) Q = ((p → Ev x Q) ∧ (¬p → Ev y Q)) := by
  by_cases h : p <;> simp [h]
theorem ev_bind {α β : Type} (r : R α) (f : α → Mem → R β) (Q : β → Mem → Prop) : Ev (r.bind f) Q = Ev r (fun a M => Ev (f a M) Q) := by
  cases r with
  | ok a M => simp only [R.bind_ok, ev_ok]
  | exc c fs M => exact propext ⟨fun ⟨_, _, e, _⟩ => (by cases e), fun ⟨_, _, e, _⟩ => (by cases e)⟩
  | no => simp only [R.bind_no, ev_no]
theorem Ev.mono {α : Type} {r : R α} {Q Q' : α → Mem → Prop} (h : Ev r Q) (k : ∀ a M, Q a M → Q' a M) : Ev r Q' := by
  obtain ⟨a, M, e, q⟩ := h
  exact ⟨a, M, e, k a M q⟩
theorem ev_eq {α : Type} {r : R α} {a : α} {M : Mem} (h : Ev r fun b N => b = a ∧ N = M) : r = .ok a M := by
  obtain ⟨b, N, e, rfl, rfl⟩ := h
  exact e

@[simp] theorem u_dV (i : Nat) (L : Loc) (M : Mem) (Q : Val → Mem → Prop) : Ev (dV i L M) Q = Ev (R.of (L[i]?.getD none) M) Q := by
  unfold dV
  cases h : L[i]? with
  | none => rfl
  | some o => cases o <;> rfl
@[simp] theorem u_of {α : Type} (a : α) (M : Mem) : R.of (some a) M = R.ok a M := rfl
@[simp] theorem u_ofn {α : Type} (M : Mem) : R.of (none : Option α) M = R.no := rfl
@[simp] theorem u_dC (v : Val) (L : Loc) (M : Mem) (Q : Val → Mem → Prop) : Ev (dC v L M) Q = Q v M := by
  unfold dC
  exact ev_ok _ _ _
def PB2 (f : Val → Val → Mem → R Val) (x : Val) (Q : Val → Mem → Prop) : Val → Mem → Prop := fun y M => Ev (f x y M) Q
def PB1 (f : Val → Val → Mem → R Val) (b : D) (L : Loc) (Q : Val → Mem → Prop) : Val → Mem → Prop := fun x M => Ev (b L M) (PB2 f x Q)
@[simp] theorem u_dB (f : Val → Val → Mem → R Val) (a b : D) (L : Loc) (M : Mem) (Q : Val → Mem → Prop) : Ev (dB f a b L M) Q = Ev (a L M) (PB1 f b L Q) := by
  unfold dB
  rw [ev_bind]
  refine congrArg _ (funext fun x => funext fun M => ?_)
  rw [ev_bind]; rfl
@[simp] theorem v_PB1 (f : Val → Val → Mem → R Val) (b : D) (L : Loc) (Q : Val → Mem → Prop) (x : Val) (M : Mem) : PB1 f b L Q x M = Ev (b L M) (PB2 f x Q) := rfl
@[simp] theorem v_PB2 (f : Val → Val → Mem → R Val) (x : Val) (Q : Val → Mem → Prop) (y : Val) (M : Mem) : PB2 f x Q y M = Ev (f x y M) Q := rfl
def PC3 (f' : Val → Val → Mem → R Val) (y : Val) (Q : Val → Mem → Prop) : Val → Mem → Prop := fun w M => Ev (f' y w M) Q
def PC2 (f f' : Val → Val → Mem → R Val) (x : Val) (c : D) (L : Loc) (Q : Val → Mem → Prop) : Val → Mem → Prop := fun y M => Ev (f x y M) fun (z : Val) (M3 : Mem) => match z with
  | .bl true => Ev (c L M3) (PC3 f' y Q)
  | .bl false => Q (Val.bl false) M3
  | _ => False
def PC1 (f f' : Val → Val → Mem → R Val) (b c : D) (L : Loc) (Q : Val → Mem → Prop) : Val → Mem → Prop := fun x M => Ev (b L M) (PC2 f f' x c L Q)
@[simp] theorem u_dCh (f f' : Val → Val → Mem → R Val) (a b c : D) (L : Loc) (M : Mem) (Q : Val → Mem → Prop) : Ev (dCh f f' a b c L M) Q = Ev (a L M) (PC1 f f' b c L Q) := by
  unfold dCh
  rw [ev_bind]
  refine congrArg _ (funext fun x => funext fun M => ?_)
  rw [ev_bind]
  refine congrArg _ (funext fun y => funext fun M => ?_)
  rw [ev_bind]
  refine congrArg _ (funext fun z => funext fun M => ?_)
  cases z with
  | bl b =>
    cases b
    · exact ev_ok _ _ _
    · show Ev ((c L M).bind _) Q = _
      rw [ev_bind]; rfl
  | _ => exact ev_no _
@[simp] theorem v_PC1 (f f' : Val → Val → Mem → R Val) (b c : D) (L : Loc) (Q : Val → Mem → Prop) (x : Val) (M : Mem) : PC1 f f' b c L Q x M = Ev (b L M) (PC2 f f' x c L Q) := rfl
@[simp] theorem v_PC3 (f' : Val → Val → Mem → R Val) (y : Val) (Q : Val → Mem → Prop) (w : Val) (M : Mem) : PC3 f' y Q w M = Ev (f' y w M) Q := rfl
@[simp] theorem v_PC2 (p : Int → Int → Bool) (f' : Val → Val → Mem → R Val) (i j : Int) (c : D) (L : Loc) (Q : Val → Mem → Prop) (M : Mem) : PC2 (oCmp p) f' (.int i) c L Q (.int j) M = ((p i j = true → Ev (c L M) (PC3 f' (.int j) Q)) ∧ (p i j = false → Q (.bl false) M)) := by
  show Ev (R.ok (Val.bl (p i j)) M) _ = _
  rw [ev_ok]
  cases p i j <;> simp

def PdAnd (b : D) (L : Loc) (Q : Val → Mem → Prop) : Val → Mem → Prop := fun x M => match x with
  | .bl true => Ev (b L M) Q
  | .bl false => Q (.bl false) M
  | _ => False
@[simp] theorem u_dAnd (a b : D) (L : Loc) (M : Mem) (Q : Val → Mem → Prop) : Ev (dAnd a b L M) Q = Ev (a L M) (PdAnd b L Q) := by
  unfold dAnd
  rw [ev_bind]
  refine congrArg _ (funext fun x => funext fun M => ?_)
  cases x with
  | bl k => cases k <;> first | exact ev_ok _ _ _ | rfl
  | _ => exact ev_no _
@[simp] theorem v_dAnd (b : D) (L : Loc) (Q : Val → Mem → Prop) (k : Bool) (M : Mem) : PdAnd b L Q (.bl k) M = ((k = true → Ev (b L M) Q) ∧ (k = false → Q (.bl false) M)) := by
  cases k <;> simp [PdAnd]
def PdOr (b : D) (L : Loc) (Q : Val → Mem → Prop) : Val → Mem → Prop := fun x M => match x with
  | .bl true => Q (.bl true) M
  | .bl false => Ev (b L M) Q
  | _ => False
@[simp] theorem u_dOr (a b : D) (L : Loc) (M : Mem) (Q : Val → Mem → Prop) : Ev (dOr a b L M) Q = Ev (a L M) (PdOr b L Q) := by
  unfold dOr
  rw [ev_bind]
  refine congrArg _ (funext fun x => funext fun M => ?_)
  cases x with
  | bl k => cases k <;> first | exact ev_ok _ _ _ | rfl
  | _ => exact ev_no _
@[simp] theorem v_dOr (b : D) (L : Loc) (Q : Val → Mem → Prop) (k : Bool) (M : Mem) : PdOr b L Q (.bl k) M = ((k = true → Q (.bl true) M) ∧ (k = false → Ev (b L M) Q)) := by
  cases k <;> simp [PdOr]
def PdNot (Q : Val → Mem → Prop) : Val → Mem → Prop := fun x M => match x with
  | .bl k => Q (.bl (!k)) M
  | _ => False
@[simp] theorem u_dNot (a : D) (L : Loc) (M : Mem) (Q : Val → Mem → Prop) : Ev (dNot a L M) Q = Ev (a L M) (PdNot Q) := by
  unfold dNot
  rw [ev_bind]
  refine congrArg _ (funext fun x => funext fun M => ?_)
  cases x with
  | bl k => exact ev_ok _ _ _
  | _ => exact ev_no _
@[simp] theorem v_dNot (Q : Val → Mem → Prop) (k : Bool) (M : Mem) : PdNot Q (.bl k) M = Q (.bl (!k)) M := rfl
def PdNeg (Q : Val → Mem → Prop) : Val → Mem → Prop := fun x M => match x with
  | .int k => Q (.int (-k)) M
  | _ => False
@[simp] theorem u_dNeg (a : D) (L : Loc) (M : Mem) (Q : Val → Mem → Prop) : Ev (dNeg a L M) Q = Ev (a L M) (PdNeg Q) := by
  unfold dNeg
  rw [ev_bind]
  refine congrArg _ (funext fun x => funext fun M => ?_)
  cases x with
  | int k => exact ev_ok _ _ _
  | _ => exact ev_no _
@[simp] theorem v_dNeg (Q : Val → Mem → Prop) (k : Int) (M : Mem) : PdNeg Q (.int k) M = Q (.int (-k)) M := rfl
def PdTru (Q : Val → Mem → Prop) : Val → Mem → Prop := fun x M => ∃ b, truOf M x = some b ∧ Q (.bl b) M
@[simp] theorem u_dTru (a : D) (L : Loc) (M : Mem) (Q : Val → Mem → Prop) : Ev (dTru a L M) Q = Ev (a L M) (PdTru Q) := by
  unfold dTru
  rw [ev_bind]
  refine congrArg _ (funext fun x => funext fun M => ?_)
  unfold PdTru
  cases h : truOf M x <;> simp
@[simp] theorem v_dTrub (Q : Val → Mem → Prop) (k : Bool) (M : Mem) : PdTru Q (.bl k) M = Q (.bl k) M := by simp [PdTru, truOf]
@[simp] theorem v_dTruv (Q : Val → Mem → Prop) (x : Val) (M : Mem) : PdTru Q x M = ∃ b, truOf M x = some b ∧ Q (.bl b) M := rfl
def PdIf (a b : D) (L : Loc) (Q : Val → Mem → Prop) : Val → Mem → Prop := fun x M => match x with
  | .bl true => Ev (a L M) Q
  | .bl false => Ev (b L M) Q
  | _ => False
@[simp] theorem u_dIf (c a b : D) (L : Loc) (M : Mem) (Q : Val → Mem → Prop) : Ev (dIf c a b L M) Q = Ev (c L M) (PdIf a b L Q) := by
  unfold dIf
  rw [ev_bind]
  refine congrArg _ (funext fun x => funext fun M => ?_)
  cases x with
  | bl k => cases k <;> rfl
  | _ => exact ev_no _
@[simp] theorem v_dIf (a b : D) (L : Loc) (Q : Val → Mem → Prop) (k : Bool) (M : Mem) : PdIf a b L Q (.bl k) M = ((k = true → Ev (a L M) Q) ∧ (k = false → Ev (b L M) Q)) := by
  cases k <;> simp [PdIf]
def PxIf (a b : Ds) (L : Loc) (Q : Fl → Mem → Prop) : Val → Mem → Prop := fun x M => match x with
  | .bl true => Ev (a L M) Q
  | .bl false => Ev (b L M) Q
  | _ => False
@[simp] theorem u_xIf (c : D) (a b : Ds) (L : Loc) (M : Mem) (Q : Fl → Mem → Prop) : Ev (xIf c a b L M) Q = Ev (c L M) (PxIf a b L Q) := by
  unfold xIf
  rw [ev_bind]
  refine congrArg _ (funext fun x => funext fun M => ?_)
  cases x with
  | bl k => cases k <;> rfl
  | _ => exact ev_no _
@[simp] theorem v_xIf (a b : Ds) (L : Loc) (Q : Fl → Mem → Prop) (k : Bool) (M : Mem) : PxIf a b L Q (.bl k) M = ((k = true → Ev (a L M) Q) ∧ (k = false → Ev (b L M) Q)) := by
  cases k <;> simp [PxIf]
@[simp] theorem u_aNil (L : Loc) (M : Mem) (Q : List Val → Mem → Prop) : Ev (aNil L M) Q = Q [] M := by
  unfold aNil
  exact ev_ok _ _ _
def PaC2 (v : Val) (Q : List Val → Mem → Prop) : List Val → Mem → Prop := fun vs M => Q (v :: vs) M
def PaC1 (ds : DA) (L : Loc) (Q : List Val → Mem → Prop) : Val → Mem → Prop := fun v M => Ev (ds L M) (PaC2 v Q)
@[simp] theorem u_aCons (d : D) (ds : DA) (L : Loc) (M : Mem) (Q : List Val → Mem → Prop) : Ev (aCons d ds L M) Q = Ev (d L M) (PaC1 ds L Q) := by
  unfold aCons
  rw [ev_bind]
  refine congrArg _ (funext fun x => funext fun M => ?_)
  rw [ev_bind]
  refine congrArg _ (funext fun x => funext fun M => ?_)
  exact ev_ok _ _ _
@[simp] theorem v_PaC1 (ds : DA) (L : Loc) (Q : List Val → Mem → Prop) (v : Val) (M : Mem) : PaC1 ds L Q v M = Ev (ds L M) (PaC2 v Q) := rfl
@[simp] theorem v_PaC2 (v : Val) (Q : List Val → Mem → Prop) (vs : List Val) (M : Mem) : PaC2 v Q vs M = Q (v :: vs) M := rfl

def PdF (f : List Val → Mem → R Val) (Q : Val → Mem → Prop) : List Val → Mem → Prop := fun vs M => Ev (f vs M) Q
@[simp] theorem u_dF (f : List Val → Mem → R Val) (ds : DA) (L : Loc) (M : Mem) (Q : Val → Mem → Prop) : Ev (dF f ds L M) Q = Ev (ds L M) (PdF f Q) := by
  unfold dF
  rw [ev_bind]
  refine congrArg _ (funext fun vs => funext fun M => ?_)
  first | rfl | exact ev_guard _ _ | (rw [ev_guard, ev_ok]; rfl)
@[simp] theorem v_dF (f : List Val → Mem → R Val) (Q : Val → Mem → Prop) (vs : List Val) (M : Mem) : PdF f Q vs M = (Ev (f vs M) Q) := rfl
def PdTup  (Q : Val → Mem → Prop) : List Val → Mem → Prop := fun vs M => vs.length ≤ 1000 ∧ Q (.ref M.length) (M ++ [.tup vs])
@[simp] theorem u_dTup  (ds : DA) (L : Loc) (M : Mem) (Q : Val → Mem → Prop) : Ev (dTup  ds L M) Q = Ev (ds L M) (PdTup  Q) := by
  unfold dTup
  rw [ev_bind]
  refine congrArg _ (funext fun vs => funext fun M => ?_)
  first | rfl | exact ev_guard _ _ | (rw [ev_guard, ev_ok]; rfl)
@[simp] theorem v_dTup  (Q : Val → Mem → Prop) (vs : List Val) (M : Mem) : PdTup  Q vs M = (vs.length ≤ 1000 ∧ Q (.ref M.length) (M ++ [.tup vs])) := rfl
def PdLst  (Q : Val → Mem → Prop) : List Val → Mem → Prop := fun vs M => vs.length ≤ 1000 ∧ Q (.ref M.length) (M ++ [.lst vs])
@[simp] theorem u_dLst  (ds : DA) (L : Loc) (M : Mem) (Q : Val → Mem → Prop) : Ev (dLst  ds L M) Q = Ev (ds L M) (PdLst  Q) := by
  unfold dLst
  rw [ev_bind]
  refine congrArg _ (funext fun vs => funext fun M => ?_)
  first | rfl | exact ev_guard _ _ | (rw [ev_guard, ev_ok]; rfl)
@[simp] theorem v_dLst  (Q : Val → Mem → Prop) (vs : List Val) (M : Mem) : PdLst  Q vs M = (vs.length ≤ 1000 ∧ Q (.ref M.length) (M ++ [.lst vs])) := rfl
def PdArg (n : Nat) (dfl : List Val) (F : Fn) (Q : Val → Mem → Prop) : List Val → Mem → Prop := fun vs M => (vs ++ dfl).length = n ∧ Ev (F (vs ++ dfl) M) Q
@[simp] theorem u_dArg (n : Nat) (dfl : List Val) (F : Fn) (ds : DA) (L : Loc) (M : Mem) (Q : Val → Mem → Prop) : Ev (dArg n dfl F ds L M) Q = Ev (ds L M) (PdArg n dfl F Q) := by
  unfold dArg
  rw [ev_bind]
  refine congrArg _ (funext fun vs => funext fun M => ?_)
  first | rfl | exact ev_guard _ _ | (rw [ev_guard, ev_ok]; rfl)
@[simp] theorem v_dArg (n : Nat) (dfl : List Val) (F : Fn) (Q : Val → Mem → Prop) (vs : List Val) (M : Mem) : PdArg n dfl F Q vs M = ((vs ++ dfl).length = n ∧ Ev (F (vs ++ dfl) M) Q) := rfl
@[simp] theorem u_dDk (L : Loc) (M : Mem) (Q : Val → Mem → Prop) : Ev (dDk L M) Q = Q (.ref M.length) (M ++ [.dk []]) := by
  unfold dDk
  exact ev_ok _ _ _
@[simp] theorem u_dDt (L : Loc) (M : Mem) (Q : Val → Mem → Prop) : Ev (dDt L M) Q = Q (.ref M.length) (M ++ [.dt []]) := by
  unfold dDt
  exact ev_ok _ _ _
@[simp] theorem u_oNone (L : Loc) (M : Mem) (Q : Option Int → Mem → Prop) : Ev (oNone L M) Q = Q none M := by
  unfold oNone
  exact ev_ok _ _ _
def PoSome (Q : Option Int → Mem → Prop) : Val → Mem → Prop := fun x M => match x with
  | .int k => Q (some k) M
  | _ => False
@[simp] theorem u_oSome (a : D) (L : Loc) (M : Mem) (Q : Option Int → Mem → Prop) : Ev (oSome a L M) Q = Ev (a L M) (PoSome Q) := by
  unfold oSome
  rw [ev_bind]
  refine congrArg _ (funext fun x => funext fun M => ?_)
  cases x with
  | int k => exact ev_ok _ _ _
  | _ => exact ev_no _
@[simp] theorem v_oSome (Q : Option Int → Mem → Prop) (k : Int) (M : Mem) : PoSome Q (.int k) M = Q (some k) M := rfl
def PSl3 (g : Cfg) (x : Val) (l : Option Int) (Q : Val → Mem → Prop) : Option Int → Mem → Prop := fun h M => Ev (vSl g x l h M) Q
def PSl2 (g : Cfg) (x : Val) (hi : DO) (L : Loc) (Q : Val → Mem → Prop) : Option Int → Mem → Prop := fun l M => Ev (hi L M) (PSl3 g x l Q)
def PSl1 (g : Cfg) (lo hi : DO) (L : Loc) (Q : Val → Mem → Prop) : Val → Mem → Prop := fun x M => Ev (lo L M) (PSl2 g x hi L Q)
@[simp] theorem u_dSl (g : Cfg) (d : D) (lo hi : DO) (L : Loc) (M : Mem) (Q : Val → Mem → Prop) : Ev (dSl g d lo hi L M) Q = Ev (d L M) (PSl1 g lo hi L Q) := by
  unfold dSl
  rw [ev_bind]
  refine congrArg _ (funext fun x => funext fun M => ?_)
  rw [ev_bind]
  refine congrArg _ (funext fun x => funext fun M => ?_)
  rw [ev_bind]; rfl
@[simp] theorem v_PSl1 (g : Cfg) (lo hi : DO) (L : Loc) (Q : Val → Mem → Prop) (x : Val) (M : Mem) : PSl1 g lo hi L Q x M = Ev (lo L M) (PSl2 g x hi L Q) := rfl
@[simp] theorem v_PSl2 (g : Cfg) (x : Val) (hi : DO) (L : Loc) (Q : Val → Mem → Prop) (l : Option Int) (M : Mem) : PSl2 g x hi L Q l M = Ev (hi L M) (PSl3 g x l Q) := rfl
@[simp] theorem v_PSl3 (g : Cfg) (x : Val) (l : Option Int) (Q : Val → Mem → Prop) (h : Option Int) (M : Mem) : PSl3 g x l Q h M = Ev (vSl g x l h M) Q := rfl
@[simp] theorem w_vSls (g : Cfg) (s : List Nat) (l h : Option Int) (M : Mem) : vSl g (.str s) l h M = if s.length ≤ 1000000 then .ok (.str (cut s l h)) M else .no := rfl
theorem w_vSll {g : Cfg} {v : Val} {xs : List Val} {M : Mem} (hx : lstOf g M v = some xs) (l h : Option Int) : vSl g v l h M = .ok (.ref M.length) (M ++ [.lst (cut xs l h)]) := by
  cases v with
  | str s => cases hx
  | _ => simp only [vSl, lSl, hx]
/-! fields, classes -/
def fldR (T : CTab) (f : String) (x : Val) (M : Mem) : R Val := match x with
  | .ref a => (match M[a]? with
    | some (.ins c fs) => if hasF T c f = true then R.of (getf fs f) M else .no
    | _ => .no)
  | _ => .no
def PFld (T : CTab) (f : String) (Q : Val → Mem → Prop) : Val → Mem → Prop := fun x M => Ev (fldR T f x M) Q
@[simp] theorem u_dFld (T : CTab) (d : D) (f : String) (L : Loc) (M : Mem) (Q : Val → Mem → Prop) : Ev (dFld T d f L M) Q = Ev (d L M) (PFld T f Q) := by
  unfold dFld
  rw [ev_bind]
  rfl
theorem w_fld {T : CTab} {f : String} {M : Mem} {a : Nat} {c : String} {fs : List (String × Val)} {v : Val} (h : M[a]? = some (.ins c fs)) (h2 : hasF T c f = true) (h3 : getf fs f = some v) (Q : Val → Mem → Prop) : PFld T f Q (.ref a) M = Q v M := by
  simp only [PFld, fldR, h, h2, h3, if_true, u_of, ev_ok]
def IsiR (g : Cfg) (T : ITab) (cs : List String) (t : String) (x : Val) (M : Mem) : R Val := match tyOf g cs M x with
  | some s => (match isiT T s t with
    | some b => .ok (.bl b) M
    | none => .no)
  | none => .no
def PIsi (g : Cfg) (T : ITab) (cs : List String) (t : String) (Q : Val → Mem → Prop) : Val → Mem → Prop := fun x M => Ev (IsiR g T cs t x M) Q
@[simp] theorem u_dIsi (g : Cfg) (T : ITab) (cs : List String) (d : D) (t : String) (L : Loc) (M : Mem) (Q : Val → Mem → Prop) : Ev (dIsi g T cs d t L M) Q = Ev (d L M) (PIsi g T cs t Q) := by
  unfold dIsi
  rw [ev_bind]
  rfl
theorem w_Isi {g : Cfg} {T : ITab} {cs : List String} {t : String} {M : Mem} {x : Val} {s : String} {b : Bool} (h : tyOf g cs M x = some s) (h2 : isiT T s t = some b) (Q : Val → Mem → Prop) : PIsi g T cs t Q x M = Q (.bl b) M := by
  simp only [PIsi, IsiR, h, h2, ev_ok]
def IsiTR (g : Cfg) (T : ITab) (cs : List String) (t : List String) (x : Val) (M : Mem) : R Val := match tyOf g cs M x with
  | some s => (match tsI T s t with
    | some b => .ok (.bl b) M
    | none => .no)
  | none => .no
def PIsiT (g : Cfg) (T : ITab) (cs : List String) (t : List String) (Q : Val → Mem → Prop) : Val → Mem → Prop := fun x M => Ev (IsiTR g T cs t x M) Q
@[simp] theorem u_dIsiT (g : Cfg) (T : ITab) (cs : List String) (d : D) (t : List String) (L : Loc) (M : Mem) (Q : Val → Mem → Prop) : Ev (dIsiT g T cs d t L M) Q = Ev (d L M) (PIsiT g T cs t Q) := by
  unfold dIsiT
  rw [ev_bind]
  rfl
theorem w_IsiT {g : Cfg} {T : ITab} {cs : List String} {t : List String} {M : Mem} {x : Val} {s : String} {b : Bool} (h : tyOf g cs M x = some s) (h2 : tsI T s t = some b) (Q : Val → Mem → Prop) : PIsiT g T cs t Q x M = Q (.bl b) M := by
  simp only [PIsiT, IsiTR, h, h2, ev_ok]
def PNew2 (x : Val) (Q : Val → Mem → Prop) : Val → Mem → Prop := fun w M => w = .non ∧ Q x M
def PNew (n : Nat) (dfl : List Val) (c : String) (F : Fn) (Q : Val → Mem → Prop) : List Val → Mem → Prop := fun vs M => (vs ++ dfl).length + 1 = n ∧ Ev (F (.ref M.length :: (vs ++ dfl)) (M ++ [.ins c []])) (PNew2 (.ref M.length) Q)
@[simp] theorem u_dNew (n : Nat) (dfl : List Val) (c : String) (F : Fn) (ds : DA) (L : Loc) (M : Mem) (Q : Val → Mem → Prop) : Ev (dNew n dfl c F ds L M) Q = Ev (ds L M) (PNew n dfl c F Q) := by
  unfold dNew
  rw [ev_bind]
  refine congrArg _ (funext fun vs => funext fun M => ?_)
  rw [ev_guard, ev_bind]
  show _ = (_ ∧ _)
  refine congrArg _ (congrArg _ (funext fun w => funext fun M => ?_))
  cases w with
  | non => simp [PNew2]
  | _ => simp [PNew2]
@[simp] theorem v_PNew (n : Nat) (dfl : List Val) (c : String) (F : Fn) (Q : Val → Mem → Prop) (vs : List Val) (M : Mem) : PNew n dfl c F Q vs M = ((vs ++ dfl).length + 1 = n ∧ Ev (F (.ref M.length :: (vs ++ dfl)) (M ++ [.ins c []])) (PNew2 (.ref M.length) Q)) := rfl
@[simp] theorem v_PNew2 (x : Val) (Q : Val → Mem → Prop) (w : Val) (M : Mem) : PNew2 x Q w M = (w = .non ∧ Q x M) := rfl
def PMth2 (n : Nat) (a : Nat) (F : Fn) (Q : Val → Mem → Prop) : List Val → Mem → Prop := fun vs M => vs.length + 1 = n ∧ Ev (F (.ref a :: vs) M) Q
def mthR (T : MTab) (m : String) (n : Nat) (ds : DA) (L : Loc) (x : Val) (M1 : Mem) : R Val := match x with
  | .ref a => (match M1[a]? with
    | some (.ins c fs) => (match mfind T c, getf fs m with
      | some F, none => (ds L M1).bind fun vs M2 => if vs.length + 1 = n then F (.ref a :: vs) M2 else .no
      | _, _ => .no)
    | _ => .no)
  | _ => .no
def PMth (T : MTab) (m : String) (n : Nat) (ds : DA) (L : Loc) (Q : Val → Mem → Prop) : Val → Mem → Prop := fun x M => Ev (mthR T m n ds L x M) Q
@[simp] theorem u_dMeth (T : MTab) (m : String) (n : Nat) (d : D) (ds : DA) (L : Loc) (M : Mem) (Q : Val → Mem → Prop) : Ev (dMeth T m n d ds L M) Q = Ev (d L M) (PMth T m n ds L Q) := by
  unfold dMeth
  rw [ev_bind]
  rfl
theorem w_mth {T : MTab} {m : String} {n : Nat} {ds : DA} {L : Loc} {M : Mem} {a : Nat} {c : String} {fs : List (String × Val)} {F : Fn} (h : M[a]? = some (.ins c fs)) (h1 : mfind T c = some F) (h2 : getf fs m = none) (Q : Val → Mem → Prop) : PMth T m n ds L Q (.ref a) M = Ev (ds L M) (PMth2 n a F Q) := by
  simp only [PMth, mthR, h, h1, h2]
  rw [ev_bind]
  refine congrArg _ (funext fun vs => funext fun M => ?_)
  exact ev_guard _ _
@[simp] theorem v_PMth2 (n : Nat) (a : Nat) (F : Fn) (Q : Val → Mem → Prop) (vs : List Val) (M : Mem) : PMth2 n a F Q vs M = (vs.length + 1 = n ∧ Ev (F (.ref a :: vs) M) Q) := rfl
def PdM2 (f : Val → List Val → Mem → R Val) (x : Val) (Q : Val → Mem → Prop) : List Val → Mem → Prop := fun vs M => Ev (f x vs M) Q
def PdM (T : String) (f : Val → List Val → Mem → R Val) (ds : DA) (L : Loc) (Q : Val → Mem → Prop) : Val → Mem → Prop := fun x M => isTy T M x = true ∧ Ev (ds L M) (PdM2 f x Q)
@[simp] theorem u_dM (T : String) (f : Val → List Val → Mem → R Val) (d : D) (ds : DA) (L : Loc) (M : Mem) (Q : Val → Mem → Prop) : Ev (dM T f d ds L M) Q = Ev (d L M) (PdM T f ds L Q) := by
  unfold dM
  rw [ev_bind]
  refine congrArg _ (funext fun x => funext fun M => ?_)
  rw [ev_guard, ev_bind]
  rfl
@[simp] theorem v_PdM (T : String) (f : Val → List Val → Mem → R Val) (ds : DA) (L : Loc) (Q : Val → Mem → Prop) (x : Val) (M : Mem) : PdM T f ds L Q x M = (isTy T M x = true ∧ Ev (ds L M) (PdM2 f x Q)) := rfl
@[simp] theorem v_PdM2 (f : Val → List Val → Mem → R Val) (x : Val) (Q : Val → Mem → Prop) (vs : List Val) (M : Mem) : PdM2 f x Q vs M = Ev (f x vs M) Q := rfl
def PdM0 (T : String) (f : Val → List Val → Mem → R Val) (Q : Val → Mem → Prop) : Val → Mem → Prop := fun x M => isTy T M x = true ∧ Ev (f x [] M) Q
@[simp] theorem u_dM0 (T : String) (f : Val → List Val → Mem → R Val) (d : D) (L : Loc) (M : Mem) (Q : Val → Mem → Prop) : Ev (dM0 T f d L M) Q = Ev (d L M) (PdM0 T f Q) := by
  unfold dM0
  rw [ev_bind]
  refine congrArg _ (funext fun x => funext fun M => ?_)
  exact ev_guard _ _
@[simp] theorem v_PdM0 (T : String) (f : Val → List Val → Mem → R Val) (Q : Val → Mem → Prop) (x : Val) (M : Mem) : PdM0 T f Q x M = (isTy T M x = true ∧ Ev (f x [] M) Q) := rfl
/-! statements -/
@[simp] theorem u_xSkip (L : Loc) (M : Mem) (Q : Fl → Mem → Prop) : Ev (xSkip L M) Q = Q (.nx L) M := by
  unfold xSkip
  exact ev_ok _ _ _
@[simp] theorem u_xRetN (L : Loc) (M : Mem) (Q : Fl → Mem → Prop) : Ev (xRetN L M) Q = Q (.rt .non) M := by
  unfold xRetN
  exact ev_ok _ _ _
@[simp] theorem u_xBrk (L : Loc) (M : Mem) (Q : Fl → Mem → Prop) : Ev (xBrk L M) Q = Q (.bk L) M := by
  unfold xBrk
  exact ev_ok _ _ _
@[simp] theorem u_xCont (L : Loc) (M : Mem) (Q : Fl → Mem → Prop) : Ev (xCont L M) Q = Q (.ct L) M := by
  unfold xCont
  exact ev_ok _ _ _
def PSeq (b : Ds) (Q : Fl → Mem → Prop) : Fl → Mem → Prop := fun f M => match f with
  | .nx L => Ev (b L M) Q
  | .rt v => Q (.rt v) M
  | .bk L => Q (.bk L) M
  | .ct L => Q (.ct L) M
@[simp] theorem u_xSeq (a b : Ds) (L : Loc) (M : Mem) (Q : Fl → Mem → Prop) : Ev (xSeq a b L M) Q = Ev (a L M) (PSeq b Q) := by
  unfold xSeq
  rw [ev_bind]
  refine congrArg _ (funext fun x => funext fun M => ?_)
  cases x <;> first | rfl | exact ev_ok _ _ _
@[simp] theorem v_PSeqn (b : Ds) (Q : Fl → Mem → Prop) (L : Loc) (M : Mem) : PSeq b Q (.nx L) M = Ev (b L M) Q := rfl
@[simp] theorem v_PSeqr (b : Ds) (Q : Fl → Mem → Prop) (v : Val) (M : Mem) : PSeq b Q (.rt v) M = Q (.rt v) M := rfl
@[simp] theorem v_PSeqb (b : Ds) (Q : Fl → Mem → Prop) (L : Loc) (M : Mem) : PSeq b Q (.bk L) M = Q (.bk L) M := rfl
@[simp] theorem v_PSeqc (b : Ds) (Q : Fl → Mem → Prop) (L : Loc) (M : Mem) : PSeq b Q (.ct L) M = Q (.ct L) M := rfl
def PRet (Q : Fl → Mem → Prop) : Val → Mem → Prop := fun v M => Q (.rt v) M
@[simp] theorem u_xRet (d : D) (L : Loc) (M : Mem) (Q : Fl → Mem → Prop) : Ev (xRet d L M) Q = Ev (d L M) (PRet Q) := by
  unfold xRet
  rw [ev_bind]
  refine congrArg _ (funext fun x => funext fun M => ?_)
  exact ev_ok _ _ _
@[simp] theorem v_PRet (Q : Fl → Mem → Prop) (v : Val) (M : Mem) : PRet Q v M = Q (.rt v) M := rfl
def PExp (L : Loc) (Q : Fl → Mem → Prop) : Val → Mem → Prop := fun _ M => Q (.nx L) M
@[simp] theorem u_xExpr (d : D) (L : Loc) (M : Mem) (Q : Fl → Mem → Prop) : Ev (xExpr d L M) Q = Ev (d L M) (PExp L Q) := by
  unfold xExpr
  rw [ev_bind]
  refine congrArg _ (funext fun x => funext fun M => ?_)
  exact ev_ok _ _ _
@[simp] theorem v_PExp (L : Loc) (Q : Fl → Mem → Prop) (v : Val) (M : Mem) : PExp L Q v M = Q (.nx L) M := rfl
def PSet (i : Nat) (L : Loc) (Q : Fl → Mem → Prop) : Val → Mem → Prop := fun v M => Q (.nx (L.set i (some v))) M
@[simp] theorem u_xSet (i : Nat) (d : D) (L : Loc) (M : Mem) (Q : Fl → Mem → Prop) : Ev (xSet i d L M) Q = Ev (d L M) (PSet i L Q) := by
  unfold xSet
  rw [ev_bind]
  refine congrArg _ (funext fun x => funext fun M => ?_)
  exact ev_ok _ _ _
@[simp] theorem v_PSet (i : Nat) (L : Loc) (Q : Fl → Mem → Prop) (v : Val) (M : Mem) : PSet i L Q v M = Q (.nx (L.set i (some v))) M := rfl
def PAsg2 (Q : Fl → Mem → Prop) : Loc → Mem → Prop := fun L M => Q (.nx L) M
def PAsg (t : DT) (L : Loc) (Q : Fl → Mem → Prop) : Val → Mem → Prop := fun v M => Ev (t v L M) (PAsg2 Q)
@[simp] theorem u_xAsg (d : D) (t : DT) (L : Loc) (M : Mem) (Q : Fl → Mem → Prop) : Ev (xAsg d t L M) Q = Ev (d L M) (PAsg t L Q) := by
  unfold xAsg
  rw [ev_bind]
  refine congrArg _ (funext fun x => funext fun M => ?_)
  rw [ev_bind]
  refine congrArg _ (funext fun x => funext fun M => ?_)
  exact ev_ok _ _ _
@[simp] theorem v_PAsg (t : DT) (L : Loc) (Q : Fl → Mem → Prop) (v : Val) (M : Mem) : PAsg t L Q v M = Ev (t v L M) (PAsg2 Q) := rfl
@[simp] theorem v_PAsg2 (Q : Fl → Mem → Prop) (L : Loc) (M : Mem) : PAsg2 Q L M = Q (.nx L) M := rfl
@[simp] theorem u_tNm (i : Nat) (v : Val) (L : Loc) (M : Mem) : tNm i v L M = .ok (L.set i (some v)) M := rfl
def setF (T : CTab) (f : String) (v : Val) (L : Loc) (x : Val) (M2 : Mem) : R Fl := match x with
  | .ref a => (match M2[a]? with
    | some (.ins c fs) => if hasF T c f = true ∧ fs.length < 100 then .ok (.nx L) (M2.set a (.ins c (putf f v fs))) else .no
    | _ => .no)
  | _ => .no
def PFd2 (T : CTab) (f : String) (v : Val) (L : Loc) (Q : Fl → Mem → Prop) : Val → Mem → Prop := fun x M => Ev (setF T f v L x M) Q
def PFd1 (T : CTab) (o : D) (f : String) (L : Loc) (Q : Fl → Mem → Prop) : Val → Mem → Prop := fun v M => Ev (o L M) (PFd2 T f v L Q)
@[simp] theorem u_xFld (T : CTab) (o : D) (f : String) (d : D) (L : Loc) (M : Mem) (Q : Fl → Mem → Prop) : Ev (xFld T o f d L M) Q = Ev (d L M) (PFd1 T o f L Q) := by
  unfold xFld
  rw [ev_bind]
  refine congrArg _ (funext fun v => funext fun M => ?_)
  rw [ev_bind]
  rfl
@[simp] theorem v_PFd1 (T : CTab) (o : D) (f : String) (L : Loc) (Q : Fl → Mem → Prop) (v : Val) (M : Mem) : PFd1 T o f L Q v M = Ev (o L M) (PFd2 T f v L Q) := rfl
theorem w_fd2 {T : CTab} {f : String} {v : Val} {L : Loc} {M : Mem} {a : Nat} {c : String} {fs : List (String × Val)} (h : M[a]? = some (.ins c fs)) (h2 : hasF T c f = true) (h3 : fs.length < 100) (Q : Fl → Mem → Prop) : PFd2 T f v L Q (.ref a) M = Q (.nx L) (M.set a (.ins c (putf f v fs))) := by
  simp only [PFd2, setF, h, h2, h3, and_self, if_true, ev_ok]
def PSb3 (x v : Val) (L : Loc) (Q : Fl → Mem → Prop) : Val → Mem → Prop := fun y M => Ev (setIx x y v M) fun _ M4 => Q (.nx L) M4
def PSb2 (i : D) (v : Val) (L : Loc) (Q : Fl → Mem → Prop) : Val → Mem → Prop := fun x M => Ev (i L M) (PSb3 x v L Q)
def PSb1 (o i : D) (L : Loc) (Q : Fl → Mem → Prop) : Val → Mem → Prop := fun v M => Ev (o L M) (PSb2 i v L Q)
@[simp] theorem u_xSub (o i d : D) (L : Loc) (M : Mem) (Q : Fl → Mem → Prop) : Ev (xSub o i d L M) Q = Ev (d L M) (PSb1 o i L Q) := by
  unfold xSub
  rw [ev_bind]
  refine congrArg _ (funext fun x => funext fun M => ?_)
  rw [ev_bind]
  refine congrArg _ (funext fun x => funext fun M => ?_)
  rw [ev_bind]
  refine congrArg _ (funext fun x => funext fun M => ?_)
  rw [ev_bind]
  refine congrArg _ (funext fun x => funext fun M => ?_)
  exact ev_ok _ _ _
@[simp] theorem v_PSb1 (o i : D) (L : Loc) (Q : Fl → Mem → Prop) (v : Val) (M : Mem) : PSb1 o i L Q v M = Ev (o L M) (PSb2 i v L Q) := rfl
@[simp] theorem v_PSb2 (i : D) (v : Val) (L : Loc) (Q : Fl → Mem → Prop) (x : Val) (M : Mem) : PSb2 i v L Q x M = Ev (i L M) (PSb3 x v L Q) := rfl
@[simp] theorem v_PSb3 (x v : Val) (L : Loc) (Q : Fl → Mem → Prop) (y : Val) (M : Mem) : PSb3 x v L Q y M = Ev (setIx x y v M) fun _ M4 => Q (.nx L) M4 := rfl
/-! a def's call -/
def PRun (Q : Val → Mem → Prop) : Fl → Mem → Prop := fun f M => match f with
  | .nx _ => Q .non M
  | .rt v => Q v M
  | _ => False
@[simp] theorem u_runD (n : Nat) (d : Ds) (args : List Val) (M : Mem) (Q : Val → Mem → Prop) : Ev (runD n d args M) Q = Ev (d (args.map some ++ List.replicate (n - args.length) none) M) (PRun Q) := by
  unfold runD
  rw [ev_bind]
  refine congrArg _ (funext fun x => funext fun M => ?_)
  cases x <;> first | exact ev_ok _ _ _ | exact ev_no _
@[simp] theorem v_PRunn (Q : Val → Mem → Prop) (L : Loc) (M : Mem) : PRun Q (.nx L) M = Q .non M := rfl
@[simp] theorem v_PRunr (Q : Val → Mem → Prop) (v : Val) (M : Mem) : PRun Q (.rt v) M = Q v M := rfl
/-! for -/
def PFor (g : Cfg) (tg : DT) (body : Ds) (L : Loc) (Q : Fl → Mem → Prop) : Itb → Mem → Prop := fun b M => Ev (forL g b tg body b.num 0 L M) Q
@[simp] theorem u_xFor (g : Cfg) (it : DI) (tg : DT) (body : Ds) (L : Loc) (M : Mem) (Q : Fl → Mem → Prop) : Ev (xFor g it tg body L M) Q = Ev (it L M) (PFor g tg body L Q) := by
  unfold xFor
  rw [ev_bind]; rfl
@[simp] theorem v_PFor (g : Cfg) (tg : DT) (body : Ds) (L : Loc) (Q : Fl → Mem → Prop) (b : Itb) (M : Mem) : PFor g tg body L Q b M = Ev (forL g b tg body b.num 0 L M) Q := rfl
def PStep (I : Nat → Loc → Mem → Prop) (j : Nat) (Q : Fl → Mem → Prop) : Fl → Mem → Prop := fun f M => match f with
  | .nx L => I (j + 1) L M
  | .ct L => I (j + 1) L M
  | .bk L => Q (.nx L) M
  | .rt v => Q (.rt v) M
@[simp] theorem v_PStepn (I : Nat → Loc → Mem → Prop) (j : Nat) (Q : Fl → Mem → Prop) (L : Loc) (M : Mem) : PStep I j Q (.nx L) M = I (j + 1) L M := rfl
@[simp] theorem v_PStepc (I : Nat → Loc → Mem → Prop) (j : Nat) (Q : Fl → Mem → Prop) (L : Loc) (M : Mem) : PStep I j Q (.ct L) M = I (j + 1) L M := rfl
@[simp] theorem v_PStepb (I : Nat → Loc → Mem → Prop) (j : Nat) (Q : Fl → Mem → Prop) (L : Loc) (M : Mem) : PStep I j Q (.bk L) M = Q (.nx L) M := rfl
@[simp] theorem v_PStepr (I : Nat → Loc → Mem → Prop) (j : Nat) (Q : Fl → Mem → Prop) (v : Val) (M : Mem) : PStep I j Q (.rt v) M = Q (.rt v) M := rfl
def PTgt (body : Ds) (Q : Fl → Mem → Prop) : Loc → Mem → Prop := fun L M => Ev (body L M) Q
@[simp] theorem v_PTgt (body : Ds) (Q : Fl → Mem → Prop) (L : Loc) (M : Mem) : PTgt body Q L M = Ev (body L M) Q := rfl
theorem forL_ev {g : Cfg} {it : Itb} {tg : DT} {body : Ds} {Q : Fl → Mem → Prop} (I : Nat → Loc → Mem → Prop) : ∀ {n i : Nat} {L : Loc} {M : Mem}, I i L M →
    (∀ j L M, i ≤ j → j < i + n → I j L M → Ev (yld g it j M) fun v M1 => Ev (tg v L M1) (PTgt body (PStep I j Q))) →
    (∀ L M, I (i + n) L M → fin g it (i + n) M = true ∧ Q (.nx L) M) → Ev (forL g it tg body n i L M) Q
  | 0, i, L, M, h, _, he => by
    obtain ⟨h1, h2⟩ := he L M h
    have h1' : fin g it i M = true := h1
    simp only [forL, h1', if_true, ev_ok]
    exact h2
  | n + 1, i, L, M, h, hs, he => by
    have z := hs i L M (Nat.le_refl _) (by omega) h
    simp only [forL]
    rw [ev_bind]
    refine z.mono fun v M1 z => ?_
    rw [ev_bind]
    refine z.mono fun L1 M2 z => ?_
    rw [ev_bind]
    refine Ev.mono z fun f M3 z => ?_
    cases f with
    | nx L2 => exact forL_ev I z (fun j L M h1 h2 => hs j L M (by omega) (by omega)) (fun L M h => by
        have e : i + (n + 1) = i + 1 + n := by omega
        rw [e] at he
        exact he L M h)
    | ct L2 => exact forL_ev I z (fun j L M h1 h2 => hs j L M (by omega) (by omega)) (fun L M h => by
        have e : i + (n + 1) = i + 1 + n := by omega
        rw [e] at he
        exact he L M h)
    | bk L2 => simp only [ev_ok]; exact z
    | rt v => simp only [ev_ok]; exact z

/-! ### memory -/
def Xt (M M' : Mem) : Prop := ∃ X, M' = M ++ X
theorem Xt.refl {M : Mem} : Xt M M := ⟨[], (List.append_nil M).symm⟩
theorem Xt.trans {M M1 M2 : Mem} (a : Xt M M1) (b : Xt M1 M2) : Xt M M2 := by
  obtain ⟨X, rfl⟩ := a
  obtain ⟨Y, rfl⟩ := b
  exact ⟨X ++ Y, List.append_assoc ..⟩
theorem Xt.app {M X : Mem} : Xt M (M ++ X) := ⟨X, rfl⟩
theorem Xt.get {M M' : Mem} (a : Xt M M') {i : Nat} {o : Ob} (h : M[i]? = some o) : M'[i]? = some o := by
  obtain ⟨X, rfl⟩ := a
  rw [List.getElem?_append_left (lt_of_get h)]; exact h
theorem Xt.len {M M' : Mem} (a : Xt M M') : M.length ≤ M'.length := by
  obtain ⟨X, rfl⟩ := a
  simp
theorem Xt.lst {g : Cfg} {M M' : Mem} (a : Xt M M') {v : Val} {xs : List Val} (h : lstOf g M v = some xs) : lstOf g M' v = some xs := by
  cases v with
  | ref i =>
    simp only [lstOf] at h ⊢
    cases hm : M[i]? with
    | none => rw [hm] at h; cases h
    | some o => rw [a.get hm]; rw [hm] at h; exact h
  | con k => exact h
  | _ => cases h
theorem Xt.tup {g : Cfg} {M M' : Mem} (a : Xt M M') {v : Val} {xs : List Val} (h : tupOf g M v = some xs) : tupOf g M' v = some xs := by
  cases v with
  | ref i =>
    simp only [tupOf] at h ⊢
    cases hm : M[i]? with
    | none => rw [hm] at h; cases h
    | some o => rw [a.get hm]; rw [hm] at h; exact h
  | con k => exact h
  | _ => cases h
theorem Xt.scr {g : Cfg} {M M' : Mem} (a : Xt M M') {ns : List Int} {v : Val} (h : Scr g ns v M) : Scr g ns v M' := by
  obtain ⟨X, rfl⟩ := a
  exact h.app
theorem get_app {M X : Mem} {i : Nat} {o : Ob} (h : M[i]? = some o) : (M ++ X)[i]? = some o := Xt.app.get h
theorem lst_app {g : Cfg} {M X : Mem} {v : Val} {xs : List Val} (h : lstOf g M v = some xs) : lstOf g (M ++ X) v = some xs := Xt.app.lst h
theorem tup_app {g : Cfg} {M X : Mem} {v : Val} {xs : List Val} (h : tupOf g M v = some xs) : tupOf g (M ++ X) v = some xs := Xt.app.tup h
@[simp] theorem get_at (M X : Mem) (k : Nat) : (M ++ X)[M.length + k]? = X[k]? := by
  rw [List.getElem?_append_right (Nat.le_add_right ..), Nat.add_sub_cancel_left]
@[simp] theorem get_at0 (M X : Mem) : (M ++ X)[M.length]? = X[0]? := get_at M X 0
@[simp] theorem set_at (M X : Mem) (k : Nat) (o : Ob) : (M ++ X).set (M.length + k) o = M ++ X.set k o := by
  rw [List.set_append_right _ _ (Nat.le_add_right ..), Nat.add_sub_cancel_left]
@[simp] theorem set_at0 (M X : Mem) (o : Ob) : (M ++ X).set M.length o = M ++ X.set 0 o := set_at M X 0 o
theorem lst_ref {g : Cfg} {M : Mem} {i : Nat} {xs : List Val} (h : M[i]? = some (.lst xs)) : lstOf g M (.ref i) = some xs := by simp only [lstOf, h]
theorem tup_ref {g : Cfg} {M : Mem} {i : Nat} {xs : List Val} (h : M[i]? = some (.tup xs)) : tupOf g M (.ref i) = some xs := by simp only [tupOf, h]
@[simp] theorem lst_at0 (g : Cfg) (M X : Mem) (xs : List Val) : lstOf g (M ++ .lst xs :: X) (.ref M.length) = some xs := lst_ref (by simp)
/-! ### operations -/
@[simp] theorem w_eqi (g : Cfg) (a b : Int) (M : Mem) : oEq g (.int a) (.int b) M = .ok (.bl (decide (a = b))) M := by
  show R.ok (Val.bl (a == b)) M = _
  by_cases h : a = b <;> simp [h]
@[simp] theorem w_eqs (g : Cfg) (a b : List Nat) (M : Mem) : oEq g (.str a) (.str b) M = .ok (.bl (decide (a = b))) M := by
  show R.ok (Val.bl (a == b)) M = _
  by_cases h : a = b <;> simp [h]
@[simp] theorem w_eqb (g : Cfg) (a b : Bool) (M : Mem) : oEq g (.bl a) (.bl b) M = .ok (.bl (decide (a = b))) M := by
  show R.ok (Val.bl (a == b)) M = _
  cases a <;> cases b <;> rfl
@[simp] theorem w_eqin (g : Cfg) (a : Int) (M : Mem) : oEq g (.int a) .non M = .ok (.bl false) M := rfl
@[simp] theorem w_eqni (g : Cfg) (a : Int) (M : Mem) : oEq g .non (.int a) M = .ok (.bl false) M := rfl
@[simp] theorem w_eqsn (g : Cfg) (a : List Nat) (M : Mem) : oEq g (.str a) .non M = .ok (.bl false) M := rfl
@[simp] theorem w_eqis (g : Cfg) (a : Int) (b : List Nat) (M : Mem) : oEq g (.int a) (.str b) M = .ok (.bl false) M := rfl
@[simp] theorem w_eqsi (g : Cfg) (a : Int) (b : List Nat) (M : Mem) : oEq g (.str b) (.int a) M = .ok (.bl false) M := rfl
@[simp] theorem w_nei (g : Cfg) (a b : Int) (M : Mem) : oNe g (.int a) (.int b) M = .ok (.bl (decide (a ≠ b))) M := by
  show R.ok (Val.bl (!(a == b))) M = _
  by_cases h : a = b <;> simp [h]
@[simp] theorem w_nes (g : Cfg) (a b : List Nat) (M : Mem) : oNe g (.str a) (.str b) M = .ok (.bl (decide (a ≠ b))) M := by
  show R.ok (Val.bl (!(a == b))) M = _
  by_cases h : a = b <;> simp [h]
@[simp] theorem w_neb (g : Cfg) (a b : Bool) (M : Mem) : oNe g (.bl a) (.bl b) M = .ok (.bl (decide (a ≠ b))) M := by
  show R.ok (Val.bl (!(a == b))) M = _
  cases a <;> cases b <;> rfl
@[simp] theorem w_cmp (p : Int → Int → Bool) (a b : Int) (M : Mem) : oCmp p (.int a) (.int b) M = .ok (.bl (p a b)) M := rfl
@[simp] theorem w_addi (a b : Int) (M : Mem) : oAdd (.int a) (.int b) M = .ok (.int (a + b)) M := rfl
@[simp] theorem w_adds (a b : List Nat) (M : Mem) : oAdd (.str a) (.str b) M = if a.length + b.length ≤ 1000000 then .ok (.str (a ++ b)) M else .no := rfl
@[simp] theorem w_sub (a b : Int) (M : Mem) : oSub (.int a) (.int b) M = .ok (.int (a - b)) M := rfl
@[simp] theorem w_mul (i j : Int) (M : Mem) : iMul (.int i) (.int j) M = if (-18446744073709551616 < i ∧ i < 18446744073709551616) ∨ (-18446744073709551616 < j ∧ j < 18446744073709551616) then .ok (.int (i * j)) M else .no := rfl
@[simp] theorem w_div (i j : Int) (M : Mem) : oDiv (.int i) (.int j) M = if 0 < j ∧ j < 18446744073709551616 then .ok (.int (i / j)) M else .no := rfl
@[simp] theorem w_mod (i j : Int) (M : Mem) : oMod (.int i) (.int j) M = if 0 < j then .ok (.int (i % j)) M else .no := rfl
@[simp] theorem w_pow (i j : Int) (M : Mem) : oPow (.int i) (.int j) M = if 0 ≤ j ∧ j ≤ 1000 ∧ -1000000 < i ∧ i < 1000000 then .ok (.int (i ^ j.toNat)) M else .no := rfl
@[simp] theorem w_shl (i j : Int) (M : Mem) : oShl (.int i) (.int j) M = if 0 ≤ j ∧ j ≤ 1000 ∧ -1000000 < i ∧ i < 1000000 then .ok (.int (i * 2 ^ j.toNat)) M else .no := rfl
@[simp] theorem w_shr (i j : Int) (M : Mem) : oShr (.int i) (.int j) M = if 0 ≤ j then .ok (.int (i / 2 ^ j.toNat)) M else .no := rfl
@[simp] theorem w_and (i j : Int) (M : Mem) : oAnd (.int i) (.int j) M = .ok (.int (Builtin.bitAnd i j)) M := rfl
@[simp] theorem w_or (i j : Int) (M : Mem) : oOr (.int i) (.int j) M = .ok (.int (Builtin.bitOr i j)) M := rfl
@[simp] theorem w_isn (x : Val) (M : Mem) : oIs false x .non M = .ok (.bl (decide (x = .non))) M := rfl
@[simp] theorem w_isnn (x : Val) (M : Mem) : oIs true x .non M = .ok (.bl (!decide (x = .non))) M := rfl
@[simp] theorem w_inti (i : Int) (M : Mem) : bInt [.int i] M = .ok (.int i) M := rfl
@[simp] theorem w_intb (b : Bool) (M : Mem) : bInt [.bl b] M = .ok (.int (if b = true then 1 else 0)) M := rfl
@[simp] theorem w_max (i j : Int) (M : Mem) : bMax [.int i, .int j] M = .ok (.int (if j > i then j else i)) M := rfl
@[simp] theorem w_min (i j : Int) (M : Mem) : bMin [.int i, .int j] M = .ok (.int (if j < i then j else i)) M := rfl
theorem w_len {g : Cfg} {M : Mem} {v : Val} {xs : List Val} (h : lstOf g M v = some xs) : bLen g [v] M = .ok (.int xs.length) M := by
  cases v with
  | str s => cases h
  | _ => simp only [bLen, seqOf, h]
theorem w_lent {g : Cfg} {M : Mem} {v : Val} {xs : List Val} (h0 : lstOf g M v = none) (h : tupOf g M v = some xs) : bLen g [v] M = .ok (.int xs.length) M := by
  cases v with
  | str s => cases h
  | _ => simp only [bLen, seqOf, h0, h]
@[simp] theorem w_lens (g : Cfg) (s : List Nat) (M : Mem) : bLen g [.str s] M = if s.length ≤ 1000000 then .ok (.int s.length) M else .no := rfl
theorem w_ix {g : Cfg} {M : Mem} {v : Val} {xs : List Val} {i : Int} {x : Val} (h : lstOf g M v = some xs) (h2 : atI xs i = some x) : oIx g v (.int i) M = .ok x M := by
  cases v with
  | str s => cases h
  | _ => simp only [oIx, qIx, seqOf, h, h2, u_of]
theorem w_ixt {g : Cfg} {M : Mem} {v : Val} {xs : List Val} {i : Int} {x : Val} (h0 : lstOf g M v = none) (h : tupOf g M v = some xs) (h2 : atI xs i = some x) : oIx g v (.int i) M = .ok x M := by
  cases v with
  | str s => cases h
  | _ => simp only [oIx, qIx, seqOf, h0, h, h2, u_of]
theorem w_ixs {g : Cfg} {M : Mem} {s : List Nat} {i : Int} {c : Nat} (h : s.length ≤ 1000000) (h2 : atI s i = some c) : oIx g (.str s) (.int i) M = .ok (.str [c]) M := by
  simp only [oIx, sIx, h, h2, if_true]
theorem at_nat {α : Type} {xs : List α} {k : Nat} {x : α} (h : xs[k]? = some x) : atI xs (k : Int) = some x := by
  have l : k < xs.length := (List.getElem?_eq_some_iff.mp h).1
  have e : ixN xs.length (k : Int) = some k := by
    unfold ixN
    rw [if_pos (by omega), if_pos (by omega)]
    simp
  unfold atI
  rw [e]; exact h
theorem at_int {α : Type} {xs : List α} {i : Int} {x : α} (h0 : 0 ≤ i) (h : xs[i.toNat]? = some x) : atI xs i = some x := by
  have := at_nat h
  rwa [Int.toNat_of_nonneg h0] at this
theorem w_list {g : Cfg} {M : Mem} {v : Val} {xs : List Val} (h : lstOf g M v = some xs) : bList g [v] M = .ok (.ref M.length) (M ++ [.lst xs]) := by
  simp only [bList, seqOf, h]
theorem bls_map {α : Type} (f : α → Bool) : ∀ xs : List α, blsOf (xs.map fun x => .bl (f x)) = some (xs.map f)
  | [] => rfl
  | x :: xs => by
    simp only [List.map_cons, blsOf, bls_map f xs, Option.map_some]
theorem ints_map {α : Type} (f : α → Int) : ∀ xs : List α, intsOf (xs.map fun x => .int (f x)) = some (xs.map f)
  | [] => rfl
  | x :: xs => by
    simp only [List.map_cons, intsOf, ints_map f xs, Option.map_some]
theorem w_all {g : Cfg} {M : Mem} {v : Val} {xs : List Val} {bs : List Bool} (h : lstOf g M v = some xs) (h2 : blsOf xs = some bs) : bAll g [v] M = .ok (.bl (bs.all id)) M := by
  simp only [bAll, h, Option.bind_some, h2]
theorem w_any {g : Cfg} {M : Mem} {v : Val} {xs : List Val} {bs : List Bool} (h : lstOf g M v = some xs) (h2 : blsOf xs = some bs) : bAny g [v] M = .ok (.bl (bs.any id)) M := by
  simp only [bAny, h, Option.bind_some, h2]
theorem w_sum {g : Cfg} {M : Mem} {v : Val} {xs : List Val} {bs : List Int} (h : lstOf g M v = some xs) (h2 : intsOf xs = some bs) : bSum g [v] M = .ok (.int bs.sum) M := by
  simp only [bSum, h, Option.bind_some, h2]
theorem w_app {M : Mem} {a : Nat} {xs : List Val} {v : Val} (h : M[a]? = some (.lst xs)) (hl : xs.length < 1000000) : mAppend (.ref a) [v] M = .ok .non (M.set a (.lst (xs ++ [v]))) := by
  simp only [mAppend, h, hl, if_true]
theorem w_isl {M : Mem} {a : Nat} {xs : List Val} (h : M[a]? = some (.lst xs)) : isTy "list" M (.ref a) = true := by
  simp only [isTy, h]; rfl
@[simp] theorem w_isS (s : List Nat) (M : Mem) : isTy "str" M (.str s) = true := rfl
@[simp] theorem w_tyi (g : Cfg) (cs : List String) (M : Mem) (i : Int) : tyOf g cs M (.int i) = some "int" := rfl
@[simp] theorem w_tyb (g : Cfg) (cs : List String) (M : Mem) (i : Bool) : tyOf g cs M (.bl i) = some "bool" := rfl
@[simp] theorem w_tys (g : Cfg) (cs : List String) (M : Mem) (i : List Nat) : tyOf g cs M (.str i) = some "str" := rfl
@[simp] theorem w_tyn (g : Cfg) (cs : List String) (M : Mem) : tyOf g cs M .non = some "NoneType" := rfl
theorem w_tyl {g : Cfg} {cs : List String} {M : Mem} {v : Val} {xs : List Val} (h : lstOf g M v = some xs) : tyOf g cs M v = some "list" := by
  cases v with
  | ref a =>
    simp only [lstOf] at h
    simp only [tyOf]
    split at h
    · rename_i hm; rw [hm]
    · rename_i hm; rw [hm]
    · cases h
  | con k =>
    simp only [lstOf] at h
    simp only [tyOf]
    split at h
    · rename_i hm; rw [hm]; rfl
    · cases h
  | _ => cases h
@[simp] theorem w_trb (M : Mem) (b : Bool) : truOf M (.bl b) = some b := rfl
@[simp] theorem w_tri (M : Mem) (i : Int) : truOf M (.int i) = some (i != 0) := rfl
@[simp] theorem w_trn (M : Mem) : truOf M .non = some false := rfl
theorem w_trl {M : Mem} {a : Nat} {xs : List Val} (h : M[a]? = some (.lst xs)) : truOf M (.ref a) = some (!xs.isEmpty) := by simp only [truOf, h]
/-! ### what is walked -/
@[simp] theorem w_yr (g : Cfg) (lo c : Int) (n i : Nat) (M : Mem) : yld g (.rng lo c n) i M = .ok (.int (lo + (i : Int) * c)) M := rfl
@[simp] theorem w_fr (g : Cfg) (lo c : Int) (n i : Nat) (M : Mem) : fin g (.rng lo c n) i M = decide (n ≤ i) := rfl
@[simp] theorem w_ys (g : Cfg) (s : List Nat) (i : Nat) (M : Mem) : Ev (yld g (.str s) i M) = fun Q => ∃ c, s[i]? = some c ∧ Q (.str [c]) M := by
  funext Q
  simp only [yld]
  cases h : s[i]? <;> simp
@[simp] theorem w_fs (g : Cfg) (s : List Nat) (i : Nat) (M : Mem) : fin g (.str s) i M = decide (s.length ≤ i) := rfl
theorem w_yl {g : Cfg} {M : Mem} {v : Val} {xs : List Val} {n i : Nat} {x : Val} (h : lstOf g M v = some xs) (h2 : xs[i]? = some x) : yld g (.lst v n) i M = .ok x M := by
  simp only [yld, h, h2, u_of]
theorem w_fl {g : Cfg} {M : Mem} {v : Val} {xs : List Val} {n i : Nat} (h : lstOf g M v = some xs) (h2 : xs.length ≤ i) : fin g (.lst v n) i M = true := by
  simp only [fin, h, h2, decide_true]
theorem w_yt {g : Cfg} {M : Mem} {v : Val} {xs : List Val} {n i : Nat} {x : Val} (h : tupOf g M v = some xs) (h2 : xs[i]? = some x) : yld g (.tup v n) i M = .ok x M := by
  simp only [yld, h, h2, u_of]
theorem w_ft {g : Cfg} {M : Mem} {v : Val} {xs : List Val} {n i : Nat} (h : tupOf g M v = some xs) (h2 : xs.length ≤ i) : fin g (.tup v n) i M = true := by
  simp only [fin, h, h2, decide_true]
def PSeqI (g : Cfg) (Q : Itb → Mem → Prop) : Val → Mem → Prop := fun v M => Ev (iSeq g (fun _ M => .ok v M) [] M) Q
@[simp] theorem u_iSeq (g : Cfg) (d : D) (L : Loc) (M : Mem) (Q : Itb → Mem → Prop) : Ev (iSeq g d L M) Q = Ev (d L M) (PSeqI g Q) := by
  unfold PSeqI iSeq
  rw [ev_bind]
  rfl
@[simp] theorem v_iSeqs (g : Cfg) (Q : Itb → Mem → Prop) (s : List Nat) (M : Mem) : PSeqI g Q (.str s) M = Q (.str s) M := by
  simp [PSeqI, iSeq, R.bind_ok]
theorem v_iSeql {g : Cfg} {v : Val} {xs : List Val} {M : Mem} (h : lstOf g M v = some xs) (Q : Itb → Mem → Prop) : PSeqI g Q v M = Q (.lst v xs.length) M := by
  cases v with
  | str s => cases h
  | _ => simp [PSeqI, iSeq, R.bind_ok, h]
theorem v_iSeqt {g : Cfg} {v : Val} {xs : List Val} {M : Mem} (h0 : lstOf g M v = none) (h : tupOf g M v = some xs) (Q : Itb → Mem → Prop) : PSeqI g Q v M = Q (.tup v xs.length) M := by
  cases v with
  | str s => cases h
  | _ => simp [PSeqI, iSeq, R.bind_ok, h, h0]
def PR1 (Q : Itb → Mem → Prop) : List Val → Mem → Prop := fun vs M => Ev (iR1 (fun _ M => .ok vs M) [] M) Q
@[simp] theorem u_iR1 (d : DA) (L : Loc) (M : Mem) (Q : Itb → Mem → Prop) : Ev (iR1 d L M) Q = Ev (d L M) (PR1 Q) := by
  unfold PR1 iR1
  rw [ev_bind]
  rfl
@[simp] theorem v_iR1 (Q : Itb → Mem → Prop) (j : Int) (M : Mem) : PR1 Q [.int j] M = ((-1000000 ≤ j ∧ j ≤ 1000000) ∧ Q (.rng 0 1 j.toNat) M) := by
  simp only [PR1, iR1, R.bind_ok, ev_guard, ev_ok]
def PR2 (Q : Itb → Mem → Prop) : List Val → Mem → Prop := fun vs M => Ev (iR2 (fun _ M => .ok vs M) [] M) Q
@[simp] theorem u_iR2 (d : DA) (L : Loc) (M : Mem) (Q : Itb → Mem → Prop) : Ev (iR2 d L M) Q = Ev (d L M) (PR2 Q) := by
  unfold PR2 iR2
  rw [ev_bind]
  rfl
@[simp] theorem v_iR2 (Q : Itb → Mem → Prop) (i j : Int) (M : Mem) : PR2 Q [.int i, .int j] M = ((-1000000 ≤ j ∧ j ≤ 1000000 ∧ -1000000 ≤ i ∧ i ≤ 1000000) ∧ Q (.rng i 1 (j - i).toNat) M) := by
  simp only [PR2, iR2, R.bind_ok, ev_guard, ev_ok]
/-! ### comprehensions -/
def PTt (te : D) (L : Loc) (S : Option Val → Mem → Prop) : Val → Mem → Prop := fun t M => match t with
  | .bl true => Ev (te L M) fun y M => S (some y) M
  | .bl false => S none M
  | _ => False
def PTs2 (S : Option Val → Mem → Prop) : Val → Mem → Prop := fun y M => S (some y) M
@[simp] theorem v_PTs2 (S : Option Val → Mem → Prop) (y : Val) (M : Mem) : PTs2 S y M = S (some y) M := rfl
@[simp] theorem v_PTt (te : D) (L : Loc) (S : Option Val → Mem → Prop) (k : Bool) (M : Mem) : PTt te L S (.bl k) M = ((k = true → Ev (te L M) (PTs2 S)) ∧ (k = false → S none M)) := by
  cases k <;> simp [PTt]; rfl
def PTg (tt te : D) (S : Option Val → Mem → Prop) : Loc → Mem → Prop := fun L M => Ev (tt L M) (PTt te L S)
@[simp] theorem v_PTg (tt te : D) (S : Option Val → Mem → Prop) (L : Loc) (M : Mem) : PTg tt te S L M = Ev (tt L M) (PTt te L S) := rfl
@[simp] theorem u_cYes (L : Loc) (M : Mem) (Q : Val → Mem → Prop) : Ev (cYes L M) Q = Q (.bl true) M := by
  unfold cYes
  exact ev_ok _ _ _
def PYl (tg : DT) (tt te : D) (L : Loc) (S : Option Val → Mem → Prop) : Val → Mem → Prop := fun v M => Ev (tg v L M) (PTg tt te S)
@[simp] theorem v_PYl (tg : DT) (tt te : D) (L : Loc) (S : Option Val → Mem → Prop) (v : Val) (M : Mem) : PYl tg tt te L S v M = Ev (tg v L M) (PTg tt te S) := rfl
def PXt (M : Mem) (o : Option Val) : Option Val → Mem → Prop := fun o' M' => o' = o ∧ Xt M M'
@[simp] theorem v_PXt (M : Mem) (o o' : Option Val) (M' : Mem) : PXt M o o' M' = (o' = o ∧ Xt M M') := rfl
theorem compL_ev {g : Cfg} {it : Itb} {tg : DT} {tt te : D} {D0 : Nat} {L0 : Loc} {M0 : Mem} {F : Nat → Option Val} (hD : D0 = M0.length) : ∀ {n i : Nat} {acc : List Val} {M : Mem}, Xt M0 M → M[D0]? = some (.lst acc) → acc.length + n ≤ 1000000 →
    (∀ j M, i ≤ j → j < i + n → Xt M0 M → Ev (yld g it j M) (PYl tg tt te L0 (PXt M (F j)))) → (∀ M, Xt M0 M → fin g it (i + n) M = true) →
    Ev (compL g it tg tt te D0 L0 n i M) fun _ M' => ∃ X, M' = M0 ++ .lst (acc ++ (List.range' i n).filterMap F) :: X
  | 0, i, acc, M, x, h, _, _, hf => by
    have h1 := hf M x
    rw [Nat.add_zero] at h1
    simp only [compL, h1, if_true, ev_ok]
    obtain ⟨X, rfl⟩ := x
    subst hD
    rw [get_at0] at h
    cases X with
    | nil => cases h
    | cons o X =>
      cases h
      exact ⟨X, by simp⟩
  | n + 1, i, acc, M, x, h, hl, hs, hf => by
    have z := hs i M (Nat.le_refl _) (by omega) x
    simp only [compL]
    rw [ev_bind]
    refine z.mono fun v M1 z => ?_
    rw [ev_bind]
    refine Ev.mono z fun L1 M2 z => ?_
    rw [ev_bind]
    refine Ev.mono z fun b M3 z => ?_
    have hs' : ∀ j M, i + 1 ≤ j → j < i + 1 + n → Xt M0 M → Ev (yld g it j M) (PYl tg tt te L0 (PXt M (F j))) := fun j M h1 h2 => hs j M (by omega) (by omega)
    have hf' : ∀ M, Xt M0 M → fin g it (i + 1 + n) M = true := fun M x => by
      have e : i + 1 + n = i + (n + 1) := by omega
      rw [e]; exact hf M x
    have e : List.range' i (n + 1) = i :: List.range' (i + 1) n := by rw [List.range'_succ]
    cases b with
    | bl k =>
      cases k with
      | true =>
        simp only
        rw [ev_bind]
        refine Ev.mono z fun y M4 z => ?_
        obtain ⟨z1, z2⟩ := z
        have h4 : M4[D0]? = some (.lst acc) := z2.get h
        rw [h4]
        have hlt : acc.length < 1000000 := by omega
        simp only [hlt, if_true]
        have x4 : Xt M0 (M4.set D0 (.lst (acc ++ [y]))) := by
          obtain ⟨X, rfl⟩ := x.trans z2
          subst hD
          rw [set_at0]
          exact ⟨_, rfl⟩
        have g4 : (M4.set D0 (.lst (acc ++ [y])))[D0]? = some (.lst (acc ++ [y])) := by
          rw [List.getElem?_set_self (lt_of_get h4)]
        refine (compL_ev hD (n := n) (i := i + 1) x4 g4 (by rw [List.length_append, List.length_singleton]; omega) hs' hf').mono fun _ M' ⟨X, q⟩ => ⟨X, ?_⟩
        rw [q, e, List.filterMap_cons, ← z1]
        simp
      | false =>
        obtain ⟨z1, z2⟩ := z
        simp only
        refine (compL_ev hD (n := n) (i := i + 1) (x.trans z2) (z2.get h) (by omega) hs' hf').mono fun _ M' ⟨X, q⟩ => ⟨X, ?_⟩
        rw [q, e, List.filterMap_cons, ← z1]
    | _ => exact z.elim
def PCmp (g : Cfg) (tg : DT) (tt te : D) (vs : List Nat) (L : Loc) (Q : Val → Mem → Prop) : Itb → Mem → Prop := fun b M => Ev (compL g b tg tt te M.length (wipeL L vs) b.num 0 (M ++ [.lst []])) fun _ M2 => Q (.ref M.length) M2
@[simp] theorem u_dComp (g : Cfg) (it : DI) (tg : DT) (tt te : D) (vs : List Nat) (L : Loc) (M : Mem) (Q : Val → Mem → Prop) : Ev (dComp g it tg tt te vs L M) Q = Ev (it L M) (PCmp g tg tt te vs L Q) := by
  unfold dComp
  rw [ev_bind]
  refine congrArg _ (funext fun b => funext fun M => ?_)
  rw [ev_bind]
  refine congrArg _ (funext fun b => funext fun M => ?_)
  exact ev_ok _ _ _
/-- a comprehension whose items change nothing -/
theorem comp_ev {g : Cfg} {b : Itb} {tg : DT} {tt te : D} {vs : List Nat} {L : Loc} {M : Mem} {Q : Val → Mem → Prop} (F : Nat → Option Val) (hn : b.num ≤ 1000000) (hs : ∀ j M', j < b.num → Xt M M' → Ev (yld g b j M') (PYl tg tt te (wipeL L vs) (PXt M' (F j)))) (hf : ∀ M', Xt M M' → fin g b b.num M' = true)
    (k : ∀ X, Q (.ref M.length) (M ++ .lst ((List.range b.num).filterMap F) :: X)) : PCmp g tg tt te vs L Q b M := by
  refine (compL_ev (M0 := M) (F := F) rfl (n := b.num) (i := 0) (acc := []) Xt.app (by simp) (by simpa using hn) (fun j M' _ h2 x => hs j M' (by omega) x) (fun M' x => by rw [Nat.zero_add]; exact hf M' x)).mono fun _ M' ⟨X, q⟩ => ?_
  rw [q, List.nil_append, ← List.range_eq_range']
  exact k X
theorem comp_rng {g : Cfg} {n : Nat} {tg : DT} {tt te : D} {vs : List Nat} {L : Loc} {M : Mem} {Q : Val → Mem → Prop} (F : Nat → Option Val) (hn : n ≤ 1000000) (hs : ∀ j M', j < n → Xt M M' → PYl tg tt te (wipeL L vs) (PXt M' (F j)) (.int j) M')
    (k : ∀ X, Q (.ref M.length) (M ++ .lst ((List.range n).filterMap F) :: X)) : PCmp g tg tt te vs L Q (.rng 0 1 n) M :=
  comp_ev F hn (fun j M' h x => by simpa using hs j M' h x) (fun M' _ => by simp [Itb.num]) k
theorem comp_rng2 {g : Cfg} {n : Nat} {lo : Int} {tg : DT} {tt te : D} {vs : List Nat} {L : Loc} {M : Mem} {Q : Val → Mem → Prop} (F : Nat → Option Val) (hn : n ≤ 1000000) (hs : ∀ j M', j < n → Xt M M' → PYl tg tt te (wipeL L vs) (PXt M' (F j)) (.int (lo + j)) M')
    (k : ∀ X, Q (.ref M.length) (M ++ .lst ((List.range n).filterMap F) :: X)) : PCmp g tg tt te vs L Q (.rng lo 1 n) M :=
  comp_ev F hn (fun j M' h x => by simpa using hs j M' h x) (fun M' _ => by simp [Itb.num]) k
theorem fm_list {α β : Type} (xs : List α) (f : α → Option β) : (List.range xs.length).filterMap (fun j => (xs[j]?).bind f) = xs.filterMap f := by
  induction xs with
  | nil => rfl
  | cons x xs ih =>
    rw [List.length_cons, List.range_succ_eq_map, List.filterMap_cons, List.filterMap_map]
    have e : (fun j => (x :: xs)[j]?.bind f) ∘ Nat.succ = fun j => (xs[j]?).bind f := by
      funext j; simp
    rw [e, ih, List.filterMap_cons]
    simp
theorem comp_lst {g : Cfg} {v : Val} {xs : List Val} {tg : DT} {tt te : D} {vs : List Nat} {L : Loc} {M : Mem} {Q : Val → Mem → Prop} (F : Val → Option Val) (h : lstOf g M v = some xs) (hn : xs.length ≤ 1000000) (hs : ∀ x M', x ∈ xs → Xt M M' → PYl tg tt te (wipeL L vs) (PXt M' (F x)) x M')
    (k : ∀ X, Q (.ref M.length) (M ++ .lst (xs.filterMap F) :: X)) : PCmp g tg tt te vs L Q (.lst v xs.length) M := by
  refine comp_ev (fun j => (xs[j]?).bind F) hn (fun j M' hj x => ?_) (fun M' x => w_fl (x.lst h) (Nat.le_refl _)) fun X => ?_
  · have e : xs[j]? = some xs[j] := List.getElem?_eq_getElem hj
    rw [w_yl (x.lst h) e, ev_ok, e]
    exact hs _ _ (List.getElem_mem hj) x
  · have e : (Itb.lst v xs.length).num = xs.length := rfl
    rw [e, fm_list]
    exact k X
theorem comp_str {g : Cfg} {s : List Nat} {tg : DT} {tt te : D} {vs : List Nat} {L : Loc} {M : Mem} {Q : Val → Mem → Prop} (F : Nat → Option Val) (hn : s.length ≤ 1000000) (hs : ∀ x M', x ∈ s → Xt M M' → PYl tg tt te (wipeL L vs) (PXt M' (F x)) (.str [x]) M')
    (k : ∀ X, Q (.ref M.length) (M ++ .lst (s.filterMap F) :: X)) : PCmp g tg tt te vs L Q (.str s) M := by
  refine comp_ev (fun j => (s[j]?).bind F) hn (fun j M' hj x => ?_) (fun M' x => by simp [Itb.num]) fun X => ?_
  · have e : s[j]? = some s[j] := List.getElem?_eq_getElem hj
    simp only [w_ys]
    refine ⟨_, e, ?_⟩
    rw [e]
    exact hs _ _ (List.getElem_mem hj) x
  · have e : (Itb.str s).num = s.length := rfl
    rw [e, fm_list]
    exact k X
theorem fm_map {α β : Type} (f : α → β) (xs : List α) : xs.filterMap (fun x => some (f x)) = xs.map f := by
  induction xs with
  | nil => rfl
  | cons x xs ih => rw [List.filterMap_cons, List.map_cons, ih]
theorem fm_filter {α β : Type} (p : α → Bool) (f : α → β) (xs : List α) : xs.filterMap (fun x => if p x = true then some (f x) else none) = (xs.filter p).map f := by
  induction xs with
  | nil => rfl
  | cons x xs ih =>
    rw [List.filterMap_cons, List.filter_cons]
    cases h : p x <;> simp [ih]
/-! ### loops unrolled; lists compared -/
def PUn2 (g : Cfg) (it : Itb) (tg : DT) (body : Ds) (n i : Nat) (Q : Fl → Mem → Prop) : Fl → Mem → Prop := fun f M => match f with
  | .nx L => Ev (forL g it tg body n (i + 1) L M) Q
  | .ct L => Ev (forL g it tg body n (i + 1) L M) Q
  | .bk L => Q (.nx L) M
  | .rt v => Q (.rt v) M
@[simp] theorem v_PUn2n (g : Cfg) (it : Itb) (tg : DT) (body : Ds) (n i : Nat) (Q : Fl → Mem → Prop) (L : Loc) (M : Mem) : PUn2 g it tg body n i Q (.nx L) M = Ev (forL g it tg body n (i + 1) L M) Q := rfl
@[simp] theorem v_PUn2c (g : Cfg) (it : Itb) (tg : DT) (body : Ds) (n i : Nat) (Q : Fl → Mem → Prop) (L : Loc) (M : Mem) : PUn2 g it tg body n i Q (.ct L) M = Ev (forL g it tg body n (i + 1) L M) Q := rfl
@[simp] theorem v_PUn2b (g : Cfg) (it : Itb) (tg : DT) (body : Ds) (n i : Nat) (Q : Fl → Mem → Prop) (L : Loc) (M : Mem) : PUn2 g it tg body n i Q (.bk L) M = Q (.nx L) M := rfl
@[simp] theorem v_PUn2r (g : Cfg) (it : Itb) (tg : DT) (body : Ds) (n i : Nat) (Q : Fl → Mem → Prop) (v : Val) (M : Mem) : PUn2 g it tg body n i Q (.rt v) M = Q (.rt v) M := rfl
def PUn1 (g : Cfg) (it : Itb) (tg : DT) (body : Ds) (n i : Nat) (L : Loc) (Q : Fl → Mem → Prop) : Val → Mem → Prop := fun v M => Ev (tg v L M) (PTgt body (PUn2 g it tg body n i Q))
@[simp] theorem v_PUn1 (g : Cfg) (it : Itb) (tg : DT) (body : Ds) (n i : Nat) (L : Loc) (Q : Fl → Mem → Prop) (v : Val) (M : Mem) : PUn1 g it tg body n i L Q v M = Ev (tg v L M) (PTgt body (PUn2 g it tg body n i Q)) := rfl
theorem un_S (g : Cfg) (it : Itb) (tg : DT) (body : Ds) (n i : Nat) (L : Loc) (M : Mem) (Q : Fl → Mem → Prop) : Ev (forL g it tg body (n + 1) i L M) Q = Ev (yld g it i M) (PUn1 g it tg body n i L Q) := by
  simp only [forL]
  rw [ev_bind]
  refine congrArg _ (funext fun v => funext fun M => ?_)
  rw [ev_bind]
  refine congrArg _ (funext fun L => funext fun M => ?_)
  rw [ev_bind]
  refine congrArg _ (funext fun f => funext fun M => ?_)
  cases f <;> first | rfl | exact ev_ok _ _ _
theorem un_Z (g : Cfg) (it : Itb) (tg : DT) (body : Ds) (i : Nat) (L : Loc) (M : Mem) (Q : Fl → Mem → Prop) : Ev (forL g it tg body 0 i L M) Q = (fin g it i M = true ∧ Q (.nx L) M) := by
  simp only [forL]
  rw [ev_guard, ev_ok]
@[simp] theorem num_rng (a b : Int) (n : Nat) : (Itb.rng a b n).num = n := rfl
@[simp] theorem num_lst (v : Val) (n : Nat) : (Itb.lst v n).num = n := rfl
@[simp] theorem num_tup (v : Val) (n : Nat) : (Itb.tup v n).num = n := rfl
@[simp] theorem num_str (s : List Nat) : (Itb.str s).num = s.length := rfl
theorem range3 : List.range 3 = [0, 1, 2] := rfl
theorem mapO_ints (g : Cfg) (M : Mem) (n : Nat) : ∀ {xs : List Val} {is : List Int}, intsOf xs = some is → mapO (deep g M n) xs = some (is.map .int)
  | [], is, h => by cases h; rfl
  | .int i :: xs, is, h => by
    simp only [intsOf] at h
    obtain ⟨js, h1, rfl⟩ := Option.map_eq_some_iff.mp h
    simp only [mapO, deep, mapO_ints g M n h1, List.map_cons]
  | .non :: _, _, h => by cases h
  | .bl _ :: _, _, h => by cases h
  | .str _ :: _, _, h => by cases h
  | .ref _ :: _, _, h => by cases h
  | .con _ :: _, _, h => by cases h
theorem eqDs_ints : ∀ is js : List Int, eqDs (is.map .int) (js.map .int) = decide (is = js)
  | [], [] => rfl
  | [], _ :: _ => rfl
  | _ :: _, [] => rfl
  | i :: is, j :: js => by
    simp only [List.map_cons, eqDs, eqD, eqDs_ints is js]
    by_cases h : i = j <;> simp [h]
theorem lst_flat {g : Cfg} {M : Mem} {v : Val} {xs : List Val} (h : lstOf g M v = some xs) : flat v = false := by
  cases v with
  | ref _ => rfl
  | con _ => rfl
  | _ => cases h
theorem scal_l {x y : Val} (h : flat x = false) : scalF x y = false := by
  cases x <;> cases y <;> first | rfl | (simp only [scalF, flat] at *; done) | (simp [scalF, flat] at *)
theorem deep_lst {g : Cfg} {M : Mem} {v : Val} {xs : List Val} {ds : List Dat} {n : Nat} (h : lstOf g M v = some xs) (h2 : mapO (deep g M n) xs = some ds) : deep g M (n + 1) v = some (.lst ds) := by
  cases v with
  | ref a => simp only [deep, h, h2, Option.map_some]
  | con k => simp only [deep, h, h2, Option.map_some]
  | _ => cases h
theorem deep_tup {g : Cfg} {M : Mem} {v : Val} {xs : List Val} {ds : List Dat} {n : Nat} (h0 : lstOf g M v = none) (h : tupOf g M v = some xs) (h2 : mapO (deep g M n) xs = some ds) : deep g M (n + 1) v = some (.tup ds) := by
  cases v with
  | ref a => simp only [deep, h0, h, h2, Option.map_some]
  | con k => simp only [deep, h0, h, h2, Option.map_some]
  | _ => cases h
theorem w_eqd {g : Cfg} {M : Mem} {x y : Val} {d e : Dat} (hf : flat x = false) (h1 : deep g M 60 x = some d) (h2 : deep g M 60 y = some e) : oEq g x y M = .ok (.bl (eqD d e)) M := by
  simp only [oEq, scal_l hf, Bool.false_eq_true, if_false, oEqD, h1, h2]
theorem w_ned {g : Cfg} {M : Mem} {x y : Val} {d e : Dat} (hf : flat x = false) (h1 : deep g M 60 x = some d) (h2 : deep g M 60 y = some e) : oNe g x y M = .ok (.bl (!eqD d e)) M := by
  simp only [oNe, scal_l hf, Bool.false_eq_true, if_false, oEqD, h1, h2, if_true]
theorem w_eqL {g : Cfg} {M : Mem} {x y : Val} {xs ys : List Val} {is js : List Int} (h1 : lstOf g M x = some xs) (h2 : lstOf g M y = some ys) (h3 : intsOf xs = some is) (h4 : intsOf ys = some js) : oEq g x y M = .ok (.bl (decide (is = js))) M := by
  rw [w_eqd (lst_flat h1) (deep_lst h1 (mapO_ints g M 59 h3)) (deep_lst h2 (mapO_ints g M 59 h4))]
  simp only [eqD, eqDs_ints]
theorem w_neL {g : Cfg} {M : Mem} {x y : Val} {xs ys : List Val} {is js : List Int} (h1 : lstOf g M x = some xs) (h2 : lstOf g M y = some ys) (h3 : intsOf xs = some is) (h4 : intsOf ys = some js) : oNe g x y M = .ok (.bl (!decide (is = js))) M := by
  rw [w_ned (lst_flat h1) (deep_lst h1 (mapO_ints g M 59 h3)) (deep_lst h2 (mapO_ints g M 59 h4))]
  simp only [eqD, eqDs_ints]
@[simp] theorem ints_nil : intsOf [] = some [] := rfl
@[simp] theorem ints_cons (i : Int) (xs : List Val) : intsOf (.int i :: xs) = (intsOf xs).map (i :: ·) := rfl
@[simp] theorem bls_nil : blsOf [] = some [] := rfl
@[simp] theorem bls_cons (i : Bool) (xs : List Val) : blsOf (.bl i :: xs) = (blsOf xs).map (i :: ·) := rfl
/-! ### objects made here -/
def isL : Option Ob → Bool
  | some (.lst _) => true
  | _ => false
def isT : Option Ob → Bool
  | some (.tup _) => true
  | _ => false
def isI : Option Ob → Bool
  | some (.ins _ _) => true
  | _ => false
def obL : Option Ob → List Val
  | some (.lst xs) => xs
  | some (.tup xs) => xs
  | _ => []
def obC : Option Ob → String
  | some (.ins c _) => c
  | _ => ""
def obF : Option Ob → List (String × Val)
  | some (.ins _ fs) => fs
  | _ => []
@[simp] theorem isL_l (xs : List Val) : isL (some (.lst xs)) = true := by simp only [isL]
@[simp] theorem isT_t (xs : List Val) : isT (some (.tup xs)) = true := by simp only [isT]
@[simp] theorem isI_i (c : String) (fs : List (String × Val)) : isI (some (.ins c fs)) = true := by simp only [isI]
@[simp] theorem obL_l (xs : List Val) : obL (some (.lst xs)) = xs := rfl
@[simp] theorem obL_t (xs : List Val) : obL (some (.tup xs)) = xs := rfl
@[simp] theorem obC_i (c : String) (fs : List (String × Val)) : obC (some (.ins c fs)) = c := rfl
@[simp] theorem obF_i (c : String) (fs : List (String × Val)) : obF (some (.ins c fs)) = fs := rfl
theorem isL_eq {o : Option Ob} (h : isL o = true) : o = some (.lst (obL o)) := by
  unfold isL at h
  split at h
  · rfl
  · cases h
theorem isT_eq {o : Option Ob} (h : isT o = true) : o = some (.tup (obL o)) := by
  unfold isT at h
  split at h
  · rfl
  · cases h
theorem isI_eq {o : Option Ob} (h : isI o = true) : o = some (.ins (obC o) (obF o)) := by
  unfold isI at h
  split at h
  · rfl
  · cases h
theorem lst_obL {g : Cfg} {M : Mem} {a : Nat} (h : isL M[a]? = true) : lstOf g M (.ref a) = some (obL M[a]?) := by
  rw [lst_ref (isL_eq h)]
theorem tup_obL {g : Cfg} {M : Mem} {a : Nat} (h : isT M[a]? = true) : lstOf g M (.ref a) = none ∧ tupOf g M (.ref a) = some (obL M[a]?) := by
  obtain ⟨xs, e⟩ : ∃ xs, M[a]? = some (.tup xs) := ⟨_, isT_eq h⟩
  exact ⟨by simp only [lstOf, e], by rw [tup_ref e, e]; rfl⟩
@[simp] theorem n_ix (g : Cfg) (M : Mem) (a : Nat) (i : Int) (h : isL M[a]? = true) : oIx g (.ref a) (.int i) M = R.of (atI (obL M[a]?) i) M := by
  have e := lst_obL (g := g) h
  cases h2 : atI (obL M[a]?) i with
  | none => simp only [oIx, qIx, seqOf, e, h2, u_ofn]
  | some x => rw [w_ix e h2]; rfl
@[simp] theorem n_ixt (g : Cfg) (M : Mem) (a : Nat) (i : Int) (h : isT M[a]? = true) : oIx g (.ref a) (.int i) M = R.of (atI (obL M[a]?) i) M := by
  obtain ⟨e0, e⟩ := tup_obL (g := g) h
  cases h2 : atI (obL M[a]?) i with
  | none => simp only [oIx, qIx, seqOf, e0, e, h2, u_ofn]
  | some x => rw [w_ixt e0 e h2]; rfl
@[simp] theorem n_len (g : Cfg) (M : Mem) (a : Nat) (h : isL M[a]? = true) : bLen g [.ref a] M = .ok (.int (obL M[a]?).length) M := w_len (lst_obL h)
@[simp] theorem n_lent (g : Cfg) (M : Mem) (a : Nat) (h : isT M[a]? = true) : bLen g [.ref a] M = .ok (.int (obL M[a]?).length) M := w_lent (tup_obL h).1 (tup_obL h).2
@[simp] theorem n_seq (g : Cfg) (M : Mem) (a : Nat) (Q : Itb → Mem → Prop) (h : isL M[a]? = true) : PSeqI g Q (.ref a) M = Q (.lst (.ref a) (obL M[a]?).length) M := v_iSeql (lst_obL h) Q
@[simp] theorem n_seqt (g : Cfg) (M : Mem) (a : Nat) (Q : Itb → Mem → Prop) (h : isT M[a]? = true) : PSeqI g Q (.ref a) M = Q (.tup (.ref a) (obL M[a]?).length) M := v_iSeqt (tup_obL h).1 (tup_obL h).2 Q
@[simp] theorem n_yl (g : Cfg) (M : Mem) (a n i : Nat) (h : isL M[a]? = true) : yld g (.lst (.ref a) n) i M = R.of (obL M[a]?)[i]? M := by
  simp only [yld, lst_obL h]
@[simp] theorem n_yt (g : Cfg) (M : Mem) (a n i : Nat) (h : isT M[a]? = true) : yld g (.tup (.ref a) n) i M = R.of (obL M[a]?)[i]? M := by
  simp only [yld, (tup_obL (g := g) h).2]
@[simp] theorem n_fl (g : Cfg) (M : Mem) (a n i : Nat) (h : isL M[a]? = true) : fin g (.lst (.ref a) n) i M = decide ((obL M[a]?).length ≤ i) := by
  simp only [fin, lst_obL h]
@[simp] theorem n_ft (g : Cfg) (M : Mem) (a n i : Nat) (h : isT M[a]? = true) : fin g (.tup (.ref a) n) i M = decide ((obL M[a]?).length ≤ i) := by
  simp only [fin, (tup_obL (g := g) h).2]
@[simp] theorem n_app (M : Mem) (a : Nat) (v : Val) (h : isL M[a]? = true) : mAppend (.ref a) [v] M = if (obL M[a]?).length < 1000000 then .ok .non (M.set a (.lst (obL M[a]? ++ [v]))) else .no := by
  have e := isL_eq h
  simp only [mAppend]
  split
  · rename_i xs hx
    rw [hx]; rfl
  · rename_i hx
    exact absurd e (hx _)
@[simp] theorem n_isl (M : Mem) (a : Nat) (h : isL M[a]? = true) : isTy "list" M (.ref a) = true := w_isl (isL_eq h)
@[simp] theorem n_tru (M : Mem) (a : Nat) (h : isL M[a]? = true) : truOf M (.ref a) = some (!(obL M[a]?).isEmpty) := w_trl (isL_eq h)
@[simp] theorem n_list (g : Cfg) (M : Mem) (a : Nat) (h : isL M[a]? = true) : bList g [.ref a] M = .ok (.ref M.length) (M ++ [.lst (obL M[a]?)]) := w_list (lst_obL h)
@[simp] theorem n_sl (g : Cfg) (M : Mem) (a : Nat) (l h' : Option Int) (h : isL M[a]? = true) : vSl g (.ref a) l h' M = .ok (.ref M.length) (M ++ [.lst (cut (obL M[a]?) l h')]) := w_vSll (lst_obL h) l h'
@[simp] theorem n_tTp (g : Cfg) (is : List Nat) (a : Nat) (L : Loc) (M : Mem) (h : isT M[a]? = true) : tTp g is (.ref a) L M = if (obL M[a]?).length = is.length then .ok (setAll L is (obL M[a]?)) M else .no := by
  simp only [tTp, (tup_obL (g := g) h).2]
@[simp] theorem n_all (g : Cfg) (M : Mem) (a : Nat) (h : isL M[a]? = true) : bAll g [.ref a] M = (match blsOf (obL M[a]?) with | some bs => .ok (.bl (bs.all id)) M | none => .no) := by
  simp only [bAll, lst_obL h, Option.bind_some] <;> rfl
@[simp] theorem n_any (g : Cfg) (M : Mem) (a : Nat) (h : isL M[a]? = true) : bAny g [.ref a] M = (match blsOf (obL M[a]?) with | some bs => .ok (.bl (bs.any id)) M | none => .no) := by
  simp only [bAny, lst_obL h, Option.bind_some] <;> rfl
@[simp] theorem n_sum (g : Cfg) (M : Mem) (a : Nat) (h : isL M[a]? = true) : bSum g [.ref a] M = (match intsOf (obL M[a]?) with | some bs => .ok (.int bs.sum) M | none => .no) := by
  simp only [bSum, lst_obL h, Option.bind_some] <;> rfl
@[simp] theorem n_ty (g : Cfg) (cs : List String) (M : Mem) (a : Nat) (h : isL M[a]? = true) : tyOf g cs M (.ref a) = some "list" := w_tyl (lst_obL h)
@[simp] theorem n_tyt (g : Cfg) (cs : List String) (M : Mem) (a : Nat) (h : isT M[a]? = true) : tyOf g cs M (.ref a) = some "tuple" := by
  obtain ⟨xs, e⟩ : ∃ xs, M[a]? = some (.tup xs) := ⟨_, isT_eq h⟩
  simp only [tyOf, e]
@[simp] theorem n_fld (T : CTab) (f : String) (M : Mem) (a : Nat) (Q : Val → Mem → Prop) (h : isI M[a]? = true) (h2 : hasF T (obC M[a]?) f = true) : PFld T f Q (.ref a) M = Ev (R.of (getf (obF M[a]?) f) M) Q := by
  cases h3 : getf (obF M[a]?) f with
  | none =>
    have e := isI_eq h
    simp only [PFld, fldR]
    rw [e]
    simp only [h2, if_true, h3, u_ofn, ev_no]
  | some v =>
    rw [w_fld (isI_eq h) h2 h3]; simp
@[simp] theorem n_setF (T : CTab) (f : String) (v : Val) (L : Loc) (M : Mem) (a : Nat) (Q : Fl → Mem → Prop) (h : isI M[a]? = true) (h2 : hasF T (obC M[a]?) f = true) (h3 : (obF M[a]?).length < 100) : PFd2 T f v L Q (.ref a) M = Q (.nx L) (M.set a (.ins (obC M[a]?) (putf f v (obF M[a]?)))) := w_fd2 (isI_eq h) h2 h3 Q
@[simp] theorem n_mth (T : MTab) (m : String) (n : Nat) (ds : DA) (L : Loc) (M : Mem) (a : Nat) (Q : Val → Mem → Prop) (h : isI M[a]? = true) (h2 : getf (obF M[a]?) m = none) (h1 : (mfind T (obC M[a]?)).isSome = true) : PMth T m n ds L Q (.ref a) M = Ev (ds L M) (PMth2 n a ((mfind T (obC M[a]?)).getD fun _ _ => .no) Q) := by
  obtain ⟨F, hF⟩ := Option.isSome_iff_exists.mp h1
  rw [w_mth (isI_eq h) hF h2, hF]; rfl
/-- an object's list, stored anew -/
theorem n_setL {M : Mem} {a : Nat} {xs : List Val} {i : Int} {j : Nat} {v : Val} (h : M[a]? = some (.lst xs)) (h2 : ixN xs.length i = some j) : setIx (.ref a) (.int i) v M = .ok () (M.set a (.lst (xs.set j v))) := by
  simp only [setIx, h, h2]
theorem n_setD {M : Mem} {a : Nat} {kvs : List (DKey × Val)} {y : Val} {k : DKey} {v : Val} (h : M[a]? = some (.dk kvs)) (h2 : keyOf y = some k) (h3 : kvs.length < 1000000) : setIx (.ref a) y v M = .ok () (M.set a (.dk (putk kvs k v))) := by
  simp only [setIx, h, h2, h3, if_true]
theorem n_neL {g : Cfg} {M : Mem} {x y : Nat} (h1 : isL M[x]? = true) (h2 : isL M[y]? = true) {is js : List Int} (h3 : intsOf (obL M[x]?) = some is) (h4 : intsOf (obL M[y]?) = some js) : oNe g (.ref x) (.ref y) M = .ok (.bl (!decide (is = js))) M := w_neL (lst_obL h1) (lst_obL h2) h3 h4
theorem n_eqL {g : Cfg} {M : Mem} {x y : Nat} (h1 : isL M[x]? = true) (h2 : isL M[y]? = true) {is js : List Int} (h3 : intsOf (obL M[x]?) = some is) (h4 : intsOf (obL M[y]?) = some js) : oEq g (.ref x) (.ref y) M = .ok (.bl (decide (is = js))) M := w_eqL (lst_obL h1) (lst_obL h2) h3 h4
@[simp] theorem at_lit0 {α : Type} (a : α) (xs : List α) : atI (a :: xs) 0 = some a := at_nat (k := 0) rfl
@[simp] theorem at_lit1 {α : Type} (a b : α) (xs : List α) : atI (a :: b :: xs) 1 = some b := at_nat (k := 1) rfl
@[simp] theorem at_lit2 {α : Type} (a b c : α) (xs : List α) : atI (a :: b :: c :: xs) 2 = some c := at_nat (k := 2) rfl
@[simp] theorem at_lit3 {α : Type} (a b c d : α) (xs : List α) : atI (a :: b :: c :: d :: xs) 3 = some d := at_nat (k := 3) rfl
/-! ### texts in lists; steps of ranges -/
@[simp] theorem strs_nil : strsOf [] = some [] := rfl
@[simp] theorem strs_cons (i : List Nat) (xs : List Val) : strsOf (.str i :: xs) = (strsOf xs).map (i :: ·) := rfl
theorem strs_map {α : Type} (f : α → List Nat) : ∀ xs : List α, strsOf (xs.map fun x => .str (f x)) = some (xs.map f)
  | [] => rfl
  | x :: xs => by
    simp only [List.map_cons, strsOf, strs_map f xs, Option.map_some]
theorem mapO_strs (g : Cfg) (M : Mem) (n : Nat) : ∀ {xs : List Val} {ss : List (List Nat)}, strsOf xs = some ss → (∀ s ∈ ss, ∀ c ∈ s, c < 1114112) → mapO (deep g M n) xs = some (ss.map .str)
  | [], ss, h, _ => by cases h; rfl
  | .str s :: xs, ss, h, hc => by
    simp only [strsOf] at h
    obtain ⟨js, h1, rfl⟩ := Option.map_eq_some_iff.mp h
    have e1 := mapO_strs g M n h1 fun t ht => hc t (List.mem_cons_of_mem _ ht)
    have e2 : s.all (fun c => decide (c < 1114112)) = true := List.all_eq_true.mpr fun c hm => decide_eq_true (hc s (List.mem_cons_self ..) c hm)
    simp only [mapO, deep, e1, e2, if_true, List.map_cons]
  | .non :: _, _, h, _ => by cases h
  | .bl _ :: _, _, h, _ => by cases h
  | .int _ :: _, _, h, _ => by cases h
  | .ref _ :: _, _, h, _ => by cases h
  | .con _ :: _, _, h, _ => by cases h
theorem eqDs_strs : ∀ is js : List (List Nat), eqDs (is.map .str) (js.map .str) = decide (is = js)
  | [], [] => rfl
  | [], _ :: _ => rfl
  | _ :: _, [] => rfl
  | i :: is, j :: js => by
    simp only [List.map_cons, eqDs, eqD, eqDs_strs is js]
    by_cases h : i = j <;> simp [h]
theorem w_eqS {g : Cfg} {M : Mem} {x y : Val} {xs ys : List Val} {is js : List (List Nat)} (h1 : lstOf g M x = some xs) (h2 : lstOf g M y = some ys) (h3 : strsOf xs = some is) (h4 : strsOf ys = some js) (c3 : ∀ s ∈ is, ∀ c ∈ s, c < 1114112) (c4 : ∀ s ∈ js, ∀ c ∈ s, c < 1114112) : oEq g x y M = .ok (.bl (decide (is = js))) M := by
  rw [w_eqd (lst_flat h1) (deep_lst h1 (mapO_strs g M 59 h3 c3)) (deep_lst h2 (mapO_strs g M 59 h4 c4))]
  simp only [eqD, eqDs_strs]
theorem w_neS {g : Cfg} {M : Mem} {x y : Val} {xs ys : List Val} {is js : List (List Nat)} (h1 : lstOf g M x = some xs) (h2 : lstOf g M y = some ys) (h3 : strsOf xs = some is) (h4 : strsOf ys = some js) (c3 : ∀ s ∈ is, ∀ c ∈ s, c < 1114112) (c4 : ∀ s ∈ js, ∀ c ∈ s, c < 1114112) : oNe g x y M = .ok (.bl (!decide (is = js))) M := by
  rw [w_ned (lst_flat h1) (deep_lst h1 (mapO_strs g M 59 h3 c3)) (deep_lst h2 (mapO_strs g M 59 h4 c4))]
  simp only [eqD, eqDs_strs]
theorem w_join {g : Cfg} {M : Mem} {v : Val} {xs : List Val} {ys : List (List Nat)} (a : List Nat) (h : seqOf g M v = some xs) (h2 : strsOf xs = some ys) (h3 : (ys.map (·.length)).sum + ys.length * a.length ≤ 1000000) : mJoin g (.str a) [v] M = .ok (.str (TL.joinL a ys)) M := by
  simp only [mJoin, h, Option.bind_some, h2, h3, if_true]
theorem seq_lst {g : Cfg} {M : Mem} {v : Val} {xs : List Val} (h : lstOf g M v = some xs) : seqOf g M v = some xs := by simp only [seqOf, h]
theorem seq_tup {g : Cfg} {M : Mem} {v : Val} {xs : List Val} (h0 : lstOf g M v = none) (h : tupOf g M v = some xs) : seqOf g M v = some xs := by simp only [seqOf, h0, h]
theorem w_in {g : Cfg} {M : Mem} {v x : Val} {xs : List Val} {neg : Bool} (h : seqOf g M v = some xs) (h2 : flat x = true) (h3 : xs.all flat = true) : oIn g neg x v M = .ok (.bl (if neg then !(xs.any fun z => eqF z x) else xs.any fun z => eqF z x)) M := by
  cases v with
  | str s => cases h
  | _ => simp only [oIn, lIn, h, h2, h3, and_self, if_true]
@[simp] theorem n_in (g : Cfg) (neg : Bool) (x : Val) (M : Mem) (a : Nat) (h : isL M[a]? = true) (h2 : flat x = true) (h3 : (obL M[a]?).all flat = true) : oIn g neg x (.ref a) M = .ok (.bl (if neg then !((obL M[a]?).any fun z => eqF z x) else (obL M[a]?).any fun z => eqF z x)) M := w_in (seq_lst (lst_obL h)) h2 h3
@[simp] theorem n_int (g : Cfg) (neg : Bool) (x : Val) (M : Mem) (a : Nat) (h : isT M[a]? = true) (h2 : flat x = true) (h3 : (obL M[a]?).all flat = true) : oIn g neg x (.ref a) M = .ok (.bl (if neg then !((obL M[a]?).any fun z => eqF z x) else (obL M[a]?).any fun z => eqF z x)) M := w_in (seq_tup (tup_obL h).1 (tup_obL h).2) h2 h3
@[simp] theorem w_ins (g : Cfg) (neg : Bool) (c : Nat) (s : List Nat) (M : Mem) : oIn g neg (.str [c]) (.str s) M = .ok (.bl (if neg then !decide (c ∈ s) else decide (c ∈ s))) M := rfl
@[simp] theorem flat_i (i : Int) : flat (.int i) = true := by simp only [flat]
@[simp] theorem flat_s (i : List Nat) : flat (.str i) = true := by simp only [flat]
@[simp] theorem flat_b (i : Bool) : flat (.bl i) = true := by simp only [flat]
@[simp] theorem flat_n : flat .non = true := by simp only [flat]
@[simp] theorem eqF_ss (a b : List Nat) : eqF (.str a) (.str b) = decide (a = b) := by
  show (a == b) = _
  by_cases h : a = b <;> simp [h]
@[simp] theorem eqF_ii (a b : Int) : eqF (.int a) (.int b) = decide (a = b) := by
  show (a == b) = _
  by_cases h : a = b <;> simp [h]
@[simp] theorem eqF_is (a : Int) (b : List Nat) : eqF (.int a) (.str b) = false := rfl
@[simp] theorem eqF_si (a : Int) (b : List Nat) : eqF (.str b) (.int a) = false := rfl
@[simp] theorem w_neis (g : Cfg) (a : Int) (b : List Nat) (M : Mem) : oNe g (.int a) (.str b) M = .ok (.bl true) M := rfl
@[simp] theorem w_nesi (g : Cfg) (a : Int) (b : List Nat) (M : Mem) : oNe g (.str b) (.int a) M = .ok (.bl true) M := rfl
@[simp] theorem w_nesn (g : Cfg) (b : List Nat) (M : Mem) : oNe g (.str b) .non M = .ok (.bl true) M := rfl
@[simp] theorem w_nein (g : Cfg) (b : Int) (M : Mem) : oNe g (.int b) .non M = .ok (.bl true) M := rfl
def PR3 (Q : Itb → Mem → Prop) : List Val → Mem → Prop := fun vs M => Ev (iR3 (fun _ M => .ok vs M) [] M) Q
@[simp] theorem u_iR3 (d : DA) (L : Loc) (M : Mem) (Q : Itb → Mem → Prop) : Ev (iR3 d L M) Q = Ev (d L M) (PR3 Q) := by
  unfold PR3 iR3
  rw [ev_bind]
  rfl
@[simp] theorem v_iR3 (Q : Itb → Mem → Prop) (i j c : Int) (M : Mem) : PR3 Q [.int i, .int j, .int c] M = ((-1000000 ≤ j ∧ j ≤ 1000000 ∧ -1000000 ≤ i ∧ i ≤ 1000000 ∧ 0 < c ∧ c ≤ 1000) ∧ Q (.rng i c (rcount i j c)) M) := by
  simp only [PR3, iR3, R.bind_ok, ev_guard, ev_ok]
theorem atI_ex {α : Type} {xs : List α} {i : Int} (h0 : 0 ≤ i) (h1 : i < xs.length) : ∃ x, atI xs i = some x ∧ x ∈ xs := by
  have hl : i.toNat < xs.length := by omega
  exact ⟨xs[i.toNat], at_int h0 (List.getElem?_eq_getElem hl), List.getElem_mem hl⟩
theorem cut_len {α : Type} (xs : List α) (lo hi : Option Int) : (cut xs lo hi).length ≤ xs.length := by
  unfold cut
  simp
  omega
theorem comp_tup {g : Cfg} {v : Val} {xs : List Val} {tg : DT} {tt te : D} {vs : List Nat} {L : Loc} {M : Mem} {Q : Val → Mem → Prop} (F : Val → Option Val) (h : tupOf g M v = some xs) (hn : xs.length ≤ 1000000) (hs : ∀ x M', x ∈ xs → Xt M M' → PYl tg tt te (wipeL L vs) (PXt M' (F x)) x M')
    (k : ∀ X, Q (.ref M.length) (M ++ .lst (xs.filterMap F) :: X)) : PCmp g tg tt te vs L Q (.tup v xs.length) M := by
  refine comp_ev (fun j => (xs[j]?).bind F) hn (fun j M' hj x => ?_) (fun M' x => w_ft (x.tup h) (Nat.le_refl _)) fun X => ?_
  · have e : xs[j]? = some xs[j] := List.getElem?_eq_getElem hj
    rw [w_yt (x.tup h) e, ev_ok, e]
    exact hs _ _ (List.getElem_mem hj) x
  · have e : (Itb.tup v xs.length).num = xs.length := rfl
    rw [e, fm_list]
    exact k X
theorem comp_rng3 {g : Cfg} {n : Nat} {lo c : Int} {tg : DT} {tt te : D} {vs : List Nat} {L : Loc} {M : Mem} {Q : Val → Mem → Prop} (F : Nat → Option Val) (hn : n ≤ 1000000) (hs : ∀ j M', j < n → Xt M M' → PYl tg tt te (wipeL L vs) (PXt M' (F j)) (.int (lo + j * c)) M')
    (k : ∀ X, Q (.ref M.length) (M ++ .lst ((List.range n).filterMap F) :: X)) : PCmp g tg tt te vs L Q (.rng lo c n) M :=
  comp_ev F hn (fun j M' h x => by
    simp only [w_yr, ev_ok]
    exact hs j M' h x) (fun M' _ => by simp [Itb.num]) k
end Pa

namespace Q11
open PySem PySem.Spec
open PyProof.Rows L2 Pa
abbrev FUEL : Nat := 1000000000000000000
def top (i : Nat) : Stmt := PySem.Challenge.pw_hushrow_k11_values.main.body.getD i (.Pass ⟨0, 0, 0, 0⟩)
def inClass (st : Stmt) (j : Nat) : Stmt := match st with
  | .ClassDef _ _ _ b .. => b.getD j (.Pass ⟨0, 0, 0, 0⟩)
  | _ => .Pass ⟨0, 0, 0, 0⟩
def tabF : CTab := []
def tabI : List (String × String × Bool) := [("NoneType", "bool", false), ("NoneType", "int", false), ("NoneType", "list", false), ("NoneType", "str", false), ("NoneType", "tuple", false), ("bool", "bool", true), ("bool", "int", true), ("bool", "list", false), ("bool", "str", false), ("bool", "tuple", false), ("int", "bool", false), ("int", "int", true), ("int", "list", false), ("int", "str", false), ("int", "tuple", false), ("str", "bool", false), ("str", "int", false), ("str", "list", false), ("str", "str", true), ("str", "tuple", false), ("list", "bool", false), ("list", "int", false), ("list", "list", true), ("list", "str", false), ("list", "tuple", false), ("tuple", "bool", false), ("tuple", "int", false), ("tuple", "list", false), ("tuple", "str", false), ("tuple", "tuple", true), ("dict", "bool", false), ("dict", "int", false), ("dict", "list", false), ("dict", "str", false), ("dict", "tuple", false)]
def tabC : List String := []
def d_made_of (g : Cfg) (c : Nat → Fn) : Ds :=
  xSeq (xFor g (iSeq g (dV 0)) (tNm 2) (xIf (dB (oIn g true) (dV 2) (dV 1)) (xRet (dC (.bl false))) (xSkip)))
      (xRet (dC (.bl true)))
def d_is_name (g : Cfg) (c : Nat → Fn) : Ds :=
  xRet (dAnd (dCh cLe cLe (dC (.int 1)) (dF (bLen g) (aCons (dV 0) (aNil))) (dC (.int 8))) (dArg 2 [] (c 0) (aCons (dV 0) (aCons (dC (.str [97, 98, 99, 100, 101, 102, 103, 104, 105, 106, 107, 108, 109, 110, 111, 112, 113, 114, 115, 116, 117, 118, 119, 120, 121, 122])) (aNil)))))
def d_number_of (g : Cfg) (c : Nat → Fn) : Ds :=
  xSeq (xIf (dOr (dNot (dCh cLe cLe (dC (.int 1)) (dF (bLen g) (aCons (dV 0) (aNil))) (dC (.int 12)))) (dNot (dTru (dArg 2 [] (c 0) (aCons (dV 0) (aCons (dC (.str [48, 49, 50, 51, 52, 53, 54, 55, 56, 57])) (aNil))))))) (xRet (dC .non)) (xSkip))
      (xSeq (xIf (dAnd (dB (oEq g) (dB (oIx g) (dV 0) (dC (.int 0))) (dC (.str [48]))) (dB cGt (dF (bLen g) (aCons (dV 0) (aNil))) (dC (.int 1)))) (xRet (dC .non)) (xSkip))
      (xRet (dF bInt (aCons (dV 0) (aNil)))))
def d_thing_of (g : Cfg) (c : Nat → Fn) : Ds :=
  xSeq (xSet 1 (dArg 1 [] (c 2) (aCons (dV 0) (aNil))))
      (xSeq (xIf (dB (oIs true) (dV 1) (dC .non)) (xRet (dV 1)) (xSkip))
      (xSeq (xIf (dTru (dArg 1 [] (c 1) (aCons (dV 0) (aNil)))) (xRet (dV 0)) (xSkip))
      (xRet (dC .non))))
def d_value_of (g : Cfg) (c : Nat → Fn) : Ds :=
  xSeq (xIf (dB (oEq g) (dF (bLen g) (aCons (dV 0) (aNil))) (dC (.int 1))) (xSeq (xSet 1 (dArg 1 [] (c 3) (aCons (dB (oIx g) (dV 0) (dC (.int 0))) (aNil))))
      (xSeq (xIf (dB (oIs false) (dV 1) (dC .non)) (xRet (dC .non)) (xSkip))
      (xRet (dTup (aCons (dV 1) (aNil)))))) (xSkip))
      (xSeq (xIf (dB (oNe g) (dF (bLen g) (aCons (dV 0) (aNil))) (dC (.int 3))) (xRet (dC .non)) (xSkip))
      (xSeq (xSet 2 (dArg 1 [] (c 3) (aCons (dB (oIx g) (dV 0) (dC (.int 0))) (aNil))))
      (xSeq (xSet 3 (dArg 1 [] (c 3) (aCons (dB (oIx g) (dV 0) (dC (.int 2))) (aNil))))
      (xSeq (xIf (dOr (dB (oIs false) (dV 2) (dC .non)) (dB (oIs false) (dV 3) (dC .non))) (xRet (dC .non)) (xSkip))
      (xSeq (xIf (dB (oIn g false) (dB (oIx g) (dV 0) (dC (.int 1))) (dC (.con 1))) (xRet (dTup (aCons (dV 2) (aCons (dB (oIx g) (dV 0) (dC (.int 1))) (aCons (dV 3) (aNil)))))) (xSkip))
      (xSeq (xIf (dAnd (dB (oEq g) (dB (oIx g) (dV 0) (dC (.int 1))) (dC (.str [97, 116]))) (dTru (dArg 1 [] (c 1) (aCons (dB (oIx g) (dV 0) (dC (.int 0))) (aNil))))) (xRet (dTup (aCons (dV 2) (aCons (dC (.str [97, 116])) (aCons (dV 3) (aNil)))))) (xSkip))
      (xRet (dC .non))))))))
def d_value_shown (g : Cfg) (c : Nat → Fn) : Ds :=
  xRet (dM "str" (mJoin g) (dC (.str [32])) (aCons (dComp g (iSeq g (dV 0)) (tNm 1) (cYes) (dF bStr (aCons (dV 1) (aNil))) [1]) (aNil)))
def d_names_in (g : Cfg) (c : Nat → Fn) : Ds :=
  xSeq (xSet 1 (dLst (aNil)))
      (xSeq (xFor g (iR3 (aCons (dC (.int 0)) (aCons (dF (bLen g) (aCons (dV 0) (aNil))) (aCons (dC (.int 2)) (aNil))))) (tNm 2) (xIf (dAnd (dIsi g tabI tabC (dB (oIx g) (dV 0) (dV 2)) "str") (dB (oIn g true) (dB (oIx g) (dV 0) (dV 2)) (dV 1))) (xExpr (dM "list" mAppend (dV 1) (aCons (dB (oIx g) (dV 0) (dV 2)) (aNil)))) (xSkip)))
      (xRet (dV 1)))
def d__law_cell_at (g : Cfg) (c : Nat → Fn) : Ds :=
  xSeq (xIf (dB cLt (dV 1) (dF (bLen g) (aCons (dV 0) (aNil)))) (xRet (dB (oIx g) (dV 0) (dV 1))) (xSkip))
      (xSeq (xSet 2 (dC (.int 0)))
      (xSeq (xIf (dB (oNe g) (dV 0) (dLst (aNil))) (xSet 2 (dB (oIx g) (dV 0) (dB oMod (dV 1) (dF (bLen g) (aCons (dV 0) (aNil)))))) (xSkip))
      (xRet (dB oMod (dB iMul (dB oAdd (dB oAdd (dB oMod (dV 2) (dC (.int 1000003))) (dB iMul (dC (.int 104729)) (dV 1))) (dC (.int 13))) (dC (.int 48271))) (dC (.int 2147483647))))))
def d__law_mix (g : Cfg) (c : Nat → Fn) : Ds :=
  xSeq (xIf (dAnd (dB (oEq g) (dB oMod (dV 0) (dC (.int 2))) (dC (.int 1))) (dB cGt (dV 0) (dB oPow (dC (.int 10)) (dC (.int 12))))) (xSeq (xSet 2 (dB oDiv (dV 0) (dC (.int 2))))
      (xSeq (xFor g (iR1 (aCons (dV 1) (aNil))) (tNm 3) (xSet 2 (dB oDiv (dV 2) (dB oPow (dC (.int 10)) (dC (.int 15))))))
      (xIf (dB cGt (dV 2) (dC (.int 0))) (xRet (dB oMod (dV 2) (dB oPow (dC (.int 10)) (dC (.int 15))))) (xSkip)))) (xSkip))
      (xSeq (xSet 4 (dB oMod (dB iMul (dB oAdd (dB oMod (dV 0) (dC (.int 1000003))) (dC (.int 17))) (dB oAdd (dB iMul (dV 1) (dV 1)) (dC (.int 7919)))) (dC (.int 2147483647))))
      (xRet (dB oMod (dB iMul (dV 4) (dB oAdd (dB oMod (dV 4) (dC (.int 65521))) (dC (.int 48271)))) (dC (.int 2147483647)))))
def d__law_name (g : Cfg) (c : Nat → Fn) : Ds :=
  xSeq (xSet 1 (dLst (aCons (dC (.str [97, 116])) (aCons (dC (.str [111, 118, 101, 114])) (aCons (dC (.str [114, 101, 115, 116])) (aCons (dC (.str [115, 101, 116])) (aCons (dC (.str [98, 121])) (aCons (dC (.str [105, 100, 108, 101])) (aCons (dC (.str [109, 97, 105, 110])) (aCons (dC (.str [101, 110, 100])) (aNil)))))))))))
      (xSeq (xIf (dB (oEq g) (dB oMod (dV 0) (dC (.int 4))) (dC (.int 1))) (xRet (dB (oIx g) (dV 1) (dB oMod (dB oDiv (dV 0) (dC (.int 4))) (dC (.int 8))))) (xSkip))
      (xSeq (xSet 2 (dC (.str [97, 98, 99, 100, 101, 102, 103, 104, 105, 106, 107, 108, 109, 110, 111, 112, 113, 114, 115, 116, 117, 118, 119, 120, 121, 122])))
      (xSeq (xSet 3 (dC (.str [])))
      (xSeq (xSet 4 (dB oMod (dB iMul (dB oDiv (dV 0) (dC (.int 64))) (dC (.int 48271))) (dB oPow (dC (.int 26)) (dC (.int 8)))))
      (xSeq (xFor g (iR1 (aCons (dB oAdd (dC (.int 1)) (dB oMod (dB oDiv (dV 0) (dC (.int 4))) (dC (.int 8)))) (aNil))) (tNm 5) (xSeq (xSet 3 (dB oAdd (dV 3) (dB (oIx g) (dV 2) (dB oMod (dV 4) (dB (oIx g) (dLst (aCons (dC (.int 26)) (aCons (dC (.int 2)) (aNil)))) (dB oMod (dB oDiv (dV 0) (dC (.int 32))) (dC (.int 2))))))))
      (xSet 4 (dB oDiv (dV 4) (dB (oIx g) (dLst (aCons (dC (.int 26)) (aCons (dC (.int 2)) (aNil)))) (dB oMod (dB oDiv (dV 0) (dC (.int 32))) (dC (.int 2))))))))
      (xRet (dV 3)))))))
def d__law_thing (g : Cfg) (c : Nat → Fn) : Ds :=
  xSeq (xIf (dB (oEq g) (dB oMod (dV 0) (dC (.int 12))) (dC (.int 0))) (xRet (dB (oIx g) (dLst (aCons (dC (.str [])) (aCons (dC (.str [65])) (aCons (dC (.str [48, 49])) (aCons (dC (.str [49, 48, 48, 48, 48, 48, 48, 48, 48, 48, 48, 48, 48])) (aCons (dC (.str [97, 98, 99, 100, 101, 102, 103, 104, 105])) (aCons (dC (.str [45, 49])) (aCons (dC (.str [97, 49])) (aCons (dC (.str [43])) (aNil)))))))))) (dB oMod (dB oDiv (dV 0) (dC (.int 12))) (dC (.int 8))))) (xSkip))
      (xSeq (xIf (dB (oEq g) (dB oMod (dV 0) (dC (.int 3))) (dC (.int 1))) (xRet (dF bStr (aCons (dB oMod (dB iMul (dB oDiv (dV 0) (dC (.int 12))) (dC (.int 48271))) (dB (oIx g) (dLst (aCons (dB oPow (dC (.int 10)) (dC (.int 12))) (aCons (dC (.int 12)) (aNil)))) (dB oMod (dB oDiv (dV 0) (dC (.int 12))) (dC (.int 2))))) (aNil)))) (xSkip))
      (xRet (dArg 1 [] (c 9) (aCons (dB oDiv (dV 0) (dC (.int 12))) (aNil)))))
def d__law_words (g : Cfg) (c : Nat → Fn) : Ds :=
  xSeq (xSet 1 (dB oMod (dArg 2 [] (c 8) (aCons (dV 0) (aCons (dC (.int 1)) (aNil)))) (dC (.int 12))))
      (xSeq (xSet 2 (dArg 1 [] (c 10) (aCons (dArg 2 [] (c 8) (aCons (dV 0) (aCons (dC (.int 2)) (aNil)))) (aNil))))
      (xSeq (xSet 3 (dArg 1 [] (c 10) (aCons (dArg 2 [] (c 8) (aCons (dV 0) (aCons (dC (.int 3)) (aNil)))) (aNil))))
      (xSeq (xIf (dB (oEq g) (dB oMod (dArg 2 [] (c 8) (aCons (dV 0) (aCons (dC (.int 4)) (aNil)))) (dC (.int 4))) (dC (.int 0))) (xSet 3 (dV 2)) (xSkip))
      (xSeq (xIf (dB cLt (dV 1) (dC (.int 2))) (xRet (dLst (aCons (dV 2) (aNil)))) (xSkip))
      (xSeq (xIf (dB cLt (dV 1) (dC (.int 8))) (xRet (dLst (aCons (dV 2) (aCons (dB (oIx g) (dLst (aCons (dC (.str [43])) (aCons (dC (.str [45])) (aCons (dC (.str [42])) (aCons (dC (.str [111, 118, 101, 114])) (aCons (dC (.str [114, 101, 115, 116])) (aCons (dC (.str [60])) (aCons (dC (.str [61])) (aNil))))))))) (dB oMod (dArg 2 [] (c 8) (aCons (dV 0) (aCons (dC (.int 5)) (aNil)))) (dC (.int 7)))) (aCons (dV 3) (aNil)))))) (xSkip))
      (xSeq (xIf (dB cLt (dV 1) (dC (.int 10))) (xRet (dLst (aCons (dV 2) (aCons (dC (.str [97, 116])) (aCons (dV 3) (aNil)))))) (xSkip))
      (xSeq (xIf (dB (oEq g) (dV 1) (dC (.int 10))) (xRet (dLst (aCons (dV 2) (aCons (dB (oIx g) (dLst (aCons (dC (.str [62])) (aCons (dC (.str [])) (aCons (dC (.str [98, 121])) (aCons (dC (.str [65, 84])) (aCons (dC (.str [97, 110, 100])) (aCons (dC (.str [43, 43])) (aCons (dC (.str [48])) (aCons (dC (.str [97])) (aNil)))))))))) (dB oMod (dArg 2 [] (c 8) (aCons (dV 0) (aCons (dC (.int 5)) (aNil)))) (dC (.int 8)))) (aCons (dV 3) (aNil)))))) (xSkip))
      (xRet (dB (oIx g) (dLst (aCons (dLst (aNil)) (aCons (dLst (aCons (dV 2) (aCons (dC (.str [43])) (aNil)))) (aCons (dLst (aCons (dV 2) (aCons (dC (.str [43])) (aCons (dV 3) (aCons (dC (.str [43])) (aNil)))))) (aCons (dLst (aCons (dV 2) (aCons (dV 3) (aNil)))) (aNil)))))) (dB oMod (dArg 2 [] (c 8) (aCons (dV 0) (aCons (dC (.int 5)) (aNil)))) (dC (.int 4))))))))))))
def d__law_named (g : Cfg) (c : Nat → Fn) : Ds :=
  xSeq (xIf (dOr (dB cLt (dF (bLen g) (aCons (dV 0) (aNil))) (dC (.int 1))) (dB cGt (dF (bLen g) (aCons (dV 0) (aNil))) (dC (.int 8)))) (xRet (dC (.bl false))) (xSkip))
      (xRet (dF (bAll g) (aCons (dComp g (iSeq g (dV 0)) (tNm 1) (cYes) (dB (oIn g false) (dV 1) (dC (.str [97, 98, 99, 100, 101, 102, 103, 104, 105, 106, 107, 108, 109, 110, 111, 112, 113, 114, 115, 116, 117, 118, 119, 120, 121, 122]))) [1]) (aNil))))
def d__law_read (g : Cfg) (c : Nat → Fn) : Ds :=
  xSeq (xIf (dAnd (dB cGe (dF (bLen g) (aCons (dV 0) (aNil))) (dC (.int 1))) (dAnd (dB cLe (dF (bLen g) (aCons (dV 0) (aNil))) (dC (.int 12))) (dF (bAll g) (aCons (dComp g (iSeq g (dV 0)) (tNm 1) (cYes) (dB (oIn g false) (dV 1) (dC (.str [48, 49, 50, 51, 52, 53, 54, 55, 56, 57]))) [1]) (aNil))))) (xIf (dOr (dB (oNe g) (dB (oIx g) (dV 0) (dC (.int 0))) (dC (.str [48]))) (dB (oEq g) (dF (bLen g) (aCons (dV 0) (aNil))) (dC (.int 1)))) (xRet (dF bInt (aCons (dV 0) (aNil)))) (xSkip)) (xSkip))
      (xSeq (xIf (dTru (dArg 1 [] (c 12) (aCons (dV 0) (aNil)))) (xRet (dV 0)) (xSkip))
      (xRet (dC .non)))
def d__law_due (g : Cfg) (c : Nat → Fn) : Ds :=
  xSeq (xIf (dB (oIn g true) (dF (bLen g) (aCons (dV 0) (aNil))) (dTup (aCons (dC (.int 1)) (aCons (dC (.int 3)) (aNil))))) (xRet (dC .non)) (xSkip))
      (xSeq (xSet 1 (dComp g (iR3 (aCons (dC (.int 0)) (aCons (dF (bLen g) (aCons (dV 0) (aNil))) (aCons (dC (.int 2)) (aNil))))) (tNm 2) (cYes) (dArg 1 [] (c 13) (aCons (dB (oIx g) (dV 0) (dV 2)) (aNil))) [2]))
      (xSeq (xIf (dF (bAny g) (aCons (dComp g (iSeq g (dV 1)) (tNm 3) (cYes) (dB (oIs false) (dV 3) (dC .non)) [3]) (aNil))) (xRet (dC .non)) (xSkip))
      (xSeq (xIf (dB (oEq g) (dF (bLen g) (aCons (dV 0) (aNil))) (dC (.int 1))) (xRet (dTup (aCons (dB (oIx g) (dV 1) (dC (.int 0))) (aNil)))) (xSkip))
      (xSeq (xIf (dAnd (dB (oEq g) (dB (oIx g) (dV 0) (dC (.int 1))) (dC (.str [97, 116]))) (dNot (dTru (dArg 1 [] (c 12) (aCons (dB (oIx g) (dV 0) (dC (.int 0))) (aNil)))))) (xRet (dC .non)) (xSkip))
      (xSeq (xIf (dB (oIn g true) (dB (oIx g) (dV 0) (dC (.int 1))) (dTup (aCons (dC (.str [43])) (aCons (dC (.str [45])) (aCons (dC (.str [42])) (aCons (dC (.str [111, 118, 101, 114])) (aCons (dC (.str [114, 101, 115, 116])) (aCons (dC (.str [60])) (aCons (dC (.str [61])) (aCons (dC (.str [97, 116])) (aNil))))))))))) (xRet (dC .non)) (xSkip))
      (xRet (dTup (aCons (dB (oIx g) (dV 1) (dC (.int 0))) (aCons (dB (oIx g) (dV 0) (dC (.int 1))) (aCons (dB (oIx g) (dV 1) (dC (.int 1))) (aNil)))))))))))
def d__law_alike (g : Cfg) (c : Nat → Fn) : Ds :=
  xSeq (xIf (dOr (dNot (dIsi g tabI tabC (dV 0) "tuple")) (dB (oNe g) (dF (bLen g) (aCons (dV 0) (aNil))) (dF (bLen g) (aCons (dV 1) (aNil))))) (xRet (dC (.bl false))) (xSkip))
      (xSeq (xFor g (iR1 (aCons (dF (bLen g) (aCons (dV 1) (aNil))) (aNil))) (tNm 2) (xSeq (xIf (dB (oNe g) (dIsi g tabI tabC (dB (oIx g) (dV 1) (dV 2)) "str") (dIsi g tabI tabC (dB (oIx g) (dV 0) (dV 2)) "str")) (xRet (dC (.bl false))) (xSkip))
      (xIf (dOr (dNot (dIsiT g tabI tabC (dB (oIx g) (dV 0) (dV 2)) ["int", "str"])) (dOr (dIsi g tabI tabC (dB (oIx g) (dV 0) (dV 2)) "bool") (dB (oNe g) (dB (oIx g) (dV 0) (dV 2)) (dB (oIx g) (dV 1) (dV 2))))) (xRet (dC (.bl false))) (xSkip))))
      (xRet (dC (.bl true))))
def d__law_holds (g : Cfg) (c : Nat → Fn) : Ds :=
  xSeq (xSet 1 (dArg 1 [] (c 14) (aCons (dV 0) (aNil))))
      (xSeq (xSet 2 (dF (bList g) (aCons (dV 0) (aNil))))
      (xSeq (xSet 3 (dArg 1 [] (c 4) (aCons (dV 2) (aNil))))
      (xSeq (xIf (dB (oNe g) (dV 2) (dV 0)) (xRet (dC (.bl false))) (xSkip))
      (xSeq (xIf (dB (oIs false) (dV 1) (dC .non)) (xRet (dB (oIs false) (dV 3) (dC .non))) (xSkip))
      (xSeq (xIf (dNot (dTru (dArg 2 [] (c 15) (aCons (dV 3) (aCons (dV 1) (aNil)))))) (xRet (dC (.bl false))) (xSkip))
      (xSeq (xSet 4 (dArg 1 [] (c 5) (aCons (dV 1) (aNil))))
      (xSeq (xIf (dOr (dNot (dIsi g tabI tabC (dV 4) "str")) (dB (oNe g) (dV 4) (dM "str" (mJoin g) (dC (.str [32])) (aCons (dV 0) (aNil))))) (xRet (dC (.bl false))) (xSkip))
      (xSeq (xSet 5 (dLst (aNil)))
      (xSeq (xFor g (iR3 (aCons (dC (.int 0)) (aCons (dF (bLen g) (aCons (dV 1) (aNil))) (aCons (dC (.int 2)) (aNil))))) (tNm 6) (xIf (dAnd (dIsi g tabI tabC (dB (oIx g) (dV 1) (dV 6)) "str") (dB (oIn g true) (dB (oIx g) (dV 1) (dV 6)) (dV 5))) (xExpr (dM "list" mAppend (dV 5) (aCons (dB (oIx g) (dV 1) (dV 6)) (aNil)))) (xSkip)))
      (xSeq (xSet 7 (dArg 1 [] (c 6) (aCons (dV 1) (aNil))))
      (xSeq (xIf (dOr (dNot (dIsi g tabI tabC (dV 7) "list")) (dB (oNe g) (dV 7) (dV 5))) (xRet (dC (.bl false))) (xSkip))
      (xSeq (xExpr (dM "list" mAppend (dV 7) (aCons (dC (.str [109, 111, 114, 101])) (aNil))))
      (xRet (dB (oEq g) (dArg 1 [] (c 6) (aCons (dV 1) (aNil))) (dV 5)))))))))))))))
def d_law (g : Cfg) (c : Nat → Fn) : Ds :=
  xSeq (xFor g (iSeq g (dB oAdd (dLst (aCons (dC (.int 3)) (aNil))) (dComp g (iR1 (aCons (dF bMax (aCons (dC (.int 9)) (aCons (dF bMin (aCons (dC (.int 30)) (aCons (dF (bLen g) (aCons (dV 0) (aNil))) (aNil)))) (aNil)))) (aNil))) (tNm 2) (cYes) (dArg 2 [] (c 7) (aCons (dV 0) (aCons (dV 2) (aNil)))) [2]))) (tNm 1) (xIf (dNot (dTru (dArg 1 [] (c 16) (aCons (dArg 1 [] (c 11) (aCons (dV 1) (aNil))) (aNil))))) (xRet (dC (.bl false))) (xSkip)))
      (xRet (dC (.bl true)))
def fd_made_of : FD := ⟨("made_of", none), "made_of", "made_of", (top 4), ["word", "signs"], ["word", "signs", "sign"], d_made_of⟩
def fd_is_name : FD := ⟨("is_name", none), "is_name", "is_name", (top 5), ["word"], ["word"], d_is_name⟩
def fd_number_of : FD := ⟨("number_of", none), "number_of", "number_of", (top 6), ["word"], ["word"], d_number_of⟩
def fd_thing_of : FD := ⟨("thing_of", none), "thing_of", "thing_of", (top 7), ["word"], ["word", "found"], d_thing_of⟩
def fd_value_of : FD := ⟨("value_of", none), "value_of", "value_of", (top 8), ["words"], ["words", "thing", "one", "other"], d_value_of⟩
def fd_value_shown : FD := ⟨("value_shown", none), "value_shown", "value_shown", (top 9), ["value"], ["value", "part"], d_value_shown⟩
def fd_names_in : FD := ⟨("names_in", none), "names_in", "names_in", (top 10), ["value"], ["value", "found", "k"], d_names_in⟩
def fd__law_cell_at : FD := ⟨("_law_cell_at", none), "_law_cell_at", "_law_cell_at", (top 12), ["_law_script", "_law_k"], ["_law_script", "_law_k", "_law_cell"], d__law_cell_at⟩
def fd__law_mix : FD := ⟨("_law_mix", none), "_law_mix", "_law_mix", (top 13), ["_law_cell", "_law_k"], ["_law_cell", "_law_k", "_law_digits", "_law_ahead", "_law_number"], d__law_mix⟩
def fd__law_name : FD := ⟨("_law_name", none), "_law_name", "_law_name", (top 14), ["_law_number"], ["_law_number", "_law_own", "_law_letters", "_law_word", "_law_rest", "_law_k"], d__law_name⟩
def fd__law_thing : FD := ⟨("_law_thing", none), "_law_thing", "_law_thing", (top 15), ["_law_number"], ["_law_number"], d__law_thing⟩
def fd__law_words : FD := ⟨("_law_words", none), "_law_words", "_law_words", (top 16), ["_law_cell"], ["_law_cell", "_law_way", "_law_one", "_law_other"], d__law_words⟩
def fd__law_named : FD := ⟨("_law_named", none), "_law_named", "_law_named", (top 17), ["_law_word"], ["_law_word", "_law_sign"], d__law_named⟩
def fd__law_read : FD := ⟨("_law_read", none), "_law_read", "_law_read", (top 18), ["_law_word"], ["_law_word", "_law_sign"], d__law_read⟩
def fd__law_due : FD := ⟨("_law_due", none), "_law_due", "_law_due", (top 19), ["_law_words_here"], ["_law_words_here", "_law_some", "_law_k", "_law_thing_here"], d__law_due⟩
def fd__law_alike : FD := ⟨("_law_alike", none), "_law_alike", "_law_alike", (top 20), ["_law_found", "_law_due_here"], ["_law_found", "_law_due_here", "_law_k"], d__law_alike⟩
def fd__law_holds : FD := ⟨("_law_holds", none), "_law_holds", "_law_holds", (top 21), ["_law_words_here"], ["_law_words_here", "_law_due_here", "_law_handed", "_law_found", "_law_shown", "_law_names", "_law_k", "_law_told"], d__law_holds⟩
def fd_law : FD := ⟨("law", none), "law", "law", (top 22), ["_law_script"], ["_law_script", "_law_cell", "_law_k"], d_law⟩
def lw : Lw where
  fds := [fd_made_of, fd_is_name, fd_number_of, fd_thing_of, fd_value_of, fd_value_shown, fd_names_in, fd__law_cell_at, fd__law_mix, fd__law_name, fd__law_thing, fd__law_words, fd__law_named, fd__law_read, fd__law_due, fd__law_alike, fd__law_holds, fd_law]
  T := tabF
  I := tabI
  cs := tabC
  frees := ["len", "int", "str", "range", "isinstance", "all", "any", "tuple", "bool", "list", "min", "max"]
  clss := []
  cons := [("LETTERS", (.str [97, 98, 99, 100, 101, 102, 103, 104, 105, 106, 107, 108, 109, 110, 111, 112, 113, 114, 115, 116, 117, 118, 119, 120, 121, 122])), ("FIGURES", (.str [48, 49, 50, 51, 52, 53, 54, 55, 56, 57]))]
  tups := [(1, "BETWEEN", [(.str [43]), (.str [45]), (.str [42]), (.str [111, 118, 101, 114]), (.str [114, 101, 115, 116]), (.str [60]), (.str [61])])]
  makers := []
  meths := []
  cfns := []
theorem ok_made_of : FDok lw fd_made_of := ⟨⟨rfl, rfl, rfl, by decide +kernel, rfl, by decide +kernel, by decide +kernel⟩, fun _ _ _ _ _ _ us hl => (match us, hl with | [_, _], _ => rfl), fun {g P w K mg base f cdv A outer s H E n} V => by
  show SSs g _ (defBody (top 4)) (d_made_of g (cal g lw.fds n))
  unfold d_made_of
  exact sss_cons (ss_for PassesOwn.never V.G (si_seq V.G (se_v (i := 0))) (stg_nm V.G (i := 2)) (sss_one (ss_if (st_nin V.G (se_v (i := 2)) (se_v (i := 1))) (sss_one (ss_ret (se_bl))) (sss_nil))))
      (sss_one (ss_ret (se_bl)))⟩
theorem ok_is_name : FDok lw fd_is_name := ⟨⟨rfl, rfl, rfl, by decide +kernel, rfl, by decide +kernel, by decide +kernel⟩, fun _ _ _ _ _ _ us hl => (match us, hl with | [_], _ => rfl), fun {g P w K mg base f cdv A outer s H E n} V => by
  show SSs g _ (defBody (top 5)) (d_is_name g (cal g lw.fds n))
  unfold d_is_name
  exact sss_one (ss_ret (se_and (se_ch op_le op_le oCmp_s oCmp_s (se_int) (se_len V.G (V.free 0) (sa_cons (se_v (i := 0)) (sa_nil))) (se_int)) (se_one (se_call (V.callee (i := 0) (d := fd_made_of) rfl) V.r0 (V.glo (i := 0) (d := fd_made_of) rfl rfl) (sa_cons (se_v (i := 0)) (sa_cons (se_g (V.gc 0)) (sa_nil)))))))⟩
theorem ok_number_of : FDok lw fd_number_of := ⟨⟨rfl, rfl, rfl, by decide +kernel, rfl, by decide +kernel, by decide +kernel⟩, fun _ _ _ _ _ _ us hl => (match us, hl with | [_], _ => rfl), fun {g P w K mg base f cdv A outer s H E n} V => by
  show SSs g _ (defBody (top 6)) (d_number_of g (cal g lw.fds n))
  unfold d_number_of
  exact sss_cons (ss_if (st_w (sw_or (st_not (st_ch op_le op_le oCmp_s oCmp_s (se_int) (se_len V.G (V.free 0) (sa_cons (se_v (i := 0)) (sa_nil))) (se_int))) (sw_or1 (st_not (st_tru (se_call (V.callee (i := 0) (d := fd_made_of) rfl) V.r0 (V.glo (i := 0) (d := fd_made_of) rfl rfl) (sa_cons (se_v (i := 0)) (sa_cons (se_g (V.gc 1)) (sa_nil))))))))) (sss_one (ss_ret (se_non))) (sss_nil))
      (sss_cons (ss_if (st_w (sw_and (st_eq V.G (se_ix V.G (se_v (i := 0)) (se_int)) (se_str (s := [48]) (by rfl))) (sw_and1 (st_gt (se_len V.G (V.free 0) (sa_cons (se_v (i := 0)) (sa_nil))) (se_int))))) (sss_one (ss_ret (se_non))) (sss_nil))
      (sss_one (ss_ret (se_intc (V.free 1) (sa_cons (se_v (i := 0)) (sa_nil))))))⟩
theorem ok_thing_of : FDok lw fd_thing_of := ⟨⟨rfl, rfl, rfl, by decide +kernel, rfl, by decide +kernel, by decide +kernel⟩, fun _ _ _ _ _ _ us hl => (match us, hl with | [_], _ => rfl), fun {g P w K mg base f cdv A outer s H E n} V => by
  show SSs g _ (defBody (top 7)) (d_thing_of g (cal g lw.fds n))
  unfold d_thing_of
  exact sss_cons (ss_set V.G (i := 1) (se_call (V.callee (i := 2) (d := fd_number_of) rfl) V.r0 (V.glo (i := 2) (d := fd_number_of) rfl rfl) (sa_cons (se_v (i := 0)) (sa_nil))))
      (sss_cons (ss_if (st_isn (se_v (i := 1)) (se_non)) (sss_one (ss_ret (se_v (i := 1)))) (sss_nil))
      (sss_cons (ss_if (st_tru (se_call (V.callee (i := 1) (d := fd_is_name) rfl) V.r0 (V.glo (i := 1) (d := fd_is_name) rfl rfl) (sa_cons (se_v (i := 0)) (sa_nil)))) (sss_one (ss_ret (se_v (i := 0)))) (sss_nil))
      (sss_one (ss_ret (se_non)))))⟩
theorem ok_value_of : FDok lw fd_value_of := ⟨⟨rfl, rfl, rfl, by decide +kernel, rfl, by decide +kernel, by decide +kernel⟩, fun _ _ _ _ _ _ us hl => (match us, hl with | [_], _ => rfl), fun {g P w K mg base f cdv A outer s H E n} V => by
  show SSs g _ (defBody (top 8)) (d_value_of g (cal g lw.fds n))
  unfold d_value_of
  exact sss_cons (ss_if (st_eq V.G (se_len V.G (V.free 0) (sa_cons (se_v (i := 0)) (sa_nil))) (se_int)) (sss_cons (ss_set V.G (i := 1) (se_call (V.callee (i := 3) (d := fd_thing_of) rfl) V.r0 (V.glo (i := 3) (d := fd_thing_of) rfl rfl) (sa_cons (se_ix V.G (se_v (i := 0)) (se_int)) (sa_nil))))
      (sss_cons (ss_if (st_is (se_v (i := 1)) (se_non)) (sss_one (ss_ret (se_non))) (sss_nil))
      (sss_one (ss_ret (se_tup (sa_cons (se_v (i := 1)) (sa_nil))))))) (sss_nil))
      (sss_cons (ss_if (st_ne V.G (se_len V.G (V.free 0) (sa_cons (se_v (i := 0)) (sa_nil))) (se_int)) (sss_one (ss_ret (se_non))) (sss_nil))
      (sss_cons (ss_set V.G (i := 2) (se_call (V.callee (i := 3) (d := fd_thing_of) rfl) V.r0 (V.glo (i := 3) (d := fd_thing_of) rfl rfl) (sa_cons (se_ix V.G (se_v (i := 0)) (se_int)) (sa_nil))))
      (sss_cons (ss_set V.G (i := 3) (se_call (V.callee (i := 3) (d := fd_thing_of) rfl) V.r0 (V.glo (i := 3) (d := fd_thing_of) rfl rfl) (sa_cons (se_ix V.G (se_v (i := 0)) (se_int)) (sa_nil))))
      (sss_cons (ss_if (st_w (sw_or (st_is (se_v (i := 2)) (se_non)) (sw_or1 (st_is (se_v (i := 3)) (se_non))))) (sss_one (ss_ret (se_non))) (sss_nil))
      (sss_cons (ss_if (st_in V.G (se_ix V.G (se_v (i := 0)) (se_int)) (se_g (V.gt 0))) (sss_one (ss_ret (se_tup (sa_cons (se_v (i := 2)) (sa_cons (se_ix V.G (se_v (i := 0)) (se_int)) (sa_cons (se_v (i := 3)) (sa_nil))))))) (sss_nil))
      (sss_cons (ss_if (st_w (sw_and (st_eq V.G (se_ix V.G (se_v (i := 0)) (se_int)) (se_str (s := [97, 116]) (by rfl))) (sw_and1 (st_tru (se_call (V.callee (i := 1) (d := fd_is_name) rfl) V.r0 (V.glo (i := 1) (d := fd_is_name) rfl rfl) (sa_cons (se_ix V.G (se_v (i := 0)) (se_int)) (sa_nil))))))) (sss_one (ss_ret (se_tup (sa_cons (se_v (i := 2)) (sa_cons (se_str (s := [97, 116]) (by rfl)) (sa_cons (se_v (i := 3)) (sa_nil))))))) (sss_nil))
      (sss_one (ss_ret (se_non)))))))))⟩
theorem ok_value_shown : FDok lw fd_value_shown := ⟨⟨rfl, rfl, rfl, by decide +kernel, rfl, by decide +kernel, by decide +kernel⟩, fun _ _ _ _ _ _ us hl => (match us, hl with | [_], _ => rfl), fun {g P w K mg base f cdv A outer s H E n} V => by
  show SSs g _ (defBody (top 9)) (d_value_shown g (cal g lw.fds n))
  unfold d_value_shown
  exact sss_one (ss_ret (se_join V.G (se_str (s := [32]) (by rfl)) (sa_cons (se_comp (own := [("part", 1)]) (gt := gName 1) (t := tNm 1) (di := iSeq g (dV 0)) (tt := cYes) (te := dF bStr (aCons (dV 1) (aNil))) V.G ⟨si_seq V.G (se_v (i := 0)), by first | rfl | decide +kernel, fun _ _ _ _ _ => pg_name V.G.blk.nd rfl (by first | exact Or.inl rfl | exact Or.inr rfl) (by first | exact Or.inl rfl | exact Or.inr rfl), fun _ _ _ _ _ => pts_no, fun s H C cl fp => (fun (W : Env _ g (Bk _ _ s H C cl fp) n) => se_strc (W.free 2) (sa_cons (se_v (i := 1)) (sa_nil))) V.blk, tNm_ok, own_nm, wipe2_1⟩) (sa_nil))))⟩
theorem ok_names_in : FDok lw fd_names_in := ⟨⟨rfl, rfl, rfl, by decide +kernel, rfl, by decide +kernel, by decide +kernel⟩, fun _ _ _ _ _ _ us hl => (match us, hl with | [_], _ => rfl), fun {g P w K mg base f cdv A outer s H E n} V => by
  show SSs g _ (defBody (top 10)) (d_names_in g (cal g lw.fds n))
  unfold d_names_in
  exact sss_cons (ss_set V.G (i := 1) (se_lst (sa_nil)))
      (sss_cons (ss_for PassesOwn.never V.G (si_r3 (V.free 3) (sa_cons (se_int) (sa_cons (se_len V.G (V.free 0) (sa_cons (se_v (i := 0)) (sa_nil))) (sa_cons (se_int) (sa_nil))))) (stg_nm V.G (i := 2)) (sss_one (ss_if (st_w (sw_and (st_e (se_isi V.G V.lf.isi (V.free 4) (se_ix V.G (se_v (i := 0)) (se_v (i := 2))) (sc_bt (V.free 2) rfl))) (sw_and1 (st_nin V.G (se_ix V.G (se_v (i := 0)) (se_v (i := 2))) (se_v (i := 1)))))) (sss_one (ss_expr (se_append (se_v (i := 1)) (sa_cons (se_ix V.G (se_v (i := 0)) (se_v (i := 2))) (sa_nil))))) (sss_nil))))
      (sss_one (ss_ret (se_v (i := 1)))))⟩
theorem ok__law_cell_at : FDok lw fd__law_cell_at := ⟨⟨rfl, rfl, rfl, by decide +kernel, rfl, by decide +kernel, by decide +kernel⟩, fun _ _ _ _ _ _ us hl => (match us, hl with | [_, _], _ => rfl), fun {g P w K mg base f cdv A outer s H E n} V => by
  show SSs g _ (defBody (top 12)) (d__law_cell_at g (cal g lw.fds n))
  unfold d__law_cell_at
  exact sss_cons (ss_if (st_lt (se_v (i := 1)) (se_len V.G (V.free 0) (sa_cons (se_v (i := 0)) (sa_nil)))) (sss_one (ss_ret (se_ix V.G (se_v (i := 0)) (se_v (i := 1))))) (sss_nil))
      (sss_cons (ss_set V.G (i := 2) (se_int))
      (sss_cons (ss_if (st_ne V.G (se_v (i := 0)) (se_lst (sa_nil))) (sss_one (ss_set V.G (i := 2) (se_ix V.G (se_v (i := 0)) (se_mod (se_v (i := 1)) (se_len V.G (V.free 0) (sa_cons (se_v (i := 0)) (sa_nil))))))) (sss_nil))
      (sss_one (ss_ret (se_mod (se_mul (se_add (se_add (se_mod (se_v (i := 2)) (se_int)) (se_mul (se_int) (se_v (i := 1)))) (se_int)) (se_int)) (se_int))))))⟩
theorem ok__law_mix : FDok lw fd__law_mix := ⟨⟨rfl, rfl, rfl, by decide +kernel, rfl, by decide +kernel, by decide +kernel⟩, fun _ _ _ _ _ _ us hl => (match us, hl with | [_, _], _ => rfl), fun {g P w K mg base f cdv A outer s H E n} V => by
  show SSs g _ (defBody (top 13)) (d__law_mix g (cal g lw.fds n))
  unfold d__law_mix
  exact sss_cons (ss_if (st_w (sw_and (st_eq V.G (se_mod (se_v (i := 0)) (se_int)) (se_int)) (sw_and1 (st_gt (se_v (i := 0)) (se_pow (se_int) (se_int)))))) (sss_cons (ss_set V.G (i := 2) (se_div (se_v (i := 0)) (se_int)))
      (sss_cons (ss_for PassesOwn.never V.G (si_r1 (V.free 3) (sa_cons (se_v (i := 1)) (sa_nil))) (stg_nm V.G (i := 3)) (sss_one (ss_set V.G (i := 2) (se_div (se_v (i := 2)) (se_pow (se_int) (se_int))))))
      (sss_one (ss_if (st_gt (se_v (i := 2)) (se_int)) (sss_one (ss_ret (se_mod (se_v (i := 2)) (se_pow (se_int) (se_int))))) (sss_nil))))) (sss_nil))
      (sss_cons (ss_set V.G (i := 4) (se_mod (se_mul (se_add (se_mod (se_v (i := 0)) (se_int)) (se_int)) (se_add (se_mul (se_v (i := 1)) (se_v (i := 1))) (se_int))) (se_int)))
      (sss_one (ss_ret (se_mod (se_mul (se_v (i := 4)) (se_add (se_mod (se_v (i := 4)) (se_int)) (se_int))) (se_int)))))⟩
theorem ok__law_name : FDok lw fd__law_name := ⟨⟨rfl, rfl, rfl, by decide +kernel, rfl, by decide +kernel, by decide +kernel⟩, fun _ _ _ _ _ _ us hl => (match us, hl with | [_], _ => rfl), fun {g P w K mg base f cdv A outer s H E n} V => by
  show SSs g _ (defBody (top 14)) (d__law_name g (cal g lw.fds n))
  unfold d__law_name
  exact sss_cons (ss_set V.G (i := 1) (se_lst (sa_cons (se_str (s := [97, 116]) (by rfl)) (sa_cons (se_str (s := [111, 118, 101, 114]) (by rfl)) (sa_cons (se_str (s := [114, 101, 115, 116]) (by rfl)) (sa_cons (se_str (s := [115, 101, 116]) (by rfl)) (sa_cons (se_str (s := [98, 121]) (by rfl)) (sa_cons (se_str (s := [105, 100, 108, 101]) (by rfl)) (sa_cons (se_str (s := [109, 97, 105, 110]) (by rfl)) (sa_cons (se_str (s := [101, 110, 100]) (by rfl)) (sa_nil)))))))))))
      (sss_cons (ss_if (st_eq V.G (se_mod (se_v (i := 0)) (se_int)) (se_int)) (sss_one (ss_ret (se_ix V.G (se_v (i := 1)) (se_mod (se_div (se_v (i := 0)) (se_int)) (se_int))))) (sss_nil))
      (sss_cons (ss_set V.G (i := 2) (se_str (s := [97, 98, 99, 100, 101, 102, 103, 104, 105, 106, 107, 108, 109, 110, 111, 112, 113, 114, 115, 116, 117, 118, 119, 120, 121, 122]) (by rfl)))
      (sss_cons (ss_set V.G (i := 3) (se_str (s := []) (by rfl)))
      (sss_cons (ss_set V.G (i := 4) (se_mod (se_mul (se_div (se_v (i := 0)) (se_int)) (se_int)) (se_pow (se_int) (se_int))))
      (sss_cons (ss_for PassesOwn.never V.G (si_r1 (V.free 3) (sa_cons (se_add (se_int) (se_mod (se_div (se_v (i := 0)) (se_int)) (se_int))) (sa_nil))) (stg_nm V.G (i := 5)) (sss_cons (ss_set V.G (i := 3) (se_add (se_v (i := 3)) (se_ix V.G (se_v (i := 2)) (se_mod (se_v (i := 4)) (se_ix V.G (se_lst (sa_cons (se_int) (sa_cons (se_int) (sa_nil)))) (se_mod (se_div (se_v (i := 0)) (se_int)) (se_int)))))))
      (sss_one (ss_set V.G (i := 4) (se_div (se_v (i := 4)) (se_ix V.G (se_lst (sa_cons (se_int) (sa_cons (se_int) (sa_nil)))) (se_mod (se_div (se_v (i := 0)) (se_int)) (se_int))))))))
      (sss_one (ss_ret (se_v (i := 3)))))))))⟩
theorem ok__law_thing : FDok lw fd__law_thing := ⟨⟨rfl, rfl, rfl, by decide +kernel, rfl, by decide +kernel, by decide +kernel⟩, fun _ _ _ _ _ _ us hl => (match us, hl with | [_], _ => rfl), fun {g P w K mg base f cdv A outer s H E n} V => by
  show SSs g _ (defBody (top 15)) (d__law_thing g (cal g lw.fds n))
  unfold d__law_thing
  exact sss_cons (ss_if (st_eq V.G (se_mod (se_v (i := 0)) (se_int)) (se_int)) (sss_one (ss_ret (se_ix V.G (se_lst (sa_cons (se_str (s := []) (by rfl)) (sa_cons (se_str (s := [65]) (by rfl)) (sa_cons (se_str (s := [48, 49]) (by rfl)) (sa_cons (se_str (s := [49, 48, 48, 48, 48, 48, 48, 48, 48, 48, 48, 48, 48]) (by rfl)) (sa_cons (se_str (s := [97, 98, 99, 100, 101, 102, 103, 104, 105]) (by rfl)) (sa_cons (se_str (s := [45, 49]) (by rfl)) (sa_cons (se_str (s := [97, 49]) (by rfl)) (sa_cons (se_str (s := [43]) (by rfl)) (sa_nil)))))))))) (se_mod (se_div (se_v (i := 0)) (se_int)) (se_int))))) (sss_nil))
      (sss_cons (ss_if (st_eq V.G (se_mod (se_v (i := 0)) (se_int)) (se_int)) (sss_one (ss_ret (se_strc (V.free 2) (sa_cons (se_mod (se_mul (se_div (se_v (i := 0)) (se_int)) (se_int)) (se_ix V.G (se_lst (sa_cons (se_pow (se_int) (se_int)) (sa_cons (se_int) (sa_nil)))) (se_mod (se_div (se_v (i := 0)) (se_int)) (se_int)))) (sa_nil))))) (sss_nil))
      (sss_one (ss_ret (se_call (V.callee (i := 9) (d := fd__law_name) rfl) V.r0 (V.glo (i := 9) (d := fd__law_name) rfl rfl) (sa_cons (se_div (se_v (i := 0)) (se_int)) (sa_nil))))))⟩
theorem ok__law_words : FDok lw fd__law_words := ⟨⟨rfl, rfl, rfl, by decide +kernel, rfl, by decide +kernel, by decide +kernel⟩, fun _ _ _ _ _ _ us hl => (match us, hl with | [_], _ => rfl), fun {g P w K mg base f cdv A outer s H E n} V => by
  show SSs g _ (defBody (top 16)) (d__law_words g (cal g lw.fds n))
  unfold d__law_words
  exact sss_cons (ss_set V.G (i := 1) (se_mod (se_call (V.callee (i := 8) (d := fd__law_mix) rfl) V.r0 (V.glo (i := 8) (d := fd__law_mix) rfl rfl) (sa_cons (se_v (i := 0)) (sa_cons (se_int) (sa_nil)))) (se_int)))
      (sss_cons (ss_set V.G (i := 2) (se_call (V.callee (i := 10) (d := fd__law_thing) rfl) V.r0 (V.glo (i := 10) (d := fd__law_thing) rfl rfl) (sa_cons (se_call (V.callee (i := 8) (d := fd__law_mix) rfl) V.r0 (V.glo (i := 8) (d := fd__law_mix) rfl rfl) (sa_cons (se_v (i := 0)) (sa_cons (se_int) (sa_nil)))) (sa_nil))))
      (sss_cons (ss_set V.G (i := 3) (se_call (V.callee (i := 10) (d := fd__law_thing) rfl) V.r0 (V.glo (i := 10) (d := fd__law_thing) rfl rfl) (sa_cons (se_call (V.callee (i := 8) (d := fd__law_mix) rfl) V.r0 (V.glo (i := 8) (d := fd__law_mix) rfl rfl) (sa_cons (se_v (i := 0)) (sa_cons (se_int) (sa_nil)))) (sa_nil))))
      (sss_cons (ss_if (st_eq V.G (se_mod (se_call (V.callee (i := 8) (d := fd__law_mix) rfl) V.r0 (V.glo (i := 8) (d := fd__law_mix) rfl rfl) (sa_cons (se_v (i := 0)) (sa_cons (se_int) (sa_nil)))) (se_int)) (se_int)) (sss_one (ss_set V.G (i := 3) (se_v (i := 2)))) (sss_nil))
      (sss_cons (ss_if (st_lt (se_v (i := 1)) (se_int)) (sss_one (ss_ret (se_lst (sa_cons (se_v (i := 2)) (sa_nil))))) (sss_nil))
      (sss_cons (ss_if (st_lt (se_v (i := 1)) (se_int)) (sss_one (ss_ret (se_lst (sa_cons (se_v (i := 2)) (sa_cons (se_ix V.G (se_lst (sa_cons (se_str (s := [43]) (by rfl)) (sa_cons (se_str (s := [45]) (by rfl)) (sa_cons (se_str (s := [42]) (by rfl)) (sa_cons (se_str (s := [111, 118, 101, 114]) (by rfl)) (sa_cons (se_str (s := [114, 101, 115, 116]) (by rfl)) (sa_cons (se_str (s := [60]) (by rfl)) (sa_cons (se_str (s := [61]) (by rfl)) (sa_nil))))))))) (se_mod (se_call (V.callee (i := 8) (d := fd__law_mix) rfl) V.r0 (V.glo (i := 8) (d := fd__law_mix) rfl rfl) (sa_cons (se_v (i := 0)) (sa_cons (se_int) (sa_nil)))) (se_int))) (sa_cons (se_v (i := 3)) (sa_nil))))))) (sss_nil))
      (sss_cons (ss_if (st_lt (se_v (i := 1)) (se_int)) (sss_one (ss_ret (se_lst (sa_cons (se_v (i := 2)) (sa_cons (se_str (s := [97, 116]) (by rfl)) (sa_cons (se_v (i := 3)) (sa_nil))))))) (sss_nil))
      (sss_cons (ss_if (st_eq V.G (se_v (i := 1)) (se_int)) (sss_one (ss_ret (se_lst (sa_cons (se_v (i := 2)) (sa_cons (se_ix V.G (se_lst (sa_cons (se_str (s := [62]) (by rfl)) (sa_cons (se_str (s := []) (by rfl)) (sa_cons (se_str (s := [98, 121]) (by rfl)) (sa_cons (se_str (s := [65, 84]) (by rfl)) (sa_cons (se_str (s := [97, 110, 100]) (by rfl)) (sa_cons (se_str (s := [43, 43]) (by rfl)) (sa_cons (se_str (s := [48]) (by rfl)) (sa_cons (se_str (s := [97]) (by rfl)) (sa_nil)))))))))) (se_mod (se_call (V.callee (i := 8) (d := fd__law_mix) rfl) V.r0 (V.glo (i := 8) (d := fd__law_mix) rfl rfl) (sa_cons (se_v (i := 0)) (sa_cons (se_int) (sa_nil)))) (se_int))) (sa_cons (se_v (i := 3)) (sa_nil))))))) (sss_nil))
      (sss_one (ss_ret (se_ix V.G (se_lst (sa_cons (se_lst (sa_nil)) (sa_cons (se_lst (sa_cons (se_v (i := 2)) (sa_cons (se_str (s := [43]) (by rfl)) (sa_nil)))) (sa_cons (se_lst (sa_cons (se_v (i := 2)) (sa_cons (se_str (s := [43]) (by rfl)) (sa_cons (se_v (i := 3)) (sa_cons (se_str (s := [43]) (by rfl)) (sa_nil)))))) (sa_cons (se_lst (sa_cons (se_v (i := 2)) (sa_cons (se_v (i := 3)) (sa_nil)))) (sa_nil)))))) (se_mod (se_call (V.callee (i := 8) (d := fd__law_mix) rfl) V.r0 (V.glo (i := 8) (d := fd__law_mix) rfl rfl) (sa_cons (se_v (i := 0)) (sa_cons (se_int) (sa_nil)))) (se_int))))))))))))⟩
theorem ok__law_named : FDok lw fd__law_named := ⟨⟨rfl, rfl, rfl, by decide +kernel, rfl, by decide +kernel, by decide +kernel⟩, fun _ _ _ _ _ _ us hl => (match us, hl with | [_], _ => rfl), fun {g P w K mg base f cdv A outer s H E n} V => by
  show SSs g _ (defBody (top 17)) (d__law_named g (cal g lw.fds n))
  unfold d__law_named
  exact sss_cons (ss_if (st_w (sw_or (st_lt (se_len V.G (V.free 0) (sa_cons (se_v (i := 0)) (sa_nil))) (se_int)) (sw_or1 (st_gt (se_len V.G (V.free 0) (sa_cons (se_v (i := 0)) (sa_nil))) (se_int))))) (sss_one (ss_ret (se_bl))) (sss_nil))
      (sss_one (ss_ret (se_all V.G (V.free 5) (sa_cons (se_comp (own := [("_law_sign", 1)]) (gt := gName 1) (t := tNm 1) (di := iSeq g (dV 0)) (tt := cYes) (te := dB (oIn g false) (dV 1) (dC (.str [97, 98, 99, 100, 101, 102, 103, 104, 105, 106, 107, 108, 109, 110, 111, 112, 113, 114, 115, 116, 117, 118, 119, 120, 121, 122]))) V.G ⟨si_seq V.G (se_v (i := 0)), by first | rfl | decide +kernel, fun _ _ _ _ _ => pg_name V.G.blk.nd rfl (by first | exact Or.inl rfl | exact Or.inr rfl) (by first | exact Or.inl rfl | exact Or.inr rfl), fun _ _ _ _ _ => pts_no, fun s H C cl fp => (fun (W : Env _ g (Bk _ _ s H C cl fp) n) => se_in W.G (se_v (i := 1)) (se_str (s := [97, 98, 99, 100, 101, 102, 103, 104, 105, 106, 107, 108, 109, 110, 111, 112, 113, 114, 115, 116, 117, 118, 119, 120, 121, 122]) (by rfl))) V.blk, tNm_ok, own_nm, wipe2_1⟩) (sa_nil)))))⟩
theorem ok__law_read : FDok lw fd__law_read := ⟨⟨rfl, rfl, rfl, by decide +kernel, rfl, by decide +kernel, by decide +kernel⟩, fun _ _ _ _ _ _ us hl => (match us, hl with | [_], _ => rfl), fun {g P w K mg base f cdv A outer s H E n} V => by
  show SSs g _ (defBody (top 18)) (d__law_read g (cal g lw.fds n))
  unfold d__law_read
  exact sss_cons (ss_if (st_w (sw_and (st_ge (se_len V.G (V.free 0) (sa_cons (se_v (i := 0)) (sa_nil))) (se_int)) (sw_and (st_le (se_len V.G (V.free 0) (sa_cons (se_v (i := 0)) (sa_nil))) (se_int)) (sw_and1 (st_e (se_all V.G (V.free 5) (sa_cons (se_comp (own := [("_law_sign", 1)]) (gt := gName 1) (t := tNm 1) (di := iSeq g (dV 0)) (tt := cYes) (te := dB (oIn g false) (dV 1) (dC (.str [48, 49, 50, 51, 52, 53, 54, 55, 56, 57]))) V.G ⟨si_seq V.G (se_v (i := 0)), by first | rfl | decide +kernel, fun _ _ _ _ _ => pg_name V.G.blk.nd rfl (by first | exact Or.inl rfl | exact Or.inr rfl) (by first | exact Or.inl rfl | exact Or.inr rfl), fun _ _ _ _ _ => pts_no, fun s H C cl fp => (fun (W : Env _ g (Bk _ _ s H C cl fp) n) => se_in W.G (se_v (i := 1)) (se_str (s := [48, 49, 50, 51, 52, 53, 54, 55, 56, 57]) (by rfl))) V.blk, tNm_ok, own_nm, wipe2_1⟩) (sa_nil)))))))) (sss_one (ss_if (st_w (sw_or (st_ne V.G (se_ix V.G (se_v (i := 0)) (se_int)) (se_str (s := [48]) (by rfl))) (sw_or1 (st_eq V.G (se_len V.G (V.free 0) (sa_cons (se_v (i := 0)) (sa_nil))) (se_int))))) (sss_one (ss_ret (se_intc (V.free 1) (sa_cons (se_v (i := 0)) (sa_nil))))) (sss_nil))) (sss_nil))
      (sss_cons (ss_if (st_tru (se_call (V.callee (i := 12) (d := fd__law_named) rfl) V.r0 (V.glo (i := 12) (d := fd__law_named) rfl rfl) (sa_cons (se_v (i := 0)) (sa_nil)))) (sss_one (ss_ret (se_v (i := 0)))) (sss_nil))
      (sss_one (ss_ret (se_non))))⟩
theorem ok__law_due : FDok lw fd__law_due := ⟨⟨rfl, rfl, rfl, by decide +kernel, rfl, by decide +kernel, by decide +kernel⟩, fun _ _ _ _ _ _ us hl => (match us, hl with | [_], _ => rfl), fun {g P w K mg base f cdv A outer s H E n} V => by
  show SSs g _ (defBody (top 19)) (d__law_due g (cal g lw.fds n))
  unfold d__law_due
  exact sss_cons (ss_if (st_nin V.G (se_len V.G (V.free 0) (sa_cons (se_v (i := 0)) (sa_nil))) (se_tup (sa_cons (se_int) (sa_cons (se_int) (sa_nil))))) (sss_one (ss_ret (se_non))) (sss_nil))
      (sss_cons (ss_setLc (i := 1) (own := [("_law_k", 2)]) (gt := gName 2) (t := tNm 2) (di := iR3 (aCons (dC (.int 0)) (aCons (dF (bLen g) (aCons (dV 0) (aNil))) (aCons (dC (.int 2)) (aNil))))) (tt := cYes) (te := dArg 1 [] (cal g lw.fds n 13) (aCons (dB (oIx g) (dV 0) (dV 2)) (aNil))) V.G ⟨si_r3 (V.free 3) (sa_cons (se_int) (sa_cons (se_len V.G (V.free 0) (sa_cons (se_v (i := 0)) (sa_nil))) (sa_cons (se_int) (sa_nil)))), by first | rfl | decide +kernel, fun _ _ _ _ _ => pg_name V.G.blk.nd rfl (by first | exact Or.inl rfl | exact Or.inr rfl) (by first | exact Or.inl rfl | exact Or.inr rfl), fun _ _ _ _ _ => pts_no, fun s H C cl fp => (fun (W : Env _ g (Bk _ _ s H C cl fp) n) => se_call (W.callee (i := 13) (d := fd__law_read) rfl) W.r0 (W.glo (i := 13) (d := fd__law_read) rfl rfl) (sa_cons (se_ix W.G (se_v (i := 0)) (se_v (i := 2))) (sa_nil))) V.blk, tNm_ok, own_nm, wipe2_1⟩)
      (sss_cons (ss_if (st_e (se_any V.G (V.free 6) (sa_cons (se_comp (own := [("_law_thing_here", 3)]) (gt := gName 3) (t := tNm 3) (di := iSeq g (dV 1)) (tt := cYes) (te := dB (oIs false) (dV 3) (dC .non)) V.G ⟨si_seq V.G (se_v (i := 1)), by first | rfl | decide +kernel, fun _ _ _ _ _ => pg_name V.G.blk.nd rfl (by first | exact Or.inl rfl | exact Or.inr rfl) (by first | exact Or.inl rfl | exact Or.inr rfl), fun _ _ _ _ _ => pts_no, fun _ _ _ _ _ => se_is (se_v (i := 3)) (se_non), tNm_ok, own_nm, wipe2_1⟩) (sa_nil)))) (sss_one (ss_ret (se_non))) (sss_nil))
      (sss_cons (ss_if (st_eq V.G (se_len V.G (V.free 0) (sa_cons (se_v (i := 0)) (sa_nil))) (se_int)) (sss_one (ss_ret (se_tup (sa_cons (se_ix V.G (se_v (i := 1)) (se_int)) (sa_nil))))) (sss_nil))
      (sss_cons (ss_if (st_w (sw_and (st_eq V.G (se_ix V.G (se_v (i := 0)) (se_int)) (se_str (s := [97, 116]) (by rfl))) (sw_and1 (st_not (st_tru (se_call (V.callee (i := 12) (d := fd__law_named) rfl) V.r0 (V.glo (i := 12) (d := fd__law_named) rfl rfl) (sa_cons (se_ix V.G (se_v (i := 0)) (se_int)) (sa_nil)))))))) (sss_one (ss_ret (se_non))) (sss_nil))
      (sss_cons (ss_if (st_nin V.G (se_ix V.G (se_v (i := 0)) (se_int)) (se_tup (sa_cons (se_str (s := [43]) (by rfl)) (sa_cons (se_str (s := [45]) (by rfl)) (sa_cons (se_str (s := [42]) (by rfl)) (sa_cons (se_str (s := [111, 118, 101, 114]) (by rfl)) (sa_cons (se_str (s := [114, 101, 115, 116]) (by rfl)) (sa_cons (se_str (s := [60]) (by rfl)) (sa_cons (se_str (s := [61]) (by rfl)) (sa_cons (se_str (s := [97, 116]) (by rfl)) (sa_nil))))))))))) (sss_one (ss_ret (se_non))) (sss_nil))
      (sss_one (ss_ret (se_tup (sa_cons (se_ix V.G (se_v (i := 1)) (se_int)) (sa_cons (se_ix V.G (se_v (i := 0)) (se_int)) (sa_cons (se_ix V.G (se_v (i := 1)) (se_int)) (sa_nil))))))))))))⟩
theorem ok__law_alike : FDok lw fd__law_alike := ⟨⟨rfl, rfl, rfl, by decide +kernel, rfl, by decide +kernel, by decide +kernel⟩, fun _ _ _ _ _ _ us hl => (match us, hl with | [_, _], _ => rfl), fun {g P w K mg base f cdv A outer s H E n} V => by
  show SSs g _ (defBody (top 20)) (d__law_alike g (cal g lw.fds n))
  unfold d__law_alike
  exact sss_cons (ss_if (st_w (sw_or (st_not (st_e (se_isi V.G V.lf.isi (V.free 4) (se_v (i := 0)) (sc_bt (V.free 7) rfl)))) (sw_or1 (st_ne V.G (se_len V.G (V.free 0) (sa_cons (se_v (i := 0)) (sa_nil))) (se_len V.G (V.free 0) (sa_cons (se_v (i := 1)) (sa_nil))))))) (sss_one (ss_ret (se_bl))) (sss_nil))
      (sss_cons (ss_for PassesOwn.never V.G (si_r1 (V.free 3) (sa_cons (se_len V.G (V.free 0) (sa_cons (se_v (i := 1)) (sa_nil))) (sa_nil))) (stg_nm V.G (i := 2)) (sss_cons (ss_if (st_ne V.G (se_isi V.G V.lf.isi (V.free 4) (se_ix V.G (se_v (i := 1)) (se_v (i := 2))) (sc_bt (V.free 2) rfl)) (se_isi V.G V.lf.isi (V.free 4) (se_ix V.G (se_v (i := 0)) (se_v (i := 2))) (sc_bt (V.free 2) rfl))) (sss_one (ss_ret (se_bl))) (sss_nil))
      (sss_one (ss_if (st_w (sw_or (st_not (st_e (se_isiT V.G V.lf.isi (V.free 4) (se_ix V.G (se_v (i := 0)) (se_v (i := 2))) (.cons (sc_bt (V.free 1) rfl) (.cons (sc_bt (V.free 2) rfl) (.nil) rfl) rfl)))) (sw_or (st_e (se_isi V.G V.lf.isi (V.free 4) (se_ix V.G (se_v (i := 0)) (se_v (i := 2))) (sc_bt (V.free 8) rfl))) (sw_or1 (st_ne V.G (se_ix V.G (se_v (i := 0)) (se_v (i := 2))) (se_ix V.G (se_v (i := 1)) (se_v (i := 2)))))))) (sss_one (ss_ret (se_bl))) (sss_nil)))))
      (sss_one (ss_ret (se_bl))))⟩
theorem ok__law_holds : FDok lw fd__law_holds := ⟨⟨rfl, rfl, rfl, by decide +kernel, rfl, by decide +kernel, by decide +kernel⟩, fun _ _ _ _ _ _ us hl => (match us, hl with | [_], _ => rfl), fun {g P w K mg base f cdv A outer s H E n} V => by
  show SSs g _ (defBody (top 21)) (d__law_holds g (cal g lw.fds n))
  unfold d__law_holds
  exact sss_cons (ss_set V.G (i := 1) (se_call (V.callee (i := 14) (d := fd__law_due) rfl) V.r0 (V.glo (i := 14) (d := fd__law_due) rfl rfl) (sa_cons (se_v (i := 0)) (sa_nil))))
      (sss_cons (ss_set V.G (i := 2) (se_list V.G (V.free 9) (sa_cons (se_v (i := 0)) (sa_nil))))
      (sss_cons (ss_set V.G (i := 3) (se_call (V.callee (i := 4) (d := fd_value_of) rfl) V.r0 (V.glo (i := 4) (d := fd_value_of) rfl rfl) (sa_cons (se_v (i := 2)) (sa_nil))))
      (sss_cons (ss_if (st_ne V.G (se_v (i := 2)) (se_v (i := 0))) (sss_one (ss_ret (se_bl))) (sss_nil))
      (sss_cons (ss_if (st_is (se_v (i := 1)) (se_non)) (sss_one (ss_ret (se_is (se_v (i := 3)) (se_non)))) (sss_nil))
      (sss_cons (ss_if (st_not (st_tru (se_call (V.callee (i := 15) (d := fd__law_alike) rfl) V.r0 (V.glo (i := 15) (d := fd__law_alike) rfl rfl) (sa_cons (se_v (i := 3)) (sa_cons (se_v (i := 1)) (sa_nil)))))) (sss_one (ss_ret (se_bl))) (sss_nil))
      (sss_cons (ss_set V.G (i := 4) (se_call (V.callee (i := 5) (d := fd_value_shown) rfl) V.r0 (V.glo (i := 5) (d := fd_value_shown) rfl rfl) (sa_cons (se_v (i := 1)) (sa_nil))))
      (sss_cons (ss_if (st_w (sw_or (st_not (st_e (se_isi V.G V.lf.isi (V.free 4) (se_v (i := 4)) (sc_bt (V.free 2) rfl)))) (sw_or1 (st_ne V.G (se_v (i := 4)) (se_join V.G (se_str (s := [32]) (by rfl)) (sa_cons (se_v (i := 0)) (sa_nil))))))) (sss_one (ss_ret (se_bl))) (sss_nil))
      (sss_cons (ss_set V.G (i := 5) (se_lst (sa_nil)))
      (sss_cons (ss_for PassesOwn.never V.G (si_r3 (V.free 3) (sa_cons (se_int) (sa_cons (se_len V.G (V.free 0) (sa_cons (se_v (i := 1)) (sa_nil))) (sa_cons (se_int) (sa_nil))))) (stg_nm V.G (i := 6)) (sss_one (ss_if (st_w (sw_and (st_e (se_isi V.G V.lf.isi (V.free 4) (se_ix V.G (se_v (i := 1)) (se_v (i := 6))) (sc_bt (V.free 2) rfl))) (sw_and1 (st_nin V.G (se_ix V.G (se_v (i := 1)) (se_v (i := 6))) (se_v (i := 5)))))) (sss_one (ss_expr (se_append (se_v (i := 5)) (sa_cons (se_ix V.G (se_v (i := 1)) (se_v (i := 6))) (sa_nil))))) (sss_nil))))
      (sss_cons (ss_set V.G (i := 7) (se_call (V.callee (i := 6) (d := fd_names_in) rfl) V.r0 (V.glo (i := 6) (d := fd_names_in) rfl rfl) (sa_cons (se_v (i := 1)) (sa_nil))))
      (sss_cons (ss_if (st_w (sw_or (st_not (st_e (se_isi V.G V.lf.isi (V.free 4) (se_v (i := 7)) (sc_bt (V.free 9) rfl)))) (sw_or1 (st_ne V.G (se_v (i := 7)) (se_v (i := 5)))))) (sss_one (ss_ret (se_bl))) (sss_nil))
      (sss_cons (ss_expr (se_append (se_v (i := 7)) (sa_cons (se_str (s := [109, 111, 114, 101]) (by rfl)) (sa_nil))))
      (sss_one (ss_ret (se_eq V.G (se_call (V.callee (i := 6) (d := fd_names_in) rfl) V.r0 (V.glo (i := 6) (d := fd_names_in) rfl rfl) (sa_cons (se_v (i := 1)) (sa_nil))) (se_v (i := 5)))))))))))))))))⟩
theorem ok_law : FDok lw fd_law := ⟨⟨rfl, rfl, rfl, by decide +kernel, rfl, by decide +kernel, by decide +kernel⟩, fun _ _ _ _ _ _ us hl => (match us, hl with | [_], _ => rfl), fun {g P w K mg base f cdv A outer s H E n} V => by
  show SSs g _ (defBody (top 22)) (d_law g (cal g lw.fds n))
  unfold d_law
  exact sss_cons (ss_for PassesOwn.never V.G (si_seq V.G (se_add (se_lst (sa_cons (se_int) (sa_nil))) (se_comp (own := [("_law_k", 2)]) (gt := gName 2) (t := tNm 2) (di := iR1 (aCons (dF bMax (aCons (dC (.int 9)) (aCons (dF bMin (aCons (dC (.int 30)) (aCons (dF (bLen g) (aCons (dV 0) (aNil))) (aNil)))) (aNil)))) (aNil))) (tt := cYes) (te := dArg 2 [] (cal g lw.fds n 7) (aCons (dV 0) (aCons (dV 2) (aNil)))) V.G ⟨si_r1 (V.free 3) (sa_cons (se_max V.G (V.free 11) (sa_cons (se_int) (sa_cons (se_min V.G (V.free 10) (sa_cons (se_int) (sa_cons (se_len V.G (V.free 0) (sa_cons (se_v (i := 0)) (sa_nil))) (sa_nil)))) (sa_nil)))) (sa_nil)), by first | rfl | decide +kernel, fun _ _ _ _ _ => pg_name V.G.blk.nd rfl (by first | exact Or.inl rfl | exact Or.inr rfl) (by first | exact Or.inl rfl | exact Or.inr rfl), fun _ _ _ _ _ => pts_no, fun s H C cl fp => (fun (W : Env _ g (Bk _ _ s H C cl fp) n) => se_call (W.callee (i := 7) (d := fd__law_cell_at) rfl) W.r0 (W.glo (i := 7) (d := fd__law_cell_at) rfl rfl) (sa_cons (se_v (i := 0)) (sa_cons (se_v (i := 2)) (sa_nil)))) V.blk, tNm_ok, own_nm, wipe2_1⟩))) (stg_nm V.G (i := 1)) (sss_one (ss_if (st_not (st_tru (se_call (V.callee (i := 16) (d := fd__law_holds) rfl) V.r0 (V.glo (i := 16) (d := fd__law_holds) rfl rfl) (sa_cons (se_call (V.callee (i := 11) (d := fd__law_words) rfl) V.r0 (V.glo (i := 11) (d := fd__law_words) rfl rfl) (sa_cons (se_v (i := 1)) (sa_nil))) (sa_nil))))) (sss_one (ss_ret (se_bl))) (sss_nil))))
      (sss_one (ss_ret (se_bl)))⟩
theorem c_made_of (g : Cfg) (n : Nat) : cal g lw.fds (n + 1) 0 = runD 3 (d_made_of g (cal g lw.fds n)) := rfl
theorem c_is_name (g : Cfg) (n : Nat) : cal g lw.fds (n + 1) 1 = runD 1 (d_is_name g (cal g lw.fds n)) := rfl
theorem c_number_of (g : Cfg) (n : Nat) : cal g lw.fds (n + 1) 2 = runD 1 (d_number_of g (cal g lw.fds n)) := rfl
theorem c_thing_of (g : Cfg) (n : Nat) : cal g lw.fds (n + 1) 3 = runD 2 (d_thing_of g (cal g lw.fds n)) := rfl
theorem c_value_of (g : Cfg) (n : Nat) : cal g lw.fds (n + 1) 4 = runD 4 (d_value_of g (cal g lw.fds n)) := rfl
theorem c_value_shown (g : Cfg) (n : Nat) : cal g lw.fds (n + 1) 5 = runD 2 (d_value_shown g (cal g lw.fds n)) := rfl
theorem c_names_in (g : Cfg) (n : Nat) : cal g lw.fds (n + 1) 6 = runD 3 (d_names_in g (cal g lw.fds n)) := rfl
theorem c__law_cell_at (g : Cfg) (n : Nat) : cal g lw.fds (n + 1) 7 = runD 3 (d__law_cell_at g (cal g lw.fds n)) := rfl
theorem c__law_mix (g : Cfg) (n : Nat) : cal g lw.fds (n + 1) 8 = runD 5 (d__law_mix g (cal g lw.fds n)) := rfl
theorem c__law_name (g : Cfg) (n : Nat) : cal g lw.fds (n + 1) 9 = runD 6 (d__law_name g (cal g lw.fds n)) := rfl
theorem c__law_thing (g : Cfg) (n : Nat) : cal g lw.fds (n + 1) 10 = runD 1 (d__law_thing g (cal g lw.fds n)) := rfl
theorem c__law_words (g : Cfg) (n : Nat) : cal g lw.fds (n + 1) 11 = runD 4 (d__law_words g (cal g lw.fds n)) := rfl
theorem c__law_named (g : Cfg) (n : Nat) : cal g lw.fds (n + 1) 12 = runD 2 (d__law_named g (cal g lw.fds n)) := rfl
theorem c__law_read (g : Cfg) (n : Nat) : cal g lw.fds (n + 1) 13 = runD 2 (d__law_read g (cal g lw.fds n)) := rfl
theorem c__law_due (g : Cfg) (n : Nat) : cal g lw.fds (n + 1) 14 = runD 4 (d__law_due g (cal g lw.fds n)) := rfl
theorem c__law_alike (g : Cfg) (n : Nat) : cal g lw.fds (n + 1) 15 = runD 3 (d__law_alike g (cal g lw.fds n)) := rfl
theorem c__law_holds (g : Cfg) (n : Nat) : cal g lw.fds (n + 1) 16 = runD 8 (d__law_holds g (cal g lw.fds n)) := rfl
theorem c_law (g : Cfg) (n : Nat) : cal g lw.fds (n + 1) 17 = runD 3 (d_law g (cal g lw.fds n)) := rfl
@[simp] theorem q_int_bool (g : Cfg) (z : Int) (Q : Val → Mem → Prop) (M : Mem) : PIsi g tabI tabC "bool" Q (.int z) M = Q (.bl false) M := w_Isi rfl rfl Q
@[simp] theorem q_int_int (g : Cfg) (z : Int) (Q : Val → Mem → Prop) (M : Mem) : PIsi g tabI tabC "int" Q (.int z) M = Q (.bl true) M := w_Isi rfl rfl Q
@[simp] theorem q_int_list (g : Cfg) (z : Int) (Q : Val → Mem → Prop) (M : Mem) : PIsi g tabI tabC "list" Q (.int z) M = Q (.bl false) M := w_Isi rfl rfl Q
@[simp] theorem q_int_str (g : Cfg) (z : Int) (Q : Val → Mem → Prop) (M : Mem) : PIsi g tabI tabC "str" Q (.int z) M = Q (.bl false) M := w_Isi rfl rfl Q
@[simp] theorem q_int_tuple (g : Cfg) (z : Int) (Q : Val → Mem → Prop) (M : Mem) : PIsi g tabI tabC "tuple" Q (.int z) M = Q (.bl false) M := w_Isi rfl rfl Q
@[simp] theorem q_bool_bool (g : Cfg) (z : Bool) (Q : Val → Mem → Prop) (M : Mem) : PIsi g tabI tabC "bool" Q (.bl z) M = Q (.bl true) M := w_Isi rfl rfl Q
@[simp] theorem q_bool_int (g : Cfg) (z : Bool) (Q : Val → Mem → Prop) (M : Mem) : PIsi g tabI tabC "int" Q (.bl z) M = Q (.bl true) M := w_Isi rfl rfl Q
@[simp] theorem q_bool_list (g : Cfg) (z : Bool) (Q : Val → Mem → Prop) (M : Mem) : PIsi g tabI tabC "list" Q (.bl z) M = Q (.bl false) M := w_Isi rfl rfl Q
@[simp] theorem q_bool_str (g : Cfg) (z : Bool) (Q : Val → Mem → Prop) (M : Mem) : PIsi g tabI tabC "str" Q (.bl z) M = Q (.bl false) M := w_Isi rfl rfl Q
@[simp] theorem q_bool_tuple (g : Cfg) (z : Bool) (Q : Val → Mem → Prop) (M : Mem) : PIsi g tabI tabC "tuple" Q (.bl z) M = Q (.bl false) M := w_Isi rfl rfl Q
@[simp] theorem q_str_bool (g : Cfg) (z : List Nat) (Q : Val → Mem → Prop) (M : Mem) : PIsi g tabI tabC "bool" Q (.str z) M = Q (.bl false) M := w_Isi rfl rfl Q
@[simp] theorem q_str_int (g : Cfg) (z : List Nat) (Q : Val → Mem → Prop) (M : Mem) : PIsi g tabI tabC "int" Q (.str z) M = Q (.bl false) M := w_Isi rfl rfl Q
@[simp] theorem q_str_list (g : Cfg) (z : List Nat) (Q : Val → Mem → Prop) (M : Mem) : PIsi g tabI tabC "list" Q (.str z) M = Q (.bl false) M := w_Isi rfl rfl Q
@[simp] theorem q_str_str (g : Cfg) (z : List Nat) (Q : Val → Mem → Prop) (M : Mem) : PIsi g tabI tabC "str" Q (.str z) M = Q (.bl true) M := w_Isi rfl rfl Q
@[simp] theorem q_str_tuple (g : Cfg) (z : List Nat) (Q : Val → Mem → Prop) (M : Mem) : PIsi g tabI tabC "tuple" Q (.str z) M = Q (.bl false) M := w_Isi rfl rfl Q
@[simp] theorem q_NoneType_bool (g : Cfg) (Q : Val → Mem → Prop) (M : Mem) : PIsi g tabI tabC "bool" Q .non M = Q (.bl false) M := w_Isi rfl rfl Q
@[simp] theorem q_NoneType_int (g : Cfg) (Q : Val → Mem → Prop) (M : Mem) : PIsi g tabI tabC "int" Q .non M = Q (.bl false) M := w_Isi rfl rfl Q
@[simp] theorem q_NoneType_list (g : Cfg) (Q : Val → Mem → Prop) (M : Mem) : PIsi g tabI tabC "list" Q .non M = Q (.bl false) M := w_Isi rfl rfl Q
@[simp] theorem q_NoneType_str (g : Cfg) (Q : Val → Mem → Prop) (M : Mem) : PIsi g tabI tabC "str" Q .non M = Q (.bl false) M := w_Isi rfl rfl Q
@[simp] theorem q_NoneType_tuple (g : Cfg) (Q : Val → Mem → Prop) (M : Mem) : PIsi g tabI tabC "tuple" Q .non M = Q (.bl false) M := w_Isi rfl rfl Q
theorem q_list_bool {g : Cfg} {v : Val} {M : Mem} (h : tyOf g tabC M v = some "list") (Q : Val → Mem → Prop) : PIsi g tabI tabC "bool" Q v M = Q (.bl false) M := w_Isi h rfl Q
theorem q_list_int {g : Cfg} {v : Val} {M : Mem} (h : tyOf g tabC M v = some "list") (Q : Val → Mem → Prop) : PIsi g tabI tabC "int" Q v M = Q (.bl false) M := w_Isi h rfl Q
theorem q_list_list {g : Cfg} {v : Val} {M : Mem} (h : tyOf g tabC M v = some "list") (Q : Val → Mem → Prop) : PIsi g tabI tabC "list" Q v M = Q (.bl true) M := w_Isi h rfl Q
theorem q_list_str {g : Cfg} {v : Val} {M : Mem} (h : tyOf g tabC M v = some "list") (Q : Val → Mem → Prop) : PIsi g tabI tabC "str" Q v M = Q (.bl false) M := w_Isi h rfl Q
theorem q_list_tuple {g : Cfg} {v : Val} {M : Mem} (h : tyOf g tabC M v = some "list") (Q : Val → Mem → Prop) : PIsi g tabI tabC "tuple" Q v M = Q (.bl false) M := w_Isi h rfl Q
theorem q_tuple_bool {g : Cfg} {v : Val} {M : Mem} (h : tyOf g tabC M v = some "tuple") (Q : Val → Mem → Prop) : PIsi g tabI tabC "bool" Q v M = Q (.bl false) M := w_Isi h rfl Q
theorem q_tuple_int {g : Cfg} {v : Val} {M : Mem} (h : tyOf g tabC M v = some "tuple") (Q : Val → Mem → Prop) : PIsi g tabI tabC "int" Q v M = Q (.bl false) M := w_Isi h rfl Q
theorem q_tuple_list {g : Cfg} {v : Val} {M : Mem} (h : tyOf g tabC M v = some "tuple") (Q : Val → Mem → Prop) : PIsi g tabI tabC "list" Q v M = Q (.bl false) M := w_Isi h rfl Q
theorem q_tuple_str {g : Cfg} {v : Val} {M : Mem} (h : tyOf g tabC M v = some "tuple") (Q : Val → Mem → Prop) : PIsi g tabI tabC "str" Q v M = Q (.bl false) M := w_Isi h rfl Q
theorem q_tuple_tuple {g : Cfg} {v : Val} {M : Mem} (h : tyOf g tabC M v = some "tuple") (Q : Val → Mem → Prop) : PIsi g tabI tabC "tuple" Q v M = Q (.bl true) M := w_Isi h rfl Q
theorem q_dict_bool {g : Cfg} {v : Val} {M : Mem} (h : tyOf g tabC M v = some "dict") (Q : Val → Mem → Prop) : PIsi g tabI tabC "bool" Q v M = Q (.bl false) M := w_Isi h rfl Q
theorem q_dict_int {g : Cfg} {v : Val} {M : Mem} (h : tyOf g tabC M v = some "dict") (Q : Val → Mem → Prop) : PIsi g tabI tabC "int" Q v M = Q (.bl false) M := w_Isi h rfl Q
theorem q_dict_list {g : Cfg} {v : Val} {M : Mem} (h : tyOf g tabC M v = some "dict") (Q : Val → Mem → Prop) : PIsi g tabI tabC "list" Q v M = Q (.bl false) M := w_Isi h rfl Q
theorem q_dict_str {g : Cfg} {v : Val} {M : Mem} (h : tyOf g tabC M v = some "dict") (Q : Val → Mem → Prop) : PIsi g tabI tabC "str" Q v M = Q (.bl false) M := w_Isi h rfl Q
theorem q_dict_tuple {g : Cfg} {v : Val} {M : Mem} (h : tyOf g tabC M v = some "dict") (Q : Val → Mem → Prop) : PIsi g tabI tabC "tuple" Q v M = Q (.bl false) M := w_Isi h rfl Q
theorem oks : ∀ (i : Nat) (d : FD), lw.fds[i]? = some d → FDok lw d
  | 0, _, h => by cases h; exact ok_made_of
  | 1, _, h => by cases h; exact ok_is_name
  | 2, _, h => by cases h; exact ok_number_of
  | 3, _, h => by cases h; exact ok_thing_of
  | 4, _, h => by cases h; exact ok_value_of
  | 5, _, h => by cases h; exact ok_value_shown
  | 6, _, h => by cases h; exact ok_names_in
  | 7, _, h => by cases h; exact ok__law_cell_at
  | 8, _, h => by cases h; exact ok__law_mix
  | 9, _, h => by cases h; exact ok__law_name
  | 10, _, h => by cases h; exact ok__law_thing
  | 11, _, h => by cases h; exact ok__law_words
  | 12, _, h => by cases h; exact ok__law_named
  | 13, _, h => by cases h; exact ok__law_read
  | 14, _, h => by cases h; exact ok__law_due
  | 15, _, h => by cases h; exact ok__law_alike
  | 16, _, h => by cases h; exact ok__law_holds
  | 17, _, h => by cases h; exact ok_law
  | i + 18, d, h => by cases h
end Q11

namespace Q11
open PySem PySem.Spec
open PyProof.Rows L2 Pa
variable {g : Cfg}
abbrev letL : List Nat := [97, 98, 99, 100, 101, 102, 103, 104, 105, 106, 107, 108, 109, 110, 111, 112, 113, 114, 115, 116, 117, 118, 119, 120, 121, 122]
abbrev figL : List Nat := [48, 49, 50, 51, 52, 53, 54, 55, 56, 57]
def allIn (w s : List Nat) : Bool := w.all fun c => decide (c ∈ s)
theorem take_all {p : Nat → Bool} {w : List Nat} {j : Nat} (h : (w.take j).all p = true) {c : Nat} (hc : w[j]? = some c) : (w.take (j + 1)).all p = p c := by
  rw [List.take_add_one, hc, List.all_append, h]
  simp
theorem made (n : Nat) (w s : List Nat) (M : Mem) : cal g lw.fds (n + 1) 0 [.str w, .str s] M = .ok (.bl (allIn w s)) M := ev_eq (by
  simp [c_made_of, d_made_of]
  refine forL_ev (fun j L N => (∃ o, L = [some (.str w), some (.str s), o]) ∧ N = M ∧ allIn (w.take j) s = true) ⟨⟨_, rfl⟩, rfl, rfl⟩ (fun j L N _ hj ⟨⟨o, hL⟩, hN, h⟩ => ?_) (fun L N ⟨⟨o, hL⟩, hN, h⟩ => ?_)
  · subst hL hN
    have hj' : j < w.length := by omega
    have e : w[j]? = some w[j] := List.getElem?_eq_getElem hj'
    simp only [w_ys]
    refine ⟨_, e, ?_⟩
    have t : allIn (w.take (j + 1)) s = decide (w[j] ∈ s) := take_all h e
    by_cases hm : w[j] ∈ s
    · simp [oIn, sIn, hm, t]
    · have : allIn w s = false := by
        unfold allIn
        simp
        exact ⟨w[j], List.getElem_mem hj', hm⟩
      simp [oIn, sIn, hm, this]
  · subst hL hN
    rw [Nat.zero_add, List.take_length] at h
    simp [h])
def isN (w : List Nat) : Bool := decide (1 ≤ w.length ∧ w.length ≤ 8) && allIn w letL
def isF (w : List Nat) : Bool := decide (1 ≤ w.length ∧ w.length ≤ 12) && (allIn w figL && !(decide (w.head? = some 48) && decide (1 < w.length)))
theorem named (n : Nat) (w : List Nat) (M : Mem) (h : w.length ≤ 1000000) : cal g lw.fds (n + 2) 1 [.str w] M = .ok (.bl (isN w)) M := ev_eq (by
  simp [c_is_name, d_is_name, h, made]
  unfold isN
  by_cases e1 : 1 ≤ w.length
  · by_cases e2 : w.length ≤ 8
    · have e3 : (w.length : Int) ≤ 8 := by omega
      have e4 : 1 ≤ (w.length : Int) := by omega
      have e5 : ¬ 8 < (w.length : Int) := by omega
      have e6 : ¬ (w.length : Int) < 1 := by omega
      simp [e1, e2, e3, e4, e5, e6]
    · have e3 : ¬ (w.length : Int) ≤ 8 := by omega
      simp [e1, e2, e3]
  · have e3 : ¬ 1 ≤ (w.length : Int) := by omega
    simp [e1, e3])
theorem at_head {w : List Nat} {c : Nat} (h : w.head? = some c) : atI w 0 = some c := by
  cases w with
  | nil => cases h
  | cons a w => cases h; simp
theorem dig_of {w : List Nat} (h : allIn w figL = true) : digits w = true := by
  unfold allIn at h
  unfold digits
  rw [List.all_eq_true] at h ⊢
  intro c hc
  have := of_decide_eq_true (h c hc)
  simp [figL] at this
  simp
  omega
theorem number (n : Nat) (w : List Nat) (M : Mem) (h : w.length ≤ 1000000) : cal g lw.fds (n + 2) 2 [.str w] M = .ok (if isF w = true then .int (NumText.digitsVal w : Nat) else .non) M := ev_eq (by
  unfold isF
  by_cases e1 : 1 ≤ w.length
  · by_cases e2 : w.length ≤ 12
    · have e3 : (w.length : Int) ≤ 12 := by omega
      have e4 : 1 ≤ (w.length : Int) := by omega
      cases e5 : allIn w figL
      · simp [c_number_of, d_number_of, h, made, e1, e2, e3, e4, e5]
      · obtain ⟨c, hc⟩ : ∃ c, w.head? = some c := by
          cases w with
          | nil => simp at e1
          | cons a w => exact ⟨a, rfl⟩
        have hi := w_ixs (g := g) (M := M) h (at_head hc)
        have hd := dig_of e5
        have hn : w ≠ [] := by rintro rfl; cases hc
        have hl : w.length ≤ 640 := by omega
        have e6 : (1 < (w.length : Int)) ↔ 1 < w.length := by omega
        by_cases c0 : c = 48
        · subst c0
          by_cases c1 : 1 < w.length
          · have c2 : 1 < (w.length : Int) := by omega
            simp [c_number_of, d_number_of, h, made, e1, e2, e3, e4, e5, hi, hc, c1, c2]
          · have c2 : ¬ 1 < (w.length : Int) := by omega
            simp [c_number_of, d_number_of, h, made, e1, e2, e3, e4, e5, hi, hc, c1, c2, bInt, hd, hn, hl]
        · simp [c_number_of, d_number_of, h, made, e1, e2, e3, e4, e5, hi, hc, c0, bInt, hd, hn, hl]
    · have e3 : ¬ (w.length : Int) ≤ 12 := by omega
      have e4 : 1 ≤ (w.length : Int) := by omega
      simp [c_number_of, d_number_of, h, made, e1, e2, e3, e4]
  · have e3 : ¬ 1 ≤ (w.length : Int) := by omega
    simp [c_number_of, d_number_of, h, made, e1, e3])
theorem thing (n : Nat) (w : List Nat) (M : Mem) (h : w.length ≤ 1000000) : cal g lw.fds (n + 3) 3 [.str w] M = .ok (if isF w = true then .int (NumText.digitsVal w : Nat) else if isN w = true then .str w else .non) M := ev_eq (by
  cases e1 : isF w <;> cases e2 : isN w <;> simp [c_thing_of, d_thing_of, number, named, h, e1, e2])
theorem all_map (w s : List Nat) : (w.map fun c => decide (c ∈ s)).all id = allIn w s := by
  unfold allIn
  rw [List.all_map]; rfl
theorem allc {L : Pa.Loc} (M : Mem) (w s : List Nat) (Q : Val → Mem → Prop) (h : w.length ≤ 1000000) (hq : ∀ X, Q (.bl (allIn w s)) (M ++ X)) : PCmp g (tNm 1) cYes (dB (oIn g false) (dV 1) (dC (.str s))) [1] [some (.str w), none] (PaC1 aNil L (PdF (bAll g) Q)) (.str w) M := by
  refine comp_str (fun c => some (.bl (decide (c ∈ s)))) h (fun x M' hx x2 => ?_) fun X => ?_
  · simp [wipeL, oIn, sIn, Xt.refl]
  · rw [fm_map]
    have e := w_all (g := g) (M := M ++ Ob.lst (w.map fun x => Val.bl (decide (x ∈ s))) :: X) (lst_at0 g M X _) (bls_map _ _)
    rw [all_map] at e
    simp [e]
    exact hq _
theorem lnamed (n : Nat) (w : List Nat) (M : Mem) (h : w.length ≤ 1000000) : Ev (cal g lw.fds (n + 1) 12 [.str w] M) fun v M' => v = .bl (isN w) ∧ Xt M M' := by
  unfold isN
  by_cases e1 : 1 ≤ w.length
  · by_cases e2 : w.length ≤ 8
    · have e3 : ¬ 8 < (w.length : Int) := by omega
      have e4 : ¬ (w.length : Int) < 1 := by omega
      simp [c__law_named, d__law_named, h, e1, e2, e3, e4]
      exact allc M w letL _ h fun X => ⟨rfl, Xt.app⟩
    · have e3 : 8 < (w.length : Int) := by omega
      have e4 : ¬ (w.length : Int) < 1 := by omega
      simp [c__law_named, d__law_named, h, e1, e2, e3, e4, Xt.refl]
  · have e4 : (w.length : Int) < 1 := by omega
    simp [c__law_named, d__law_named, h, e1, e4, Xt.refl]
def ce (ns : List Int) (k : Nat) : Int := if k < ns.length then ns.getD k 0 else
  ((if ns = [] then 0 else ns.getD (k % ns.length) 0) % 1000003 + 104729 * k + 13) * 48271 % 2147483647
theorem cell_at (n k : Nat) {ns : List Int} {sv : Val} {M : Mem} (h : Scr g ns sv M) : Ev (cal g lw.fds (n + 1) 7 [sv, .int k] M) fun v M' => v = .int (ce ns k) ∧ Xt M M' := by
  have hk0 : ¬ (k : Int) < 0 := by omega
  unfold ce
  by_cases hk : k < ns.length
  · have e : (ns.map Val.int)[k]? = some (.int ns[k]) := by simp [hk]
    simp [c__law_cell_at, d__law_cell_at, w_len h.lst, w_ix h.lst (at_nat e), hk, Xt.refl]
  · have l : lstOf g (M ++ [.lst []]) sv = some (ns.map .int) := lst_app h.lst
    by_cases hz : ns = []
    · subst hz
      simp [c__law_cell_at, d__law_cell_at, w_len h.lst, hk, w_neL l (lst_at0 g M [] []) rfl rfl, Xt, hk0]
    · have l0 : 0 < ns.length := List.length_pos_iff.mpr hz
      have m1 : k % ns.length < ns.length := Nat.mod_lt _ l0
      have e : (ns.map Val.int)[k % ns.length]? = some (.int ns[k % ns.length]) := by simp [m1]
      have e2 := w_ix l (at_nat e)
      have hi : intsOf (ns.map Val.int) = some ns := by simpa using ints_map id ns
      have l1 : 0 < (ns.length : Int) := by omega
      have e3 : ((k % ns.length : Nat) : Int) = (k : Int) % ns.length := by simp
      rw [e3] at e2
      simp [c__law_cell_at, d__law_cell_at, w_len h.lst, hk, w_neL l (lst_at0 g M [] []) hi rfl, Xt, hz, w_len l, e2, l1, l0, m1]
def dvs (d : Int) : Nat → Int
  | 0 => d
  | j + 1 => dvs d j / 1000000000000000
def mx (c k : Int) : Int := if c % 2 = 1 ∧ 1000000000000 < c ∧ 0 < dvs (c / 2) k.toNat then dvs (c / 2) k.toNat % 1000000000000000 else
  (c % 1000003 + 17) * (k * k + 7919) % 2147483647 * ((c % 1000003 + 17) * (k * k + 7919) % 2147483647 % 65521 + 48271) % 2147483647
theorem mx0 (c k : Int) : 0 ≤ mx c k := by
  unfold mx
  split <;> omega
theorem mix (n : Nat) (c k : Int) (h0 : 0 ≤ k) (hk : k < 1000) (M : Mem) : cal g lw.fds (n + 1) 8 [.int c, .int k] M = .ok (.int (mx c k)) M := ev_eq (by
  have hk2 : -18446744073709551616 < k ∧ k < 18446744073709551616 := by omega
  have hk3 : 0 ≤ k * k ∧ k * k < 1000000 := by
    constructor
    · exact Int.mul_nonneg (by omega) (by omega)
    · have : k * k ≤ 999 * 999 := Int.mul_le_mul (by omega) (by omega) (by omega) (by omega)
      omega
  have b1 : (-18446744073709551616 < c % 1000003 + 17 ∧ c % 1000003 + 17 < 18446744073709551616) := by omega
  have b2 : ∀ z : Int, (-18446744073709551616 < z % 65521 + 48271 ∧ z % 65521 + 48271 < 18446744073709551616) := by omega
  have b5 : -1000000 ≤ k ∧ k ≤ 1000000 := by omega
  by_cases e1 : c % 2 = 1
  · by_cases e2 : 1000000000000 < c
    · simp [c__law_mix, d__law_mix, e1, e2, b5]
      refine forL_ev (fun j L N => N = M ∧ ∃ (o : Option Val), L = [some (.int c), some (.int k), some (.int (dvs (c / 2) j)), o, none]) ⟨rfl, _, rfl⟩ (fun j L N _ hj ⟨hN, o, hL⟩ => ?_) (fun L N ⟨hN, o, hL⟩ => ?_)
      · subst hN hL
        simp [dvs]
      · subst hN hL
        rw [Nat.zero_add]
        unfold mx
        generalize dvs (c / 2) k.toNat = d
        by_cases e3 : 0 < d
        · simp [e1, e2, e3]
        · simp [hk2, b1, b2, e1, e2, e3]
    · simp [c__law_mix, d__law_mix, hk2, b1, b2, e1, e2, mx]
  · simp [c__law_mix, d__law_mix, hk2, b1, b2, e1, mx])
/-! figures of numbers -/
theorem num_len {n : Nat} : ∀ k : Nat, 10 ^ k ≤ n → k < (TL.numL n).length
  | 0, h => List.length_pos_iff.mpr (TL.numL_ne n)
  | k + 1, h => by
    have h10 : 10 ≤ n := Nat.le_trans (by have := Nat.one_le_pow k 10 (by decide); omega) h
    rw [TL.numL_step h10, List.length_append]
    have := num_len (n := n / 10) k (by rw [Nat.le_div_iff_mul_le (by decide)]; rw [Nat.pow_succ] at h; exact h)
    simp
    omega
theorem num_head (n : Nat) (h : 0 < n) : ∃ c cs, TL.numL n = c :: cs ∧ c ≠ 48 := by
  by_cases h10 : 10 ≤ n
  · obtain ⟨c, cs, e, hc⟩ := num_head (n / 10) (by omega)
    exact ⟨c, cs ++ [48 + n % 10], by rw [TL.numL_step h10, e]; rfl, hc⟩
  · exact ⟨48 + n, [], TL.numL_lt (by omega), by omega⟩
theorem num_fig (n : Nat) : allIn (TL.numL n) figL = true := by
  unfold allIn
  rw [List.all_eq_true]
  intro c hc
  have := TL.numL_digits n c hc
  simp
  omega
/-- a word that is drawn: short, of plain signs -/
def Wd (w : List Nat) : Prop := w.length ≤ 20 ∧ ∀ c ∈ w, c < 200
theorem name_ (n : Nat) (a : Int) (M : Mem) : Ev (cal g lw.fds (n + 1) 9 [.int a] M) fun v M' => (∃ s : List Nat, v = .str s ∧ Wd s) ∧ Xt M M' := by
  have i8 : 0 ≤ a / 4 % 8 ∧ a / 4 % 8 < 8 := by omega
  have i2 : a / 32 % 2 = 0 ∨ a / 32 % 2 = 1 := by omega
  by_cases e : a % 4 = 1
  · obtain ⟨x, ex, hx⟩ := atI_ex (xs := [Val.str [97, 116], .str [111, 118, 101, 114], .str [114, 101, 115, 116], .str [115, 101, 116], .str [98, 121], .str [105, 100, 108, 101], .str [109, 97, 105, 110], .str [101, 110, 100]]) i8.1 (by simpa using i8.2)
    simp [c__law_name, d__law_name, e, ex, Xt]
    simp at hx
    rcases hx with rfl | rfl | rfl | rfl | rfl | rfl | rfl | rfl <;> simp [Wd]
  · obtain ⟨m, em, m0, m1, m2⟩ : ∃ m : Int, atI [Val.int 26, .int 2] (a / 32 % 2) = some (.int m) ∧ 0 < m ∧ m ≤ 26 ∧ m < 18446744073709551616 := by
      rcases i2 with e | e <;> rw [e]
      · exact ⟨26, at_lit0 _ _, by decide, by decide, by decide⟩
      · exact ⟨2, at_lit1 _ _ _, by decide, by decide, by decide⟩
    have b1 : -1000000 ≤ 1 + a / 4 % 8 ∧ 1 + a / 4 % 8 ≤ 1000000 := by omega
    simp [c__law_name, d__law_name, e, b1]
    refine forL_ev (fun j L N => Xt M N ∧ ∃ (s : List Nat) (r : Int) (o : Option Val) (u : Val), s.length = j ∧ (∀ c ∈ s, c < 200) ∧ L = [some (.int a), some u, some (.str letL), some (.str s), some (.int r), o]) ⟨Xt.app, [], _, _, _, rfl, (fun c hc => by cases hc), rfl⟩ (fun j L N _ hj ⟨hN, s, r, o, u, hs, hc, hL⟩ => ?_) (fun L N ⟨hN, s, r, o, u, hs, hc, hL⟩ => ?_)
    · subst hL
      have h1 : 0 ≤ r % m := Int.emod_nonneg _ (by omega)
      have h2 : r % m < m := Int.emod_lt_of_pos _ m0
      obtain ⟨x, ex, hx⟩ := atI_ex (xs := letL) h1 (by simp; omega)
      have ix := fun M => w_ixs (g := g) (M := M) (by decide) ex
      try simp at ix
      have h4 : s.length + 1 ≤ 1000000 := by omega
      simp [em, m0, m2, ix, h4]
      refine ⟨hN.trans Xt.app, by omega, fun c hm => ?_⟩
      rcases hm with hm | rfl
      · exact hc c hm
      · simp at hx
        omega
    · subst hL
      simp [Wd]
      exact ⟨⟨by omega, hc⟩, hN⟩
theorem thing_ (n : Nat) (a : Int) (h0 : 0 ≤ a) (M : Mem) : Ev (cal g lw.fds (n + 2) 10 [.int a] M) fun v M' => (∃ s : List Nat, v = .str s ∧ Wd s) ∧ Xt M M' := by
  by_cases e : a % 12 = 0
  · have i8 : 0 ≤ a / 12 % 8 ∧ a / 12 % 8 < 8 := by omega
    obtain ⟨x, ex, hx⟩ := atI_ex (xs := [Val.str [], .str [65], .str [48, 49], .str [49, 48, 48, 48, 48, 48, 48, 48, 48, 48, 48, 48, 48], .str [97, 98, 99, 100, 101, 102, 103, 104, 105], .str [45, 49], .str [97, 49], .str [43]]) i8.1 (by simpa using i8.2)
    simp [c__law_thing, d__law_thing, e, ex, Xt]
    simp at hx
    rcases hx with rfl | rfl | rfl | rfl | rfl | rfl | rfl | rfl <;> simp [Wd]
  · by_cases e3 : a % 3 = 1
    · obtain ⟨m, em, m0, m1⟩ : ∃ m : Int, atI [Val.int 1000000000000, .int 12] (a / 12 % 2) = some (.int m) ∧ 0 < m ∧ m ≤ 1000000000000 := by
        have i2 : a / 12 % 2 = 0 ∨ a / 12 % 2 = 1 := by omega
        rcases i2 with e | e <;> rw [e]
        · exact ⟨_, at_lit0 _ _, by decide, by decide⟩
        · exact ⟨_, at_lit1 _ _ _, by decide, by decide⟩
      have h1 : 0 ≤ a / 12 * 48271 % m := Int.emod_nonneg _ (by omega)
      have h2 : a / 12 * 48271 % m < m := Int.emod_lt_of_pos _ m0
      have h3 : a / 12 * 48271 % m < 18446744073709551616 := by omega
      have hl := TL.numL_len (n := (a / 12 * 48271 % m).toNat) (k := 12) (by decide) (by omega)
      simp [c__law_thing, d__law_thing, e, e3, em, m0, bStr, h1, h3, Xt]
      refine ⟨by omega, fun c hc => ?_⟩
      have := TL.numL_digits _ c hc
      omega
    · simp [c__law_thing, d__law_thing, e, e3]
      exact name_ n _ M
def Res (M : Mem) (v : Val) (M' : Mem) : Prop := (∃ (a : Nat) (ws : List (List Nat)), v = .ref a ∧ M'[a]? = some (.lst (ws.map .str)) ∧ ws.length ≤ 4 ∧ ∀ w ∈ ws, Wd w) ∧ Xt M M'
theorem words_ (n : Nat) (c : Int) (M : Mem) : Ev (cal g lw.fds (n + 3) 11 [.int c] M) (Res M) := by
  have z2 := mx0 c 2
  have z3 := mx0 c 3
  simp [c__law_words, d__law_words, mix]
  refine Ev.mono (thing_ n _ z2 M) fun v M1 ⟨⟨s, hv, hs⟩, x1⟩ => ?_
  subst hv
  simp [mix]
  refine Ev.mono (thing_ n _ z3 M1) fun v M2 ⟨⟨t, hv, ht⟩, x2⟩ => ?_
  subst hv
  have x := x1.trans x2
  have fin1 : ∀ (ws : List (List Nat)) (X : Mem) (k : Nat), ws.length ≤ 4 → (∀ w ∈ ws, Wd w) → X[k]? = some (.lst (ws.map .str)) → Res M (.ref (M2.length + k)) (M2 ++ X) := fun ws X k h1 h2 h3 => ⟨⟨_, ws, rfl, by rw [get_at]; exact h3, h1, h2⟩, x.trans Xt.app⟩
  have fin0 : ∀ (ws : List (List Nat)) (X : Mem), ws.length ≤ 4 → (∀ w ∈ ws, Wd w) → X[0]? = some (.lst (ws.map .str)) → Res M (.ref M2.length) (M2 ++ X) := fun ws X h1 h2 h3 => fin1 ws X 0 h1 h2 h3
  have i7 : 0 ≤ mx c 5 % 7 ∧ mx c 5 % 7 < 7 := by omega
  have i8 : 0 ≤ mx c 5 % 8 ∧ mx c 5 % 8 < 8 := by omega
  have i4 : mx c 5 % 4 = 0 ∨ mx c 5 % 4 = 1 ∨ mx c 5 % 4 = 2 ∨ mx c 5 % 4 = 3 := by omega
  obtain ⟨b, eb, hb0⟩ := atI_ex (xs := [Val.str [43], .str [45], .str [42], .str [111, 118, 101, 114], .str [114, 101, 115, 116], .str [60], .str [61]]) i7.1 (by simpa using i7.2)
  obtain ⟨d, ed, hd0⟩ := atI_ex (xs := [Val.str [62], .str [], .str [98, 121], .str [65, 84], .str [97, 110, 100], .str [43, 43], .str [48], .str [97]]) i8.1 (by simpa using i8.2)
  obtain ⟨b, rfl, hb⟩ : ∃ y : List Nat, b = .str y ∧ Wd y := by
    simp at hb0
    rcases hb0 with rfl | rfl | rfl | rfl | rfl | rfl | rfl <;> exact ⟨_, rfl, by simp [Wd]⟩
  obtain ⟨d, rfl, hd⟩ : ∃ y : List Nat, d = .str y ∧ Wd y := by
    simp at hd0
    rcases hd0 with rfl | rfl | rfl | rfl | rfl | rfl | rfl | rfl <;> exact ⟨_, rfl, by simp [Wd]⟩
  have w43 : Wd [43] := by simp [Wd]
  have w97 : Wd [97, 116] := by simp [Wd]
  simp [mix]
  have key : ∀ u : List Nat, Wd u → Ev ((xSeq (xIf (dB cLt (dV 1) (dC (.int 2))) (xRet (dLst (aCons (dV 2) (aNil)))) (xSkip))
      (xSeq (xIf (dB cLt (dV 1) (dC (.int 8))) (xRet (dLst (aCons (dV 2) (aCons (dB (oIx g) (dLst (aCons (dC (.str [43])) (aCons (dC (.str [45])) (aCons (dC (.str [42])) (aCons (dC (.str [111, 118, 101, 114])) (aCons (dC (.str [114, 101, 115, 116])) (aCons (dC (.str [60])) (aCons (dC (.str [61])) (aNil))))))))) (dB oMod (dArg 2 [] (cal g lw.fds (n + 2) 8) (aCons (dV 0) (aCons (dC (.int 5)) (aNil)))) (dC (.int 7)))) (aCons (dV 3) (aNil)))))) (xSkip))
      (xSeq (xIf (dB cLt (dV 1) (dC (.int 10))) (xRet (dLst (aCons (dV 2) (aCons (dC (.str [97, 116])) (aCons (dV 3) (aNil)))))) (xSkip))
      (xSeq (xIf (dB (oEq g) (dV 1) (dC (.int 10))) (xRet (dLst (aCons (dV 2) (aCons (dB (oIx g) (dLst (aCons (dC (.str [62])) (aCons (dC (.str [])) (aCons (dC (.str [98, 121])) (aCons (dC (.str [65, 84])) (aCons (dC (.str [97, 110, 100])) (aCons (dC (.str [43, 43])) (aCons (dC (.str [48])) (aCons (dC (.str [97])) (aNil)))))))))) (dB oMod (dArg 2 [] (cal g lw.fds (n + 2) 8) (aCons (dV 0) (aCons (dC (.int 5)) (aNil)))) (dC (.int 8)))) (aCons (dV 3) (aNil)))))) (xSkip))
      (xRet (dB (oIx g) (dLst (aCons (dLst (aNil)) (aCons (dLst (aCons (dV 2) (aCons (dC (.str [43])) (aNil)))) (aCons (dLst (aCons (dV 2) (aCons (dC (.str [43])) (aCons (dV 3) (aCons (dC (.str [43])) (aNil)))))) (aCons (dLst (aCons (dV 2) (aCons (dV 3) (aNil)))) (aNil)))))) (dB oMod (dArg 2 [] (cal g lw.fds (n + 2) 8) (aCons (dV 0) (aCons (dC (.int 5)) (aNil)))) (dC (.int 4)))))))))
      [some (.int c), some (.int (mx c 1 % 12)), some (.str s), some (.str u)] M2) (PRun (Res M)) := fun u hu => by
    by_cases e1 : mx c 1 % 12 < 2
    · simp [e1]
      exact fin0 [s] _ (by simp) (by simp [hs]) rfl
    by_cases e2 : mx c 1 % 12 < 8
    · simp [e1, e2, mix, eb]
      exact fin1 [s, b, u] _ 1 (by simp) (by simp [hs, hb, hu]) rfl
    by_cases e3 : mx c 1 % 12 < 10
    · simp [e1, e2, e3]
      exact fin0 [s, [97, 116], u] _ (by simp) (by simp [hs, w97, hu]) rfl
    by_cases e4 : mx c 1 % 12 = 10
    · simp [e4, mix, ed]
      exact fin1 [s, d, u] _ 1 (by simp) (by simp [hs, hd, hu]) rfl
    simp [e1, e2, e3, e4, mix]
    rcases i4 with e | e | e | e
    · simp [e]
      exact fin0 [] _ (by simp) (by simp) rfl
    · simp [e]
      exact fin1 [s, [43]] _ 1 (by simp) (by simp [hs, w43]) rfl
    · simp [e]
      exact fin1 [s, [43], u, [43]] _ 2 (by simp) (by simp [hs, w43, hu]) rfl
    · simp [e]
      exact fin1 [s, u] _ 3 (by simp) (by simp [hs, hu]) rfl
  have k1 := key s hs
  have k2 := key t ht
  simp [mix] at k1 k2
  exact ⟨fun _ => k1, fun _ => k2⟩
def th (w : List Nat) : Val := if isF w = true then .int (NumText.digitsVal w : Nat) else if isN w = true then .str w else .non
theorem thing2 (n : Nat) (w : List Nat) (M : Mem) (h : w.length ≤ 1000000) : cal g lw.fds (n + 3) 3 [.str w] M = .ok (th w) M := thing n w M h
abbrev btw : List (List Nat) := [[43], [45], [42], [111, 118, 101, 114], [114, 101, 115, 116], [60], [61]]
def isB (b : List Nat) : Bool := decide (b ∈ btw)
def vo : List (List Nat) → Option (List Val)
  | [a] => if th a = .non then none else some [th a]
  | [a, b, c] => if th a = .non ∨ th c = .non then none else if isB b = true ∨ (b = [97, 116] ∧ isN a = true) then some [th a, .str b, th c] else none
  | _ => none
def Vr (o : Option (List Val)) (M : Mem) (v : Val) (M' : Mem) : Prop := (match o with
  | none => v = .non
  | some xs => ∃ a, v = .ref a ∧ M'[a]? = some (.tup xs)) ∧ Xt M M'
theorem in_btw (hb : g.con 1 = some (false, btw.map .str)) (b : List Nat) (M : Mem) : oIn g false (.str b) (.con 1) M = .ok (.bl (isB b)) M := by
  have h0 : lstOf g M (.con 1) = none := by simp only [lstOf, hb]
  have h1 : tupOf g M (.con 1) = some (btw.map .str) := by simp only [tupOf, hb]
  rw [w_in (seq_tup h0 h1) rfl (by simp)]
  unfold isB
  simp [eq_comm]
theorem Wd.le {w : List Nat} (h : Wd w) : w.length ≤ 1000000 := by have := h.1; omega
theorem vr_none {M : Mem} : Vr none M .non M := ⟨rfl, Xt.refl⟩
theorem vr_some {M : Mem} {xs : List Val} : Vr (some xs) M (.ref M.length) (M ++ [.tup xs]) := ⟨⟨_, rfl, by simp⟩, Xt.app⟩
theorem value (hb : g.con 1 = some (false, btw.map .str)) (n : Nat) (v : Val) (ws : List (List Nat)) (M : Mem) (h : lstOf g M v = some (ws.map .str)) (hl : ws.length ≤ 4) (hw : ∀ w ∈ ws, Wd w) : Ev (cal g lw.fds (n + 4) 4 [v] M) (Vr (vo ws) M) := by
  match ws, hl with
  | [], _ => simp [c_value_of, d_value_of, w_len h, vo, vr_none]
  | [a], _ =>
    have ha := (hw a (by simp)).le
    have i0 : oIx g v (.int 0) M = .ok (.str a) M := w_ix h (by simp)
    by_cases e : th a = .non
    · simp [c_value_of, d_value_of, w_len h, vo, vr_none, i0, thing2, ha, e]
    · simp [c_value_of, d_value_of, w_len h, vo, i0, thing2, ha, e, vr_some]
  | [a, b], _ => simp [c_value_of, d_value_of, w_len h, vo, vr_none]
  | [a, b, c], _ =>
    have ha := (hw a (by simp)).le
    have hc := (hw c (by simp)).le
    have i0 : oIx g v (.int 0) M = .ok (.str a) M := w_ix h (by simp)
    have i1 : oIx g v (.int 1) M = .ok (.str b) M := w_ix h (by simp)
    have i2 : oIx g v (.int 2) M = .ok (.str c) M := w_ix h (by simp)
    by_cases e : th a = .non
    · simp [c_value_of, d_value_of, w_len h, vo, vr_none, i0, i2, thing2, ha, hc, e]
    by_cases e2 : th c = .non
    · simp [c_value_of, d_value_of, w_len h, vo, vr_none, i0, i2, thing2, ha, hc, e, e2]
    by_cases e3 : isB b = true
    · simp [c_value_of, d_value_of, w_len h, vo, i0, i1, i2, thing2, ha, hc, e, e2, in_btw hb, e3, vr_some]
    by_cases e4 : b = [97, 116]
    · subst e4
      by_cases e5 : isN a = true
      · simp [c_value_of, d_value_of, w_len h, vo, i0, i1, i2, thing2, ha, hc, e, e2, in_btw hb, e3, named, e5, vr_some]
      · simp [c_value_of, d_value_of, w_len h, vo, i0, i1, i2, thing2, ha, hc, e, e2, in_btw hb, e3, named, e5, vr_none]
    · simp [c_value_of, d_value_of, w_len h, vo, i0, i1, i2, thing2, ha, hc, e, e2, in_btw hb, e3, e4, vr_none]
  | [a, b, c, d], _ => simp [c_value_of, d_value_of, w_len h, vo, vr_none]
theorem read (n : Nat) (w : List Nat) (M : Mem) (h : w.length ≤ 1000000) : Ev (cal g lw.fds (n + 2) 13 [.str w] M) fun v M' => v = th w ∧ Xt M M' := by
  have fin2 : ∀ M', Xt M M' → isF w = false → ∀ (v : Val) (M'' : Mem), (v = .bl (isN w) ∧ Xt M' M'') → (isN w = true → (Val.str w = th w ∧ Xt M M'')) ∧ (isN w = false → (Val.non = th w ∧ Xt M M'')) := fun M' x hF v M'' hv => by
    unfold th
    constructor <;> intro e <;> simp [hF, e, x.trans hv.2]
  by_cases e1 : 1 ≤ w.length
  · have e1' : 1 ≤ (w.length : Int) := by omega
    by_cases e2 : w.length ≤ 12
    · have e2' : (w.length : Int) ≤ 12 := by omega
      simp [c__law_read, d__law_read, h, e1, e2, e1', e2']
      refine allc M w figL _ h fun X => ?_
      cases e3 : allIn w figL
      · have hF : isF w = false := by simp [isF, e3]
        simp
        refine Ev.mono (lnamed n w _ h) fun v M'' hv => ?_
        have z := fin2 _ Xt.app hF v M'' hv
        obtain ⟨rfl, x⟩ := hv
        simp
        exact z
      · obtain ⟨c, hc⟩ : ∃ c, w.head? = some c := by
          cases w with
          | nil => simp at e1
          | cons a w => exact ⟨a, rfl⟩
        have hi := fun M => w_ixs (g := g) (M := M) h (at_head hc)
        have hd := dig_of e3
        have hn : w ≠ [] := by rintro rfl; cases hc
        have hl : w.length ≤ 640 := by omega
        by_cases c0 : c = 48
        · subst c0
          by_cases c1 : w.length = 1
          · have hF : isF w = true := by simp [isF, e3, c1, hc]
            simp [hi, c1, bInt, hd, hn, th, hF, Xt]
          · have c2 : 1 < w.length := by omega
            have c3 : ¬ (w.length : Int) = 1 := by omega
            have hF : isF w = false := by simp [isF, e3, c2, hc]
            simp [hi, c1, c3, h]
            refine Ev.mono (lnamed n w _ h) fun v M'' hv => ?_
            have z := fin2 _ Xt.app hF v M'' hv
            obtain ⟨rfl, x⟩ := hv
            simp
            exact z
        · have hF : isF w = true := by simp [isF, e3, c0, hc]; omega
          simp [hi, c0, bInt, hd, hn, hl, th, hF, Xt]
    · have e2' : ¬ (w.length : Int) ≤ 12 := by omega
      have hF : isF w = false := by simp [isF, e2]
      simp [c__law_read, d__law_read, h, e1, e2, e1', e2']
      refine Ev.mono (lnamed n w _ h) fun v M'' hv => ?_
      have z := fin2 _ Xt.refl hF v M'' hv
      obtain ⟨rfl, x⟩ := hv
      simp
      exact z
  · have e1' : ¬ 1 ≤ (w.length : Int) := by omega
    have hF : isF w = false := by simp [isF, e1]
    simp [c__law_read, d__law_read, h, e1, e1']
    refine Ev.mono (lnamed n w _ h) fun v M'' hv => ?_
    have z := fin2 _ Xt.refl hF v M'' hv
    obtain ⟨rfl, x⟩ := hv
    simp
    exact z
def isB8 (b : List Nat) : Bool := isB b || decide (b = [97, 116])
theorem due (n : Nat) (v : Val) (ws : List (List Nat)) (M : Mem) (h : lstOf g M v = some (ws.map .str)) (hl : ws.length ≤ 4) (hw : ∀ w ∈ ws, Wd w) : Ev (cal g lw.fds (n + 3) 14 [v] M) (Vr (vo ws) M) := by
  match ws, hl with
  | [], _ => simp [c__law_due, d__law_due, w_len h, vo, Vr, Xt]
  | [a, b], _ => simp [c__law_due, d__law_due, w_len h, vo, Vr, Xt]
  | [a, b, c, d], _ => simp [c__law_due, d__law_due, w_len h, vo, Vr, Xt]
  | [a], _ =>
    have ha := (hw a (by simp)).le
    have hX := fun X => lst_app (X := X) h
    have lX := fun X => w_len (hX X)
    have i0 : ∀ M', Xt M M' → oIx g v (.int 0) M' = .ok (.str a) M' := fun M' x => w_ix (x.lst h) (by simp)
    simp [c__law_due, d__law_due, w_len h, lX]
    refine comp_rng3 (fun _ => some (th a)) (show rcount 0 1 2 ≤ 1000000 by decide) (fun j M' hj x => ?_) fun X => ?_
    · have hj0 : j = 0 := by simp [rcount] at hj; omega
      subst hj0
      simp [wipeL, i0 M' (Xt.app.trans x)]
      refine Ev.mono (read n a _ ha) fun v M'' ⟨hv, x2⟩ => ?_
      subst hv
      simp [x2]
    have er : List.range (rcount 0 1 2) = [0] := rfl
    simp [er]
    refine comp_lst (xs := [th a]) (fun x => some (.bl (decide (x = .non)))) (lst_ref (by simp)) (by simp) (fun x M' hx xx => ?_) fun X => ?_
    · simp [wipeL, Xt.refl]
    by_cases e : th a = .non
    · simp [e, vo, Vr, Xt]
    · simp [e, vo, lX]
      refine ⟨⟨_, rfl, ?_⟩, ?_⟩
      · have := fun Y : Mem => get_at M Y
        simp
      · exact Xt.app
  | [a, b, c], _ =>
    have ha := (hw a (by simp)).le
    have hc := (hw c (by simp)).le
    have hX := fun X => lst_app (X := X) h
    have lX := fun X => w_len (hX X)
    have i0 : ∀ M', Xt M M' → oIx g v (.int 0) M' = .ok (.str a) M' := fun M' x => w_ix (x.lst h) (by simp)
    have i2 : ∀ M', Xt M M' → oIx g v (.int 2) M' = .ok (.str c) M' := fun M' x => w_ix (x.lst h) (by simp)
    have i0X : ∀ X, oIx g v (.int 0) (M ++ X) = .ok (.str a) (M ++ X) := fun X => i0 _ Xt.app
    have i1X : ∀ X, oIx g v (.int 1) (M ++ X) = .ok (.str b) (M ++ X) := fun X => w_ix (lst_app h) (by simp)
    simp [c__law_due, d__law_due, w_len h, lX]
    refine comp_rng3 (fun j => some (if j = 0 then th a else th c)) (show rcount 0 3 2 ≤ 1000000 by decide) (fun j M' hj x => ?_) fun X => ?_
    · have hj0 : j = 0 ∨ j = 1 := by
        have : rcount 0 3 2 = 2 := rfl
        omega
      rcases hj0 with rfl | rfl
      · simp [wipeL, i0 M' (Xt.app.trans x)]
        refine Ev.mono (read n a _ ha) fun v M'' ⟨hv, x2⟩ => ?_
        subst hv
        simp [x2]
      · simp [wipeL, i2 M' (Xt.app.trans x)]
        refine Ev.mono (read n c _ hc) fun v M'' ⟨hv, x2⟩ => ?_
        subst hv
        simp [x2]
    have er : List.range (rcount 0 3 2) = [0, 1] := rfl
    simp [er]
    refine comp_lst (xs := [th a, th c]) (fun x => some (.bl (decide (x = .non)))) (lst_ref (by simp)) (by simp) (fun x M' hx xx => ?_) fun X => ?_
    · simp [wipeL, Xt.refl]
    by_cases e : th a = .non
    · simp [e, vo, Vr, Xt]
    by_cases e2 : th c = .non
    · simp [e, e2, vo, Vr, Xt]
    by_cases e3 : b = [97, 116]
    · subst e3
      have nB : isB [97, 116] = false := by decide
      simp [e, e2, lX, i1X, i0X]
      refine Ev.mono (lnamed _ a _ ha) fun w M2 ⟨hw2, x2⟩ => ?_
      subst hw2
      have y2 : Xt M M2 := Xt.app.trans x2
      by_cases e5 : isN a = true
      · have i1 : ∀ X, oIx g v (.int 1) (M2 ++ X) = .ok (.str [97, 116]) (M2 ++ X) := fun X => w_ix (lst_app (y2.lst h)) (by simp)
        have i1' : oIx g v (.int 1) M2 = .ok (.str [97, 116]) M2 := w_ix (y2.lst h) (by simp)
        have j := x2.get (i := M.length + 1) (o := .lst [th a, th c]) (by simp)
        have j0 : ∀ X, oIx g (.ref (M.length + 1)) (.int 0) (M2 ++ X) = .ok (th a) (M2 ++ X) := fun X => w_ix (lst_ref (get_app j)) (by simp)
        have j1 : ∀ X, oIx g (.ref (M.length + 1)) (.int 1) (M2 ++ X) = .ok (th c) (M2 ++ X) := fun X => w_ix (lst_ref (get_app j)) (by simp)
        simp [e5, i1, i1', j0, j1, vo, e, e2]
        exact ⟨⟨_, rfl, by simp⟩, y2.trans Xt.app⟩
      · simp [e5, vo, e, e2, nB]
        exact ⟨rfl, y2⟩
    · by_cases e4 : isB b = true
      · have vr : vo [a, b, c] = some [th a, .str b, th c] := by simp [vo, e, e2, e4]
        have e5 := e4
        simp [isB] at e5
        simp [e, e2, e3, lX, i1X, i0X, vr]
        rcases e5 with rfl | rfl | rfl | rfl | rfl | rfl | rfl <;> simp <;> exact ⟨⟨_, rfl, by simp⟩, Xt.app⟩
      · have vr : vo [a, b, c] = none := by simp [vo, e, e2, e3, e4]
        have nn : ∀ t : List Nat, isB t = true → ¬ t = b := fun t ht hb => e4 (hb ▸ ht)
        have n8 : ¬ [97, 116] = b := fun h => e3 h.symm
        simp [e, e2, e3, lX, i1X, i0X, vr, nn [43] (by decide), nn [45] (by decide), nn [42] (by decide), nn [111, 118, 101, 114] (by decide), nn [114, 101, 115, 116] (by decide), nn [60] (by decide), nn [61] (by decide), n8]
        exact ⟨rfl, Xt.app⟩
theorem canon : ∀ (n : Nat) (w : List Nat), w.length = n → NumText.AllDigits w → w ≠ [] → (w.length = 1 ∨ w.head? ≠ some 48) → TL.numL (NumText.digitsVal w) = w
  | 0, w, hl, _, hn, _ => absurd (List.length_eq_zero_iff.mp hl) hn
  | n + 1, w, hl, hd, hn, hh => by
    obtain ⟨u, d, rfl⟩ : ∃ u d, w = u ++ [d] := ⟨w.dropLast, w.getLast hn, (List.dropLast_concat_getLast hn).symm⟩
    have hu : u.length = n := by simpa using hl
    have dd := hd d (by simp)
    have e : NumText.digitsVal (u ++ [d]) = NumText.digitsVal u * 10 + (d - 48) := by
      unfold NumText.digitsVal
      rw [List.foldl_append]; rfl
    rw [e]
    by_cases h0 : u = []
    · subst h0
      have : NumText.digitsVal [] * 10 + (d - 48) = d - 48 := by simp [NumText.digitsVal]
      rw [this, TL.numL_lt (by omega)]
      simp
      omega
    · have h1 : 0 < u.length := List.length_pos_iff.mpr h0
      have hh2 : u.head? ≠ some 48 := by
        rcases hh with hh | hh
        · rw [List.length_append, List.length_singleton] at hh
          omega
        · cases u with
          | nil => exact absurd rfl h0
          | cons a u => simpa using hh
      have ih := canon n u hu (fun c hc => hd c (by simp [hc])) h0 (.inr hh2)
      have hp : 1 ≤ NumText.digitsVal u := by
        by_cases hz : NumText.digitsVal u = 0
        · rw [hz, TL.numL_lt (by decide)] at ih
          rw [← ih] at hh2
          exact absurd rfl hh2
        · exact Nat.one_le_iff_ne_zero.mpr hz
      have h10 : 10 ≤ NumText.digitsVal u * 10 + (d - 48) := by omega
      rw [TL.numL_step h10]
      have q1 : (NumText.digitsVal u * 10 + (d - 48)) / 10 = NumText.digitsVal u := by omega
      have q2 : 48 + (NumText.digitsVal u * 10 + (d - 48)) % 10 = d := by omega
      rw [q1, q2, ih]
theorem canonF {w : List Nat} (h : isF w = true) : TL.numL (NumText.digitsVal w) = w := by
  unfold isF at h
  simp only [Bool.and_eq_true, decide_eq_true_eq, Bool.not_eq_true', Bool.and_eq_false_iff, decide_eq_false_iff_not] at h
  obtain ⟨⟨h1, h2⟩, h3, h4⟩ := h
  refine canon _ w rfl (fun c hc => ?_) (by rintro rfl; simp at h1) ?_
  · unfold allIn at h3
    have := of_decide_eq_true (List.all_eq_true.mp h3 c hc)
    simp at this
    omega
  · rcases h4 with h4 | h4
    · exact .inr h4
    · exact .inl (by omega)
theorem fits {w : List Nat} (h : isF w = true) : NumText.digitsVal w < 18446744073709551616 := by
  by_cases hz : 1000000000000 ≤ NumText.digitsVal w
  · have l := num_len (n := NumText.digitsVal w) 12 hz
    rw [canonF h] at l
    unfold isF at h
    simp only [Bool.and_eq_true, decide_eq_true_eq] at h
    omega
  · omega
/-- what a thing is -/
theorem th_is {w : List Nat} (h : th w ≠ .non) : (∃ k : Nat, th w = .int k ∧ TL.numL k = w ∧ k < 18446744073709551616) ∨ th w = .str w := by
  unfold th at h ⊢
  by_cases e : isF w = true
  · exact .inl ⟨_, by simp [e], canonF e, fits e⟩
  · by_cases e2 : isN w = true
    · exact .inr (by simp [e, e2])
    · simp [e, e2] at h
theorem vo_is {ws : List (List Nat)} {xs : List Val} (h : vo ws = some xs) : (∃ a, ws = [a] ∧ xs = [th a] ∧ th a ≠ .non) ∨ ∃ a b c, ws = [a, b, c] ∧ xs = [th a, .str b, th c] ∧ th a ≠ .non ∧ th c ≠ .non := by
  match ws, h with
  | [a], h =>
    simp only [vo] at h
    split at h
    · cases h
    · rename_i e
      cases h
      exact .inl ⟨a, rfl, rfl, e⟩
  | [a, b, c], h =>
    simp only [vo] at h
    split at h
    · cases h
    · rename_i e
      split at h
      · cases h
        exact .inr ⟨a, b, c, rfl, rfl, fun z => e (.inl z), fun z => e (.inr z)⟩
      · cases h
def Is (x : Val) : Prop := (∃ i, x = .int i) ∨ ∃ s, x = .str s
theorem alike (n : Nat) (p q : Nat) (xs : List Val) (M : Mem) (hp : M[p]? = some (.tup xs)) (hq : M[q]? = some (.tup xs)) (hx : ∀ x ∈ xs, Is x) (hl : xs.length ≤ 3) : cal g lw.fds (n + 1) 15 [.ref p, .ref q] M = .ok (.bl true) M := ev_eq (by
  have b : -1000000 ≤ (xs.length : Int) ∧ (xs.length : Int) ≤ 1000000 := by omega
  simp [c__law_alike, d__law_alike, hp, hq, q_tuple_tuple (n_tyt g tabC M p (by simp [hp])), b]
  refine forL_ev (fun j L N => N = M ∧ ∃ o, L = [some (.ref p), some (.ref q), o]) ⟨rfl, _, rfl⟩ (fun j L N _ hj ⟨hN, o, hL⟩ => ?_) (fun L N ⟨hN, o, hL⟩ => ?_)
  · subst hN hL
    have hj' : j < xs.length := by omega
    have e : xs[j]? = some xs[j] := List.getElem?_eq_getElem hj'
    have e2 := at_nat e
    rcases hx _ (List.getElem_mem hj') with ⟨i, hi⟩ | ⟨s, hs⟩
    · rw [hi] at e2
      simp [hp, hq, e2, w_IsiT (g := g) (T := tabI) (cs := tabC) (t := ["int", "str"]) (x := .int i) (M := N) (s := "int") (b := true) rfl rfl]
    · rw [hs] at e2
      simp [hp, hq, e2, w_IsiT (g := g) (T := tabI) (cs := tabC) (t := ["int", "str"]) (x := .str s) (M := N) (s := "str") (b := true) rfl rfl]
  · subst hN hL
    simp)
theorem th_Is {w : List Nat} (h : th w ≠ .non) : Is (th w) := by
  rcases th_is h with ⟨k, e, _⟩ | e
  · exact .inl ⟨_, e⟩
  · exact .inr ⟨_, e⟩
theorem vo_Is {ws : List (List Nat)} {xs : List Val} (h : vo ws = some xs) : (∀ x ∈ xs, Is x) ∧ xs.length ≤ 3 := by
  rcases vo_is h with ⟨a, _, rfl, ha⟩ | ⟨a, b, c, _, rfl, ha, hc⟩
  · refine ⟨fun x hx => ?_, by simp⟩
    simp at hx
    subst hx
    exact th_Is ha
  · refine ⟨fun x hx => ?_, by simp⟩
    simp at hx
    rcases hx with rfl | rfl | rfl
    · exact th_Is ha
    · exact .inr ⟨_, rfl⟩
    · exact th_Is hc
/-- the text of a thing -/
def tx : Val → List Nat
  | .int i => TL.numL i.toNat
  | .str s => s
  | _ => []
theorem tx_th {w : List Nat} (h : th w ≠ .non) : tx (th w) = w := by
  rcases th_is h with ⟨k, e, e2, _⟩ | e
  · rw [e]
    simpa [tx] using e2
  · rw [e]; rfl
theorem vo_tx {ws : List (List Nat)} {xs : List Val} (h : vo ws = some xs) : xs.map tx = ws := by
  rcases vo_is h with ⟨a, rfl, rfl, ha⟩ | ⟨a, b, c, rfl, rfl, ha, hc⟩
  · simp [tx_th ha]
  · simp [tx_th ha, tx_th hc]; rfl
def Small (x : Val) : Prop := (∃ k : Nat, x = .int k ∧ k < 18446744073709551616) ∨ ∃ s, x = .str s
theorem th_Small {w : List Nat} (h : th w ≠ .non) : Small (th w) := by
  rcases th_is h with ⟨k, e, _, e2⟩ | e
  · exact .inl ⟨_, e, e2⟩
  · exact .inr ⟨_, e⟩
theorem vo_Small {ws : List (List Nat)} {xs : List Val} (h : vo ws = some xs) : ∀ x ∈ xs, Small x := by
  rcases vo_is h with ⟨a, _, rfl, ha⟩ | ⟨a, b, c, _, rfl, ha, hc⟩
  · intro x hx
    simp at hx
    subst hx
    exact th_Small ha
  · intro x hx
    simp at hx
    rcases hx with rfl | rfl | rfl
    · exact th_Small ha
    · exact .inr ⟨_, rfl⟩
    · exact th_Small hc
theorem shown (n : Nat) (q : Nat) (xs : List Val) (M : Mem) (hq : M[q]? = some (.tup xs)) (hx : ∀ x ∈ xs, Small x) (hl : xs.length ≤ 3) (hs : ((xs.map tx).map (·.length)).sum ≤ 1000) : Ev (cal g lw.fds (n + 1) 5 [.ref q] M) fun v M' => v = .str (TL.joinL [32] (xs.map tx)) ∧ Xt M M' := by
  simp [c_value_shown, d_value_shown, hq]
  refine comp_tup (xs := xs) (fun x => some (.str (tx x))) (tup_ref hq) (by omega) (fun x M' hm xx => ?_) fun X => ?_
  · rcases hx x hm with ⟨k, rfl, hk⟩ | ⟨s, rfl⟩
    · have h0 : (0 : Int) ≤ k ∧ (k : Int) < 18446744073709551616 := by omega
      simp [wipeL, bStr, h0, tx, Xt.refl]
    · simp [wipeL, bStr, tx, Xt.refl]
  · rw [fm_map]
    have l := lst_at0 g M X (xs.map fun x => Val.str (tx x))
    have s := strs_map tx xs
    simp
    rw [w_join [32] (seq_lst l) s (by simp at hs ⊢; omega)]
    simp
    exact Xt.app
def addN (acc : List (List Nat)) : Val → List (List Nat)
  | .str s => if s ∈ acc then acc else acc ++ [s]
  | _ => acc
def nm : List Val → List (List Nat)
  | [x] => addN [] x
  | [x, _, y] => addN (addN [] x) y
  | _ => []
theorem names (n : Nat) (q : Nat) (xs : List Val) (M : Mem) (hq : M[q]? = some (.tup xs)) (hx : ∀ x ∈ xs, Is x) (h : (∃ x, xs = [x]) ∨ ∃ x y z, xs = [x, y, z]) : Ev (cal g lw.fds (n + 1) 6 [.ref q] M) fun v M' => v = .ref M.length ∧ M' = M ++ [.lst ((nm xs).map .str)] := by
  have hq1 := fun X => get_app (X := X) hq
  rcases h with ⟨x, rfl⟩ | ⟨x, y, z, rfl⟩
  · have r1 : rcount 0 1 2 = 1 := rfl
    rcases hx x (by simp) with ⟨i, rfl⟩ | ⟨s, rfl⟩ <;> simp [c_names_in, d_names_in, hq, hq1, r1, un_S, un_Z, nm, addN]
  · have r1 : rcount 0 3 2 = 2 := rfl
    rcases hx x (by simp) with ⟨i, rfl⟩ | ⟨s, rfl⟩ <;> rcases hx z (by simp) with ⟨j, rfl⟩ | ⟨t, rfl⟩
    · simp [c_names_in, d_names_in, hq, hq1, r1, un_S, un_Z, nm, addN]
    · simp [c_names_in, d_names_in, hq, hq1, r1, un_S, un_Z, nm, addN]
    · simp [c_names_in, d_names_in, hq, hq1, r1, un_S, un_Z, nm, addN]
    · by_cases e : t = s
      · subst e
        simp [c_names_in, d_names_in, hq, hq1, r1, un_S, un_Z, nm, addN]
      · have e' : ¬ s = t := fun h => e h.symm
        simp [c_names_in, d_names_in, hq, hq1, r1, un_S, un_Z, nm, addN, e, e']
theorem nm_in {ws : List (List Nat)} {xs : List Val} (h : vo ws = some xs) : ∀ s ∈ nm xs, s ∈ ws := by
  rcases vo_is h with ⟨a, rfl, rfl, ha⟩ | ⟨a, b, c, rfl, rfl, ha, hc⟩
  · intro s hs
    rcases th_is ha with ⟨k, e, _⟩ | e <;> simp [nm, addN, e] at hs
    simp [hs]
  · intro s hs
    rcases th_is ha with ⟨k, e, _⟩ | e <;> rcases th_is hc with ⟨k', e', _⟩ | e' <;> simp [nm, addN, e, e'] at hs
    · simp [hs]
    · simp [hs]
    · split at hs <;> simp at hs
      · simp [hs]
      · rcases hs with hs | hs <;> simp [hs]
theorem holds (hb : g.con 1 = some (false, btw.map .str)) (n : Nat) (a : Nat) (ws : List (List Nat)) (M : Mem) (h : M[a]? = some (.lst (ws.map .str))) (hl : ws.length ≤ 4) (hw : ∀ w ∈ ws, Wd w) : Ev (cal g lw.fds (n + 5) 16 [.ref a] M) fun v M' => v = .bl true ∧ Xt M M' := by
  have hch : ∀ s ∈ ws, ∀ c ∈ s, c < 1114112 := fun s hs c hc => by have := (hw s hs).2 c hc; omega
  have hst : strsOf (ws.map Val.str) = some ws := by simpa using strs_map id ws
  simp [c__law_holds, d__law_holds]
  refine Ev.mono (due (n + 1) (.ref a) ws M (lst_ref h) hl hw) fun v M1 ⟨hv, x1⟩ => ?_
  have h1 := x1.get h
  simp [h1]
  refine Ev.mono (value hb n (.ref M1.length) ws (M1 ++ [.lst (ws.map .str)]) (lst_ref (by simp)) hl hw) fun u M2 ⟨hu, x2⟩ => ?_
  have h2 := x2.get (get_app h1)
  have h3 := x2.get (i := M1.length) (o := .lst (ws.map .str)) (by simp)
  simp [w_neS (lst_ref h3) (lst_ref h2) hst hst hch hch]
  have x12 : Xt M M2 := x1.trans (Xt.app.trans x2)
  cases ho : vo ws with
  | none =>
    rw [ho] at hv hu
    subst hv hu
    simp [x12]
  | some xs =>
    rw [ho] at hv hu
    obtain ⟨p, rfl, hp⟩ := hv
    obtain ⟨q, rfl, hq⟩ := hu
    obtain ⟨hI, hI3⟩ := vo_Is ho
    have hp2 := x2.get (get_app (X := [.lst (ws.map .str)]) hp)
    simp [alike _ q p xs M2 hq hp2 hI hI3]
    have hS := vo_Small ho
    have htx := vo_tx ho
    have hlen : ((ws.map (·.length)).sum) ≤ 80 := by
      have : ∀ l : List (List Nat), (∀ w ∈ l, Wd w) → (l.map (·.length)).sum ≤ 20 * l.length := fun l hl => by
        induction l with
        | nil => simp
        | cons w l ih =>
          have := (hl w (by simp)).1
          have := ih fun z hz => hl z (by simp [hz])
          simp
          omega
      have := this ws hw
      omega
    have jn : ∀ M, M[a]? = some (.lst (ws.map .str)) → mJoin g (.str [32]) [.ref a] M = .ok (.str (TL.joinL [32] ws)) M := fun M h => w_join [32] (seq_lst (lst_ref h)) hst (by simp; omega)
    refine Ev.mono (shown _ p xs M2 hp2 hS hI3 (by rw [htx]; omega)) fun v M3 ⟨hv, x3⟩ => ?_
    rw [htx] at hv
    subst hv
    have h4 := x3.get h2
    have hp3 := x3.get hp2
    have x13 := x12.trans x3
    simp [jn M3 h4]
    have sh : (∃ x, xs = [x]) ∨ ∃ x y z, xs = [x, y, z] := by
      rcases vo_is ho with ⟨a, _, e, _⟩ | ⟨a, b, c, _, e, _⟩
      · exact .inl ⟨_, e⟩
      · exact .inr ⟨_, _, _, e⟩
    have hnc : ∀ s ∈ nm xs, ∀ c ∈ s, c < 1114112 := fun s hs => hch s (nm_in ho s hs)
    have hns : strsOf ((nm xs).map Val.str) = some (nm xs) := by simpa using strs_map id (nm xs)
    -- behind the loop
    have tail : ∀ o : Option Val, Ev ((xSeq (xSet 7 (dArg 1 [] (cal g lw.fds (n + 4) 6) (aCons (dV 1) (aNil))))
      (xSeq (xIf (dOr (dNot (dIsi g tabI tabC (dV 7) "list")) (dB (oNe g) (dV 7) (dV 5))) (xRet (dC (.bl false))) (xSkip))
      (xSeq (xExpr (dM "list" mAppend (dV 7) (aCons (dC (.str [109, 111, 114, 101])) (aNil))))
      (xRet (dB (oEq g) (dArg 1 [] (cal g lw.fds (n + 4) 6) (aCons (dV 1) (aNil))) (dV 5)))))) [some (.ref a), some (.ref p), some (.ref M1.length), some (.ref q), some (.str (TL.joinL [32] ws)), some (.ref M3.length), o, none] (M3 ++ [.lst ((nm xs).map .str)])) (PRun fun v M' => v = .bl true ∧ Xt M M') := fun o => by
      simp
      refine Ev.mono (names _ p xs _ (get_app hp3) hI sh) fun v M4 ⟨hv, hM4⟩ => ?_
      subst hv hM4
      have l1 : ∀ X, lstOf g (M3 ++ .lst ((nm xs).map .str) :: X) (.ref M3.length) = some ((nm xs).map .str) := fun X => lst_at0 g M3 X _
      have hnl : (nm xs).length < 1000000 := by
        rcases sh with ⟨x, rfl⟩ | ⟨x, y, z, rfl⟩
        · simp only [nm, addN]
          split <;> (try split) <;> simp
        · simp only [nm]
          have : ∀ acc v, (addN acc v).length ≤ acc.length + 1 := fun acc v => by
            unfold addN
            split <;> (try split) <;> simp
          have a1 := this [] x
          have a2 := this (addN [] x) z
          simp at a1
          omega
      have hp4 : ∀ X, (M3 ++ X)[p]? = some (.tup xs) := fun X => get_app hp3
      simp [q_list_list (n_ty g tabC (M3 ++ [.lst ((nm xs).map .str), .lst ((nm xs).map .str)]) (M3.length + 1) (by simp)), w_neS (g := g) (x := .ref (M3.length + 1)) (M := M3 ++ [.lst ((nm xs).map .str), .lst ((nm xs).map .str)]) (lst_ref (by simp)) (l1 _) hns hns hnc hnc, hnl]
      refine Ev.mono (names _ p xs _ (hp4 _) hI sh) fun v M5 ⟨hv, hM5⟩ => ?_
      subst hv hM5
      rw [v_PB1]
      simp [w_eqS (g := g) (x := .ref (M3.length + 2)) (y := .ref M3.length) (M := M3 ++ [.lst ((nm xs).map .str), .lst ((nm xs).map .str ++ [.str [109, 111, 114, 101]]), .lst ((nm xs).map .str)]) (lst_ref (by rw [get_at]; rfl)) (l1 _) hns hns hnc hnc]
      exact x13.trans Xt.app
    have hp4 : ∀ X, (M3 ++ X)[p]? = some (.tup xs) := fun X => get_app hp3
    rcases sh with ⟨x, rfl⟩ | ⟨x, y, z, rfl⟩
    · have r1 : rcount 0 1 2 = 1 := rfl
      rcases hI x (by simp) with ⟨i, rfl⟩ | ⟨s, rfl⟩ <;> simp [hp4, r1, un_S, un_Z, -u_xSeq] <;> exact tail _
    · have r1 : rcount 0 3 2 = 2 := rfl
      rcases hI x (by simp) with ⟨i, rfl⟩ | ⟨s, rfl⟩ <;> rcases hI z (by simp) with ⟨j, rfl⟩ | ⟨t, rfl⟩
      · simp [hp4, r1, un_S, un_Z, -u_xSeq]
        exact tail _
      · simp [hp4, r1, un_S, un_Z, -u_xSeq]
        exact tail _
      · simp [hp4, r1, un_S, un_Z, -u_xSeq]
        exact tail _
      · by_cases e : t = s
        · subst e
          have e2 : nm [Val.str t, y, .str t] = [t] := by simp [nm, addN]
          rw [e2] at tail
          simp [hp4, r1, un_S, un_Z, -u_xSeq]
          exact tail _
        · have e' : ¬ s = t := fun h => e h.symm
          have e2 : nm [Val.str s, y, .str t] = [s, t] := by simp [nm, addN, e]
          rw [e2] at tail
          simp [hp4, r1, un_S, un_Z, -u_xSeq, e, e']
          exact tail _
theorem w_addl {M : Mem} {a b : Nat} {xs ys : List Val} (h1 : M[a]? = some (.lst xs)) (h2 : M[b]? = some (.lst ys)) (hl : xs.length + ys.length ≤ 1000000) : oAdd (.ref a) (.ref b) M = .ok (.ref M.length) (M ++ [.lst (xs ++ ys)]) := by
  simp only [oAdd, lAdd, h1, h2, hl, if_true]
theorem plain (g : Cfg) (M : Mem) (sv : Val) (ns : List Int) (hg : ∀ k, k ≠ 0 → g.con k = lw.con k) (hn : ns.length ≤ 63) (h : Scr g ns sv M) : ∃ M', cal g lw.fds 20 17 [sv] M = .ok (.bl true) M' := by
  have hb : g.con 1 = some (false, btw.map .str) := (hg 1 (by decide)).trans rfl
  have z : Ev (cal g lw.fds 20 17 [sv] M) fun v _ => v = .bl true := by
    have h' : Scr g ns sv (M ++ [.lst [.int 3]]) := h.app
    simp [c_law, d_law, w_len h'.lst]
    have hm : ∀ m : Int, 0 ≤ m → m ≤ 100 → ((-1000000 ≤ (if 9 < (if m < 30 then m else 30) then (if m < 30 then m else 30) else 9) ∧ (if 9 < (if m < 30 then m else 30) then (if m < 30 then m else 30) else 9) ≤ 1000000) ∧ ((if 9 < (if m < 30 then m else 30) then (if m < 30 then m else 30) else 9)).toNat ≤ 1000) := fun m _ _ => by
      split <;> (try split) <;> omega
    obtain ⟨k1, k2⟩ := hm ns.length (by omega) (by omega)
    refine ⟨k1, ?_⟩
    generalize ((if 9 < (if (ns.length : Int) < 30 then (ns.length : Int) else 30) then (if (ns.length : Int) < 30 then (ns.length : Int) else 30) else 9)).toNat = q at k2
    refine comp_rng (fun j => some (.int (ce ns j))) (by omega) (fun j M' hj x => ?_) fun X => ?_
    · simp [wipeL]
      exact Ev.mono (cell_at 18 j (x.scr h')) fun v M'' ⟨hv, xx⟩ => by simp [hv, xx]
    rw [fm_map]
    simp
    generalize hM1 : M ++ Ob.lst [Val.int 3] :: Ob.lst ((List.range q).map fun x => Val.int (ce ns x)) :: X = M1
    have g1 : M1[M.length]? = some (.lst [.int 3]) := by rw [← hM1]; simp
    have g2 : M1[M.length + 1]? = some (.lst ((List.range q).map fun x => Val.int (ce ns x))) := by rw [← hM1, get_at]; rfl
    rw [w_addl g1 g2 (by simp; omega)]
    generalize hY : [Val.int 3] ++ (List.range q).map (fun x => Val.int (ce ns x)) = ys
    have hyl : ys.length = q + 1 := by rw [← hY]; simp
    have hyi : ∀ y ∈ ys, ∃ i : Int, y = .int i := by
      rw [← hY]
      intro y hy
      simp at hy
      rcases hy with rfl | ⟨i, _, rfl⟩ <;> exact ⟨_, rfl⟩
    simp
    refine forL_ev (fun j L N => Xt (M1 ++ [.lst ys]) N ∧ ∃ o, L = [some sv, o, none]) ⟨Xt.refl, _, rfl⟩ (fun j L N _ hj ⟨x, o, hL⟩ => ?_) (fun L N ⟨x, o, hL⟩ => ?_)
    · subst hL
      have hj' : j < ys.length := by omega
      have e : ys[j]? = some ys[j] := List.getElem?_eq_getElem hj'
      obtain ⟨i, hi⟩ := hyi _ (List.getElem_mem hj')
      rw [hi] at e
      rw [w_yl (x.lst (lst_at0 g M1 [] ys)) e]
      simp
      refine Ev.mono (words_ 16 i N) fun v M6 ⟨⟨a, ws, hv, ha, hl, hw⟩, x6⟩ => ?_
      subst hv
      simp
      refine Ev.mono (holds hb 14 a ws M6 ha hl hw) fun v M7 ⟨hv, x7⟩ => ?_
      subst hv
      simp
      exact x.trans (x6.trans x7)
    · subst hL
      rw [Nat.zero_add, w_fl (x.lst (lst_at0 g M1 [] ys)) (by simp)]
      simp
  obtain ⟨v, M', e, rfl⟩ := z
  exact ⟨M', e⟩
end Q11

namespace Q11
open PySem PySem.Spec
open PyProof.Rows L2 Pa
/-! ### the head -/
abbrev R : PySem.W.OpenRow := PySem.W.OpenLaw.row PySem.Challenge.rw_hushrow_k11_values
abbrev hk : PySem.W.Hook := He.hookX 4 [] (lw.fds.map FD.D) [] [] (lwB lw)
def ob (s : PySem.W.SharedT) : He.AlX := He.obsX 4 [] (lw.fds.map FD.D) [] [] (lwB lw) (HandSHeadRun.getT s)
theorem ob_eq (s : PySem.W.SharedT) : ob s = hk.obs s.abs := He.obsX_eq (HandSHeadRun.getT_eq s)
theorem run (w : World) : HandSHeadRun.RunEq R (PySem.W.view R.prog [22]) hk ob 1500 ["LETTERS", "FIGURES", "BETWEEN", "made_of", "is_name", "number_of", "thing_of", "value_of", "value_shown", "names_in", "_law_cell_at", "_law_mix", "_law_name", "_law_thing", "_law_words", "_law_named", "_law_read", "_law_due", "_law_alike", "_law_holds"] w := by
  intro os
  kernel_rfl
end Q11
open PySem PySem.W
open PySem.Calls PyProof.Rows
theorem PySem.Challenge.cw_hushrow_k11_values_holds : PySem.Challenge.rw_hushrow_k11_values.Holds := by
  w_on; o_law
  refine HandSHeadRun.head_any (r := OpenLaw.row PySem.Challenge.rw_hushrow_k11_values) (q := view (OpenLaw.row PySem.Challenge.rw_hushrow_k11_values).prog [22]) (H := Q11.hk) (ob := Q11.ob) (M := 1500) (loose := ["LETTERS", "FIGURES", "BETWEEN", "made_of", "is_name", "number_of", "thing_of", "value_of", "value_shown", "names_in", "_law_cell_at", "_law_mix", "_law_name", "_law_thing", "_law_words", "_law_named", "_law_read", "_law_due", "_law_alike", "_law_holds"]) (d := HandSHeadRun.topDef (OpenLaw.row PySem.Challenge.rw_hushrow_k11_values).prog 22) (kwd := []) Q11.ob_eq
    (by kernel_rfl) (fun s => by kernel_rfl) Q11.run (by kernel_rfl) (by kernel_rfl) (by kernel_rfl) (by rfl) (by first | assumption | decide +kernel) (by decide +kernel) ⟨rfl, rfl, rfl, rfl, rfl, by decide +kernel⟩ ?hw ?hc
  case hw => w_witness2
  case hc =>
    exact Pa.law_walk (l := PySem.Challenge.rw_hushrow_k11_values) (m := 63) (N := 20) (ix := 17) (x := "_law_script") (dl := Q11.fd_law) rfl (by decide) (by kernel_rfl) ⟨rfl, by decide, by decide⟩ rfl (by kernel_rfl) rfl (by decide +kernel) Q11.oks Q11.plain

