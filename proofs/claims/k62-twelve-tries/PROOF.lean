import PyProof.Rows.All
import Wide.All
import OpenK.AllK
import Wide.FinOn
import HandS.ForMost
import HandS.Wide
import HandS.IsInst
import HandS.Codes
import HandS.Style
import HandS.RaiseMore
import HandS.SetKeys
import HandS.TupLen
import HandS.Conv
import HandS.StrMore
import HandS.Small
import HandS.Defaults
import HandS.HeadEnd
import HandS.Head0
import HandS.Head1
import HandS.Head2
import HandS.HeadHook1
import HandS.HeadHook2
import HandS.HeadHook3
import HandS.HeadHook4
import KE.KStateDown
import HandS.DeepEq
import HandS.WideBits
import HandS.Replace
import HandS.SortKw
import PyProof.ConsumeS
import HandS.More
import HandS.Iter
import PySem.Challenge.RW_hushrow_k62_twelve_tries
set_option Elab.async false
set_option linter.all false
set_option maxRecDepth 100000
set_option maxHeartbeats 4000000
/-! A small calculus of denotations over the hand layer: values, memories, their relation to the abstract heap. -/
namespace Pa
open PySem PySem.Spec
open PyProof.Rows L2
open SX (S)

inductive Val where
  | non | bl (b : Bool) | int (i : Int) | str (s : List Nat) | ref (i : Nat) | con (k : Nat)
  deriving DecidableEq
abbrev DKey := Sum Int (List Nat)
inductive Ob where
  | lst (xs : List Val)
  | tup (xs : List Val)
  | dk (kvs : List (DKey × Val))
  | dt (kvs : List (List DKey × Val))
  | ins (c : String) (fs : List (String × Val))
  | fz (o : Ob)
abbrev Mem := List Ob
inductive R (α : Type) where
  | ok (a : α) (M : Mem)
  | exc (c : String) (fs : List (String × Val)) (M : Mem)
  | no
def R.bind {α β : Type} (r : R α) (f : α → Mem → R β) : R β :=
  match r with
  | .ok a M => f a M
  | .exc c fs M => .exc c fs M
  | .no => .no
theorem R.bind_ok {α β : Type} (a : α) (M : Mem) (f : α → Mem → R β) : (R.ok a M).bind f = f a M := rfl
theorem R.bind_no {α β : Type} (f : α → Mem → R β) : (R.no : R α).bind f = .no := rfl
theorem R.bind_exc {α β : Type} (c : String) (fs : List (String × Val)) (M : Mem) (f : α → Mem → R β) : (R.exc c fs M : R α).bind f = .exc c fs M := rfl
theorem R.bind_eq {α β : Type} {r : R α} {f : α → Mem → R β} {b : β} {M' : Mem} (h : r.bind f = .ok b M') : ∃ a M, r = .ok a M ∧ f a M = .ok b M' := by
  cases r with
  | ok a M => exact ⟨a, M, rfl, h⟩
  | exc c fs M => cases h
  | no => cases h
def R.of {α : Type} (o : Option α) (M : Mem) : R α := match o with
  | some a => .ok a M
  | none => .no
theorem R.of_eq {α : Type} {o : Option α} {M M' : Mem} {a : α} (h : R.of o M = .ok a M') : o = some a ∧ M' = M := by
  cases o with
  | none => cases h
  | some b => cases h; exact ⟨rfl, rfl⟩

/-- what the law's text fixes: where defs, classes, constants stand -/
structure Cfg where
  cl : String → Addr
  ca : Nat → Addr
  con : Nat → Option (Bool × List Val)

/-! ### refs in bounds -/
def Val.lt (n : Nat) : Val → Prop
  | .ref i => i < n
  | _ => True
theorem Val.lt.mono {v : Val} {n m : Nat} (h : v.lt n) (k : n ≤ m) : v.lt m := by
  cases v with
  | ref i => exact Nat.lt_of_lt_of_le h k
  | _ => exact trivial
def Lts (n : Nat) (xs : List Val) : Prop := ∀ v ∈ xs, v.lt n
theorem Lts.mono {xs : List Val} {n m : Nat} (h : Lts n xs) (k : n ≤ m) : Lts m xs := fun v hv => (h v hv).mono k
theorem Lts.get {xs : List Val} {n i : Nat} {v : Val} (h : Lts n xs) (e : xs[i]? = some v) : v.lt n := h v (List.mem_of_getElem? e)
theorem Lts.app {xs ys : List Val} {n : Nat} (h : Lts n xs) (k : Lts n ys) : Lts n (xs ++ ys) := fun v hv => (List.mem_append.mp hv).elim (h v) (k v)
theorem Lts.nil {n : Nat} : Lts n [] := fun _ h => by cases h
theorem Lts.cons {x : Val} {xs : List Val} {n : Nat} (h : x.lt n) (k : Lts n xs) : Lts n (x :: xs) := fun v hv => by
  rcases List.mem_cons.mp hv with rfl | hv
  · exact h
  · exact k v hv
theorem Lts.sub {xs ys : List Val} {n : Nat} (h : Lts n xs) (k : ∀ v ∈ ys, v ∈ xs) : Lts n ys := fun v hv => h v (k v hv)
def Ob.lt (n : Nat) : Ob → Prop
  | .lst xs => Lts n xs
  | .tup xs => Lts n xs
  | .dk kvs => ∀ p ∈ kvs, p.2.lt n
  | .dt kvs => ∀ p ∈ kvs, p.2.lt n
  | .ins _ fs => ∀ p ∈ fs, p.2.lt n
  | .fz o => o.lt n
theorem Ob.lt.mono : ∀ {o : Ob} {n m : Nat}, o.lt n → n ≤ m → o.lt m
  | .lst xs, _, _, h, k => Lts.mono (xs := xs) h k
  | .tup xs, _, _, h, k => Lts.mono (xs := xs) h k
  | .dk kvs, _, _, h, k => fun p hp => (h p hp).mono k
  | .dt kvs, _, _, h, k => fun p hp => (h p hp).mono k
  | .ins _ fs, _, _, h, k => fun p hp => (h p hp).mono k
  | .fz o, _, _, h, k => Ob.lt.mono (o := o) h k

/-! ### a value as the layer has it -/
section
variable (g : Cfg) (r : Nat → Addr)
def mv : Val → V
  | .non => .non
  | .bl b => .bl b
  | .int i => .int i
  | .str s => .str (S s)
  | .ref i => .ref (r i)
  | .con k => .ref (g.ca k)
def mk : DKey → Key
  | .inl i => .inl i
  | .inr s => .inr (S s)
def mkv (p : DKey × Val) : Key × V := (mk p.1, mv g r p.2)
def mkt (p : List DKey × Val) : List Key × V := (p.1.map mk, mv g r p.2)
def mfv (p : String × Val) : Str × V := (Str.ofString p.1, mv g r p.2)
inductive HoR : Ob → HO → Prop
  | lst {xs : List Val} : HoR (.lst xs) (.lst (xs.map (mv g r)))
  | tup {xs : List Val} : HoR (.tup xs) (.tup (xs.map (mv g r)))
  | dk {kvs : List (DKey × Val)} : HoR (.dk kvs) (.dK (kvs.map (mkv g r)))
  | dt {kvs : List (List DKey × Val)} : HoR (.dt kvs) (.dT (kvs.map (mkt g r)))
  | ins {c : String} {fs : List (String × Val)} {dx : Addr} : HoR (.ins c fs) (.ins (g.cl c) dx (fs.map (mfv g r)))
  | fz {o : Ob} {od : Obj} {u : HO} : HoR o u → HoR (.fz o) (.frz od u)
end
theorem mv_eq {g : Cfg} {r r' : Nat → Addr} {n : Nat} (h : ∀ i, i < n → r' i = r i) {v : Val} (l : v.lt n) : mv g r' v = mv g r v := by
  cases v with
  | ref i => exact congrArg V.ref (h i l)
  | _ => rfl
theorem mvs_eq {g : Cfg} {r r' : Nat → Addr} {n : Nat} (h : ∀ i, i < n → r' i = r i) {xs : List Val} (l : Lts n xs) : xs.map (mv g r') = xs.map (mv g r) :=
  List.map_congr_left fun v hv => mv_eq h (l v hv)
theorem HoR.eq {g : Cfg} {r r' : Nat → Addr} {n : Nat} (h : ∀ i, i < n → r' i = r i) {o : Ob} {u : HO} (x : HoR g r o u) (l : o.lt n) : HoR g r' o u := by
  induction x with
  | @lst xs => rw [← mvs_eq (g := g) h (xs := xs) l]; exact .lst
  | @tup xs => rw [← mvs_eq (g := g) h (xs := xs) l]; exact .tup
  | @dk kvs =>
    have e : kvs.map (mkv g r) = kvs.map (mkv g r') := List.map_congr_left fun p hp => by
      show (_, _) = (_, _)
      rw [mv_eq h (l p hp)]
    rw [e]; exact .dk
  | @dt kvs =>
    have e : kvs.map (mkt g r) = kvs.map (mkt g r') := List.map_congr_left fun p hp => by
      show (_, _) = (_, _)
      rw [mv_eq h (l p hp)]
    rw [e]; exact .dt
  | @ins c fs dx =>
    have e : fs.map (mfv g r) = fs.map (mfv g r') := List.map_congr_left fun p hp => by
      show (_, _) = (_, _)
      rw [mv_eq h (l p hp)]
    rw [e]; exact .ins
  | fz _ ih => exact .fz (ih l)

/-- the memory is what the abstract heap holds -/
structure Rel (g : Cfg) (r : Nat → Addr) (M : Mem) (H : Hp) : Prop where
  obj : ∀ (i : Nat) (o : Ob), M[i]? = some o → ∃ u, H (r i) = some u ∧ HoR g r o u
  inj : ∀ i j, i < M.length → j < M.length → r i = r j → i = j
  wf : ∀ (i : Nat) (o : Ob), M[i]? = some o → o.lt M.length
/-- what is frozen stays frozen as it was -/
def Keep (H H' : Hp) : Prop := ∀ b o x, H b = some (.frz o x) → H' b = some (.frz o x)
theorem Keep.refl {H : Hp} : Keep H H := fun _ _ _ h => h
theorem Keep.trans {H H1 H2 : Hp} (a : Keep H H1) (b : Keep H1 H2) : Keep H H2 := fun c o x h => b c o x (a c o x h)
theorem keep_new {H : Hp} {p : Addr} {u : HO} (h : H p = none) : Keep H (upd H p u) := fun b o x e => by
  rw [upd_ne (fun z => by rw [z, h] at e; cases e)]; exact e
theorem keep_upd {H : Hp} {p : Addr} {u0 u : HO} (h : H p = some u0) (hz : ∀ o x, u0 ≠ .frz o x := by intro _ _ z; cases z) : Keep H (upd H p u) := fun b o x e => by
  rw [upd_ne (fun z => by rw [z, h] at e; cases e; exact hz _ _ rfl)]; exact e
/-- further on: more objects, the old ones where they were -/
structure Nxt (r : Nat → Addr) (M : Mem) (H : Hp) (r' : Nat → Addr) (M' : Mem) (H' : Hp) : Prop where
  le : M.length ≤ M'.length
  eq : ∀ i, i < M.length → r' i = r i
  kp : Keep H H'
theorem Nxt.refl {r : Nat → Addr} {M : Mem} {H : Hp} : Nxt r M H r M H := ⟨Nat.le_refl _, fun _ _ => rfl, .refl⟩
theorem Nxt.trans {r r1 r2 : Nat → Addr} {M M1 M2 : Mem} {H H1 H2 : Hp} (a : Nxt r M H r1 M1 H1) (b : Nxt r1 M1 H1 r2 M2 H2) : Nxt r M H r2 M2 H2 :=
  ⟨Nat.le_trans a.le b.le, fun i h => (b.eq i (Nat.lt_of_lt_of_le h a.le)).trans (a.eq i h), a.kp.trans b.kp⟩
theorem Nxt.of_len {r : Nat → Addr} {M M' : Mem} {H H' : Hp} (h : M'.length = M.length) (k : Keep H H') : Nxt r M H r M' H' := ⟨Nat.le_of_eq h.symm, fun _ _ => rfl, k⟩
theorem Nxt.mv {g : Cfg} {r r' : Nat → Addr} {M M' : Mem} {H H' : Hp} (a : Nxt r M H r' M' H') {v : Val} (l : v.lt M.length) : Pa.mv g r' v = Pa.mv g r v := mv_eq a.eq l
theorem Nxt.mvs {g : Cfg} {r r' : Nat → Addr} {M M' : Mem} {H H' : Hp} (a : Nxt r M H r' M' H') {xs : List Val} (l : Lts M.length xs) : xs.map (Pa.mv g r') = xs.map (Pa.mv g r) := mvs_eq a.eq l
theorem lt_of_get {M : Mem} {i : Nat} {o : Ob} (h : M[i]? = some o) : i < M.length := (List.getElem?_eq_some_iff.mp h).1
section
variable {g : Cfg} {r : Nat → Addr} {M : Mem} {H : Hp}
theorem Rel.none_ne (R : Rel g r M H) {p : Addr} (h : H p = none) {i : Nat} (l : i < M.length) : r i ≠ p := fun e => by
  obtain ⟨u, hu, _⟩ := R.obj i M[i] (List.getElem?_eq_getElem l)
  rw [e, h] at hu
  cases hu
/-- a new address that M does not see -/
theorem Rel.side (R : Rel g r M H) {p : Addr} {o : HO} (h : H p = none) : Rel g r M (upd H p o) :=
  ⟨fun i ob e => by
    obtain ⟨u, hu, x⟩ := R.obj i ob e
    exact ⟨u, by rw [upd_ne (R.none_ne h (lt_of_get e))]; exact hu, x⟩, R.inj, R.wf⟩
def ext (r : Nat → Addr) (n : Nat) (p : Addr) : Nat → Addr := fun i => if i = n then p else r i
theorem ext_lt {n : Nat} {p : Addr} {i : Nat} (h : i < n) : ext r n p i = r i := if_neg (Nat.ne_of_lt h)
theorem ext_at {n : Nat} {p : Addr} : ext r n p n = p := if_pos rfl
theorem nxt_ext {p : Addr} {o : Ob} {u : HO} (h : H p = none) : Nxt r M H (ext r M.length p) (M ++ [o]) (upd H p u) := ⟨by rw [List.length_append]; omega, fun _ h => ext_lt h, keep_new h⟩
/-- a new object at p -/
theorem Rel.alloc (R : Rel g r M H) {p : Addr} {o : Ob} {u : HO} (h : H p = none) (x : HoR g r o u) (l : o.lt M.length) : Rel g (ext r M.length p) (M ++ [o]) (upd H p u) := by
  refine ⟨fun i ob e => ?_, fun i j hi hj e => ?_, fun i ob e => ?_⟩
  · by_cases hi : i < M.length
    · rw [List.getElem?_append_left hi] at e
      obtain ⟨u', hu, x'⟩ := R.obj i ob e
      exact ⟨u', by rw [ext_lt hi, upd_ne (R.none_ne h hi)]; exact hu, x'.eq (fun j hj => ext_lt hj) (R.wf i ob e)⟩
    · have hl := lt_of_get e
      rw [List.length_append, List.length_singleton] at hl
      have ei : i = M.length := by omega
      subst ei
      rw [List.getElem?_append_right (Nat.le_refl _), Nat.sub_self] at e
      cases e
      exact ⟨u, by rw [ext_at, upd_same], x.eq (fun j hj => ext_lt hj) l⟩
  · rw [List.length_append, List.length_singleton] at hi hj
    by_cases h1 : i < M.length
    · by_cases h2 : j < M.length
      · rw [ext_lt h1, ext_lt h2] at e
        exact R.inj i j h1 h2 e
      · have ej : j = M.length := by omega
        subst ej
        rw [ext_lt h1, ext_at] at e
        exact absurd e (R.none_ne h h1)
    · have ei : i = M.length := by omega
      subst ei
      by_cases h2 : j < M.length
      · rw [ext_lt h2, ext_at] at e
        exact absurd e.symm (R.none_ne h h2)
      · omega
  · rw [List.length_append]
    by_cases hi : i < M.length
    · rw [List.getElem?_append_left hi] at e
      exact (R.wf i ob e).mono (Nat.le_add_right _ _)
    · rw [List.getElem?_append_right (by omega)] at e
      have : ob = o := by
        cases hz : i - M.length with
        | zero => rw [hz] at e; cases e; rfl
        | succ k => rw [hz] at e; simp at e
      subst this
      exact l.mono (Nat.le_add_right _ _)
/-- the object at i is changed -/
theorem Rel.put (R : Rel g r M H) {i : Nat} {o : Ob} {u : HO} (hi : i < M.length) (x : HoR g r o u) (l : o.lt M.length) : Rel g r (M.set i o) (upd H (r i) u) := by
  refine ⟨fun j ob e => ?_, fun a b ha hb e => ?_, fun j ob e => ?_⟩
  · have hj := lt_of_get e
    rw [List.length_set] at hj
    by_cases hij : i = j
    · subst hij
      rw [List.getElem?_set_self hi] at e
      cases e
      exact ⟨u, upd_same, x⟩
    · rw [List.getElem?_set_ne hij] at e
      obtain ⟨u', hu, x'⟩ := R.obj j ob e
      exact ⟨u', by rw [upd_ne (fun z => hij (R.inj j i hj hi z).symm)]; exact hu, x'⟩
  · rw [List.length_set] at ha hb
    exact R.inj a b ha hb e
  · rw [List.length_set]
    by_cases hij : i = j
    · subst hij
      rw [List.getElem?_set_self hi] at e
      cases e
      exact l
    · rw [List.getElem?_set_ne hij] at e
      exact R.wf j ob e
theorem nxt_side {p : Addr} {u : HO} (h : H p = none) : Nxt r M H r M (upd H p u) := Nxt.of_len rfl (keep_new h)
def Ob.isFz : Ob → Bool
  | .fz _ => true
  | _ => false
theorem keep_put (R : Rel g r M H) {i : Nat} {o0 : Ob} {u : HO} (h : M[i]? = some o0) (hz : o0.isFz = false) : Keep H (upd H (r i) u) := by
  obtain ⟨u0, hu, x⟩ := R.obj i o0 h
  refine keep_upd hu fun o y e => ?_
  subst e
  cases x
  cases hz
theorem nxt_set (R : Rel g r M H) {i : Nat} {o o0 : Ob} {u : HO} (h : M[i]? = some o0) (hz : o0.isFz = false := by rfl) : Nxt r M H r (M.set i o) (upd H (r i) u) := Nxt.of_len (List.length_set ..) (keep_put R h hz)
end

/-! ### judgements -/
/-- slots as the layer has them -/
def mS (g : Cfg) (r : Nat → Addr) (L : List (Option Val)) : L2.St := L.map (Option.map (mv g r))
def Lok (n : Nat) (L : List (Option Val)) : Prop := ∀ v, some v ∈ L → v.lt n
theorem Lok.mono {n m : Nat} {L : List (Option Val)} (h : Lok n L) (k : n ≤ m) : Lok m L := fun v hv => (h v hv).mono k
theorem Lok.get {n i : Nat} {L : List (Option Val)} {v : Val} (h : Lok n L) (e : L[i]? = some (some v)) : v.lt n := h v (List.mem_of_getElem? e)
theorem Lok.set {n i : Nat} {L : List (Option Val)} {v : Val} (h : Lok n L) (k : v.lt n) : Lok n (L.set i (some v)) := fun w hw => by
  rcases List.mem_or_eq_of_mem_set hw with z | z
  · exact h w z
  · cases z; exact k
theorem Nxt.sg {g : Cfg} {r r' : Nat → Addr} {M M' : Mem} {H H' : Hp} (a : Nxt r M H r' M' H') {L : List (Option Val)} (l : Lok M.length L) : mS g r' L = mS g r L :=
  List.map_congr_left fun o ho => by
    cases o with
    | none => rfl
    | some v => exact congrArg some (a.mv (l v ho))
theorem mS_get {g : Cfg} {r : Nat → Addr} {L : List (Option Val)} {i : Nat} {v : Val} (e : L[i]? = some (some v)) : (mS g r L)[i]? = some (some (mv g r v)) := by
  unfold mS; rw [List.getElem?_map, e]; rfl
theorem mS_set {g : Cfg} {r : Nat → Addr} {L : List (Option Val)} {i : Nat} {v : Val} : (mS g r L).set i (some (mv g r v)) = mS g r (L.set i (some v)) := by
  unfold mS; rw [List.map_set]; rfl
abbrev Loc := List (Option Val)
abbrev D := Loc → Mem → R Val
abbrev DA := Loc → Mem → R (List Val)
inductive Fl where
  | nx (L : Loc) | rt (v : Val) | bk (L : Loc) | ct (L : Loc)
abbrev Ds := Loc → Mem → R Fl
/-- slots and memory at a place of the text -/
structure At (g : Cfg) (r : Nat → Addr) (L : Loc) (M : Mem) (σ : L2.St) (H : Hp) : Prop where
  rel : Rel g r M H
  lok : Lok M.length L
  sl : σ = mS g r L
def tD (g : Cfg) (d : D) : TE := fun σ H Q => ∃ r L M v M', At g r L M σ H ∧ d L M = .ok v M' ∧ ∀ r' H', Nxt r M H r' M' H' → Rel g r' M' H' → v.lt M'.length → Q (mv g r' v) H'
def tDT (g : Cfg) (d : D) : TT := fun σ H Q => ∃ r L M b M', At g r L M σ H ∧ d L M = .ok (.bl b) M' ∧ ∀ r' H', Nxt r M H r' M' H' → Rel g r' M' H' → Q b H'
def tDA (g : Cfg) (d : DA) : TA := fun σ H Q => ∃ r L M vs M', At g r L M σ H ∧ d L M = .ok vs M' ∧ ∀ r' H', Nxt r M H r' M' H' → Rel g r' M' H' → Lts M'.length vs → Q (vs.map (mv g r')) H'
def tDS (g : Cfg) (d : Ds) : TS := fun D σ H => ∃ r L M f M', At g r L M σ H ∧ d L M = .ok f M' ∧ ∀ r' H', Nxt r M H r' M' H' → Rel g r' M' H' → match f with
  | .nx L' => Lok M'.length L' → D.nx (mS g r' L') H'
  | .rt v => v.lt M'.length → D.rt (mv g r' v) H'
  | .bk L' => Lok M'.length L' → D.bk (mS g r' L') H'
  | .ct L' => Lok M'.length L' → D.ct (mS g r' L') H'
abbrev SE (g : Cfg) (X : Cx) (e : Expr) (d : D) : Prop := PE X e (tD g d)
abbrev ST (g : Cfg) (X : Cx) (e : Expr) (d : D) : Prop := PT X e (tDT g d)
abbrev SA (g : Cfg) (X : Cx) (es : List Expr) (d : DA) : Prop := PA X es (tDA g d)
abbrev SS (g : Cfg) (X : Cx) (st : Stmt) (d : Ds) : Prop := PS X st (tDS g d)
abbrev SSs (g : Cfg) (X : Cx) (st : List Stmt) (d : Ds) : Prop := PSs X st (tDS g d)
theorem pe_imp {X : Cx} {e : Expr} {t t' : TE} (h : PE X e t) (k : ∀ σ H Q, t' σ H Q → t σ H Q) : PE X e t' := ⟨fun pins s σ H Q I q => h.run pins s σ H Q I (k σ H Q q)⟩
theorem pt_imp {X : Cx} {e : Expr} {t t' : TT} (h : PT X e t) (k : ∀ σ H Q, t' σ H Q → t σ H Q) : PT X e t' := ⟨fun pins s σ H Q I q => h.run pins s σ H Q I (k σ H Q q)⟩
theorem pw_imp {X : Cx} {e : Expr} {t t' : TT} (h : PW X e t) (k : ∀ σ H Q, t' σ H Q → t σ H Q) : PW X e t' := ⟨fun w pins s σ H Q I q => h.run w pins s σ H Q I (k σ H Q q)⟩
theorem pa_imp {X : Cx} {es : List Expr} {t t' : TA} (h : PA X es t) (k : ∀ σ H Q, t' σ H Q → t σ H Q) : PA X es t' := ⟨fun pos pins s σ H Q I q => h.run pos pins s σ H Q I (k σ H Q q)⟩
theorem ps_imp {X : Cx} {e : Stmt} {t t' : TS} (h : PS X e t) (k : ∀ D σ H, t' D σ H → t D σ H) : PS X e t' := ⟨fun pins s σ H D I q => h.run pins s σ H D I (k D σ H q)⟩
theorem pss_imp {X : Cx} {e : List Stmt} {t t' : TS} (h : PSs X e t) (k : ∀ D σ H, t' D σ H → t D σ H) : PSs X e t' := ⟨fun pins s σ H D I q => h.run pins s σ H D I (k D σ H q)⟩
/-- behind an expression: the same slots -/
theorem At.next {g : Cfg} {r r' : Nat → Addr} {L : Loc} {M M' : Mem} {σ : L2.St} {H H' : Hp} (A : At g r L M σ H) (n : Nxt r M H r' M' H') (R' : Rel g r' M' H') : At g r' L M' σ H' :=
  ⟨R', A.lok.mono n.le, by rw [A.sl]; exact (n.sg A.lok).symm⟩
theorem At.of {g : Cfg} {r : Nat → Addr} {L : Loc} {M : Mem} {H : Hp} (R : Rel g r M H) (l : Lok M.length L) : At g r L M (mS g r L) H := ⟨R, l, rfl⟩
/-- enter an expression's reading -/
theorem tD_go {g : Cfg} {r : Nat → Addr} {L : Loc} {M M' : Mem} {σ : L2.St} {H : Hp} {d : D} {v : Val} {Q : VK} (A : At g r L M σ H) (e : d L M = .ok v M') (k : ∀ r' H', Nxt r M H r' M' H' → At g r' L M' σ H' → v.lt M'.length → Q (mv g r' v) H') : tD g d σ H Q :=
  ⟨r, L, M, v, M', A, e, fun r' H' n R l => k r' H' n (A.next n R) l⟩
theorem tDA_go {g : Cfg} {r : Nat → Addr} {L : Loc} {M M' : Mem} {σ : L2.St} {H : Hp} {d : DA} {v : List Val} {Q : List V → Hp → Prop} (A : At g r L M σ H) (e : d L M = .ok v M') (k : ∀ r' H', Nxt r M H r' M' H' → At g r' L M' σ H' → Lts M'.length v → Q (v.map (mv g r')) H') : tDA g d σ H Q :=
  ⟨r, L, M, v, M', A, e, fun r' H' n R l => k r' H' n (A.next n R) l⟩
theorem tDT_go {g : Cfg} {r : Nat → Addr} {L : Loc} {M M' : Mem} {σ : L2.St} {H : Hp} {d : D} {b : Bool} {Q : Bool → Hp → Prop} (A : At g r L M σ H) (e : d L M = .ok (.bl b) M') (k : ∀ r' H', Nxt r M H r' M' H' → At g r' L M' σ H' → Q b H') : tDT g d σ H Q :=
  ⟨r, L, M, b, M', A, e, fun r' H' n R => k r' H' n (A.next n R)⟩
end Pa

/-! Operators by values. -/
namespace Pa
open PySem PySem.Spec
open PyProof.Rows L2
open SX (S)
theorem line6 {n : Nat} (h : n ≤ 1000000) : n ≤ sizeLine := Nat.le_trans h (by decide)
theorem line6' {n : Nat} (h : n < 1000000) : n < sizeLine := Nat.lt_of_lt_of_le h (by decide)
/-- what stands in the written part -/
def ConOk (g : Cfg) (K : PySem.W.Frag) : Prop := ∀ k b xs, g.con k = some (b, xs) → (∀ n, Lts n xs) ∧ ∀ r, if b = true then ∀ H, SqL K H (g.ca k) (xs.map (mv g r)) else ∀ H, SqT K H (g.ca k) (xs.map (mv g r))
abbrev Kont (g : Cfg) (r : Nat → Addr) (M : Mem) (H : Hp) (v : Val) (M' : Mem) (Q : VK) : Prop := ∀ r' H', Nxt r M H r' M' H' → Rel g r' M' H' → v.lt M'.length → Q (mv g r' v) H'
/-- a two-place operation of the memory and the layer's reading of it -/
def OpS (g : Cfg) (f : Val → Val → Mem → R Val) (r2 : R2) : Prop := ∀ (r : Nat → Addr) (M : Mem) (H : Hp) (x y v : Val) (M' : Mem) (Q : VK), Rel g r M H → x.lt M.length → y.lt M.length → f x y M = .ok v M' → Kont g r M H v M' Q → r2 (mv g r x) (mv g r y) H Q
theorem OpS.or {g : Cfg} {f f1 f2 : Val → Val → Mem → R Val} {r1 r2 : R2} (h1 : OpS g f1 r1) (h2 : OpS g f2 r2) (h : ∀ x y M v M', f x y M = .ok v M' → f1 x y M = .ok v M' ∨ f2 x y M = .ok v M') : OpS g f (fun x y H Q => r1 x y H Q ∨ r2 x y H Q) :=
  fun r M H x y v M' Q R lx ly e k => (h x y M v M' e).elim (fun z => .inl (h1 r M H x y v M' Q R lx ly z k)) fun z => .inr (h2 r M H x y v M' Q R lx ly z k)
theorem OpS.imp {g : Cfg} {f : Val → Val → Mem → R Val} {r1 r2 : R2} (h1 : OpS g f r1) (h : ∀ x y H Q, r1 x y H Q → r2 x y H Q) : OpS g f r2 :=
  fun r M H x y v M' Q R lx ly e k => h _ _ _ _ (h1 r M H x y v M' Q R lx ly e k)
section
variable {g : Cfg} {r : Nat → Addr} {M : Mem} {H : Hp}
theorem alloc_fin {o : Ob} {u : HO} {Q : VK} (R : Rel g r M H) (x : HoR g r o u) (l : o.lt M.length) (k : Kont g r M H (.ref M.length) (M ++ [o]) Q) (p : Addr) (hp : H p = none) : Q (.ref p) (upd H p u) := by
  have z := k (ext r M.length p) _ (nxt_ext hp) (R.alloc hp x l) (by show M.length < (M ++ [o]).length; simp)
  rwa [show mv g (ext r M.length p) (.ref M.length) = V.ref p from congrArg V.ref ext_at] at z
theorem stay {v : Val} {Q : VK} (R : Rel g r M H) (l : v.lt M.length) (k : Kont g r M H v M Q) : Q (mv g r v) H := k r H Nxt.refl R l
/-! ### seeing objects -/
def lstOf (g : Cfg) (M : Mem) : Val → Option (List Val)
  | .ref a => match M[a]? with
    | some (.lst xs) => some xs
    | some (.fz (.lst xs)) => some xs
    | _ => none
  | .con k => match g.con k with
    | some (true, xs) => some xs
    | _ => none
  | _ => none
def tupOf (g : Cfg) (M : Mem) : Val → Option (List Val)
  | .ref a => match M[a]? with
    | some (.tup xs) => some xs
    | _ => none
  | .con k => match g.con k with
    | some (false, xs) => some xs
    | _ => none
  | _ => none
def seqOf (g : Cfg) (M : Mem) (v : Val) : Option (List Val) := match lstOf g M v with
  | some xs => some xs
  | none => tupOf g M v
theorem lstOf_ok {K : PySem.W.Frag} {v : Val} {xs : List Val} (hK : ConOk g K) (R : Rel g r M H) (e : lstOf g M v = some xs) : ∃ p, mv g r v = .ref p ∧ SqL K H p (xs.map (mv g r)) ∧ Lts M.length xs := by
  cases v with
  | ref a =>
    simp only [lstOf] at e
    cases hm : M[a]? with
    | none => rw [hm] at e; cases e
    | some o =>
      rw [hm] at e
      obtain ⟨u, hu, x⟩ := R.obj a o hm
      have wf := R.wf a o hm
      cases o with
      | lst ys =>
        cases e
        cases x
        exact ⟨_, rfl, .inl (.inl hu), wf⟩
      | fz o =>
        cases o with
        | lst ys =>
          cases e
          cases x with
          | fz x =>
            cases x
            exact ⟨_, rfl, .inl (.inr ⟨_, hu⟩), wf⟩
        | _ => cases e
      | _ => cases e
  | con k =>
    simp only [lstOf] at e
    split at e
    · rename_i ys h
      cases e
      obtain ⟨h1, h2⟩ := hK k _ _ h
      exact ⟨_, rfl, h2 r H, h1 _⟩
    · cases e
  | _ => cases e
theorem tupOf_ok {K : PySem.W.Frag} {v : Val} {xs : List Val} (hK : ConOk g K) (R : Rel g r M H) (e : tupOf g M v = some xs) : ∃ p, mv g r v = .ref p ∧ SqT K H p (xs.map (mv g r)) ∧ Lts M.length xs := by
  cases v with
  | ref a =>
    simp only [tupOf] at e
    cases hm : M[a]? with
    | none => rw [hm] at e; cases e
    | some o =>
      rw [hm] at e
      obtain ⟨u, hu, x⟩ := R.obj a o hm
      have wf := R.wf a o hm
      cases o with
      | tup ys =>
        cases e
        cases x
        exact ⟨_, rfl, .inl (.inl hu), wf⟩
      | _ => cases e
  | con k =>
    simp only [tupOf] at e
    split at e
    · rename_i ys h
      cases e
      obtain ⟨h1, h2⟩ := hK k _ _ h
      exact ⟨_, rfl, h2 r H, h1 _⟩
    · cases e
  | _ => cases e
theorem seqOf_ok {K : PySem.W.Frag} {v : Val} {xs : List Val} (hK : ConOk g K) (R : Rel g r M H) (e : seqOf g M v = some xs) : ∃ p, mv g r v = .ref p ∧ (SqL K H p (xs.map (mv g r)) ∨ SqT K H p (xs.map (mv g r))) ∧ Lts M.length xs := by
  unfold seqOf at e
  cases h : lstOf g M v with
  | some ys =>
    rw [h] at e
    cases e
    obtain ⟨p, a, b, c⟩ := lstOf_ok (K := K) hK R h
    exact ⟨p, a, .inl b, c⟩
  | none =>
    rw [h] at e
    obtain ⟨p, a, b, c⟩ := tupOf_ok (K := K) hK R e
    exact ⟨p, a, .inr b, c⟩
theorem lst_at {a : Nat} {xs : List Val} (R : Rel g r M H) (e : M[a]? = some (.lst xs)) : H (r a) = some (.lst (xs.map (mv g r))) := by
  obtain ⟨u, hu, x⟩ := R.obj a _ e
  cases x
  exact hu
theorem tup_at {a : Nat} {xs : List Val} (R : Rel g r M H) (e : M[a]? = some (.tup xs)) : H (r a) = some (.tup (xs.map (mv g r))) := by
  obtain ⟨u, hu, x⟩ := R.obj a _ e
  cases x
  exact hu
theorem atI_map {α β : Type} (f : α → β) (xs : List α) (i : Int) : atI (xs.map f) i = (atI xs i).map f := by
  unfold atI
  rw [List.length_map]
  cases ixN xs.length i with
  | none => rfl
  | some j => simp
theorem atI_mem {α : Type} {xs : List α} {i : Int} {v : α} (h : atI xs i = some v) : v ∈ xs := by
  unfold atI at h
  cases e : ixN xs.length i with
  | none => rw [e] at h; cases h
  | some j =>
    rw [e] at h
    exact List.mem_of_getElem? h
end
/-! ### arithmetic -/
def iAdd (x y : Val) (M : Mem) : R Val := match x, y with
  | .int i, .int j => .ok (.int (i + j)) M
  | _, _ => .no
def sAdd (x y : Val) (M : Mem) : R Val := match x, y with
  | .str a, .str b => if a.length + b.length ≤ 1000000 then .ok (.str (a ++ b)) M else .no
  | _, _ => .no
def lAdd (x y : Val) (M : Mem) : R Val := match x, y with
  | .ref a, .ref b => match M[a]?, M[b]? with
    | some (.lst xs), some (.lst ys) => if xs.length + ys.length ≤ 1000000 then .ok (.ref M.length) (M ++ [.lst (xs ++ ys)]) else .no
    | _, _ => .no
  | _, _ => .no
def oAdd (x y : Val) (M : Mem) : R Val := match x with
  | .int _ => iAdd x y M
  | .str _ => sAdd x y M
  | _ => lAdd x y M
def oSub (x y : Val) (M : Mem) : R Val := match x, y with
  | .int i, .int j => .ok (.int (i - j)) M
  | _, _ => .no
def iMul (x y : Val) (M : Mem) : R Val := match x, y with
  | .int i, .int j => if (-18446744073709551616 < i ∧ i < 18446744073709551616) ∨ (-18446744073709551616 < j ∧ j < 18446744073709551616) then .ok (.int (i * j)) M else .no
  | _, _ => .no
def oDiv (x y : Val) (M : Mem) : R Val := match x, y with
  | .int i, .int j => if 0 < j ∧ j < 18446744073709551616 then .ok (.int (i / j)) M else .no
  | _, _ => .no
def oMod (x y : Val) (M : Mem) : R Val := match x, y with
  | .int i, .int j => if 0 < j then .ok (.int (i % j)) M else .no
  | _, _ => .no
def oPow (x y : Val) (M : Mem) : R Val := match x, y with
  | .int i, .int j => if 0 ≤ j ∧ j ≤ 1000 ∧ -1000000 < i ∧ i < 1000000 then .ok (.int (i ^ j.toNat)) M else .no
  | _, _ => .no
def oShl (x y : Val) (M : Mem) : R Val := match x, y with
  | .int i, .int j => if 0 ≤ j ∧ j ≤ 1000 ∧ -1000000 < i ∧ i < 1000000 then .ok (.int (i * 2 ^ j.toNat)) M else .no
  | _, _ => .no
def oShr (x y : Val) (M : Mem) : R Val := match x, y with
  | .int i, .int j => if 0 ≤ j then .ok (.int (i / 2 ^ j.toNat)) M else .no
  | _, _ => .no
def oAnd (x y : Val) (M : Mem) : R Val := match x, y with
  | .int i, .int j => .ok (.int (Builtin.bitAnd i j)) M
  | _, _ => .no
def oOr (x y : Val) (M : Mem) : R Val := match x, y with
  | .int i, .int j => .ok (.int (Builtin.bitOr i j)) M
  | _, _ => .no
def lMul (x y : Val) (M : Mem) : R Val := match x, y with
  | .ref a, .int k => match M[a]? with
    | some (.lst xs) => if k ≤ 1000000 ∧ -1000000 ≤ k ∧ xs.length * k.toNat ≤ 1000000 then .ok (.ref M.length) (M ++ [.lst ((List.replicate k.toNat xs).flatten)]) else .no
    | _ => .no
  | _, _ => .no
section
variable {g : Cfg}
theorem int2 {f : Val → Val → Mem → R Val} {C : Int → Int → Prop} {h : Int → Int → V} (hf : ∀ x y M v M', f x y M = .ok v M' → ∃ i j, x = .int i ∧ y = .int j ∧ C i j ∧ M' = M ∧ (∀ g r, mv g r v = h i j) ∧ ∀ n, v.lt n) : OpS g f (rI C h) := by
  intro r M H x y v M' Q R lx ly e k
  obtain ⟨i, j, rfl, rfl, hc, rfl, hv, hl⟩ := hf _ _ _ _ _ e
  refine ⟨i, j, rfl, rfl, hc, ?_⟩
  rw [← hv g r]
  exact stay R (hl _) k
theorem rI0_of {h : Int → Int → V} {x y : V} {H : Hp} {Q : VK} (z : rI (fun _ _ => True) h x y H Q) : rI0 h x y H Q := by
  obtain ⟨i, j, a, b, _, q⟩ := z
  exact ⟨i, j, a, b, q⟩
theorem iAdd_s : OpS g iAdd (rI0 fun i j => .int (i + j)) := (int2 (C := fun _ _ => True) fun x y M v M' e => by
  cases x <;> cases y <;> simp only [iAdd] at e <;> cases e
  exact ⟨_, _, rfl, rfl, trivial, rfl, fun _ _ => rfl, fun _ => trivial⟩).imp fun _ _ _ _ => rI0_of
theorem sAdd_s : OpS g sAdd (fun x y H Q => ∃ i j, x = .str i ∧ y = .str j ∧ i.length + j.length ≤ sizeLine ∧ Q (.str (i ++ j)) H) := by
  intro r M H x y v M' Q R lx ly e k
  cases x <;> cases y <;> simp only [sAdd] at e <;> try cases e
  rename_i a b
  split at e
  · rename_i hl
    cases e
    refine ⟨_, _, rfl, rfl, ?_, ?_⟩
    · rw [SX.S_len, SX.S_len]; exact line6 hl
    · rw [SX.S_cat]
      exact stay (v := .str (a ++ b)) R trivial k
  · cases e
theorem lAdd_s : OpS g lAdd rCat := by
  intro r M H x y v M' Q R lx ly e k
  cases x <;> cases y <;> simp only [lAdd] at e <;> try cases e
  rename_i a b
  split at e
  · rename_i xs ys h1 h2
    split at e
    · rename_i hl
      cases e
      refine ⟨_, _, _, _, rfl, rfl, lst_at R h1, lst_at R h2, ?_, ?_⟩
      · rw [List.length_map, List.length_map]; exact line6 hl
      · rw [← List.map_append]
        exact alloc_fin R .lst (Lts.app (R.wf _ _ h1) (R.wf _ _ h2)) k
    · cases e
  · cases e
theorem oAdd_s : OpS g oAdd (fun x y H Q => rI0 (fun i j => .int (i + j)) x y H Q ∨ ((∃ i j, x = .str i ∧ y = .str j ∧ i.length + j.length ≤ sizeLine ∧ Q (.str (i ++ j)) H) ∨ rCat x y H Q)) := by
  intro r M H x y v M' Q R lx ly e k
  cases x with
  | int i => exact .inl (iAdd_s r M H _ y v M' Q R lx ly e k)
  | str a => exact .inr (.inl (sAdd_s r M H _ y v M' Q R lx ly e k))
  | _ => exact .inr (.inr (lAdd_s r M H _ y v M' Q R lx ly e k))
theorem oSub_s : OpS g oSub (rI0 fun i j => .int (i - j)) := (int2 (C := fun _ _ => True) fun x y M v M' e => by
  cases x <;> cases y <;> simp only [oSub] at e <;> cases e
  exact ⟨_, _, rfl, rfl, trivial, rfl, fun _ _ => rfl, fun _ => trivial⟩).imp fun _ _ _ _ => rI0_of
theorem iMul_s : OpS g iMul (rI CMul fun i j => .int (i * j)) := int2 fun x y M v M' e => by
  cases x <;> cases y <;> simp only [iMul] at e <;> try cases e
  split at e
  · rename_i h
    cases e
    exact ⟨_, _, rfl, rfl, h, rfl, fun _ _ => rfl, fun _ => trivial⟩
  · cases e
theorem oDiv_s : OpS g oDiv (rI CDivW fun i j => .int (i / j)) := int2 fun x y M v M' e => by
  cases x <;> cases y <;> simp only [oDiv] at e <;> try cases e
  rename_i i j
  split at e
  · rename_i h
    cases e
    exact ⟨_, _, rfl, rfl, wide_div (b := 64) h.1 (by have := h.1; have := h.2; omega) (by decide) (by decide), rfl, fun _ _ => rfl, fun _ => trivial⟩
  · cases e
theorem oMod_s : OpS g oMod (rI (fun _ j => 0 < j) fun i j => .int (i % j)) := int2 fun x y M v M' e => by
  cases x <;> cases y <;> simp only [oMod] at e <;> try cases e
  split at e
  · rename_i h
    cases e
    exact ⟨_, _, rfl, rfl, h, rfl, fun _ _ => rfl, fun _ => trivial⟩
  · cases e
theorem oPow_s : OpS g oPow (rI CPow fun i j => .int (i ^ j.toNat)) := int2 fun x y M v M' e => by
  cases x <;> cases y <;> simp only [oPow] at e <;> try cases e
  split at e
  · rename_i h
    cases e
    exact ⟨_, _, rfl, rfl, ⟨h.1, by omega, by omega⟩, rfl, fun _ _ => rfl, fun _ => trivial⟩
  · cases e
theorem oShl_s : OpS g oShl (rI CPow fun i j => .int (i * 2 ^ j.toNat)) := int2 fun x y M v M' e => by
  cases x <;> cases y <;> simp only [oShl] at e <;> try cases e
  split at e
  · rename_i h
    cases e
    exact ⟨_, _, rfl, rfl, ⟨h.1, by omega, by omega⟩, rfl, fun _ _ => rfl, fun _ => trivial⟩
  · cases e
theorem oShr_s : OpS g oShr (rI (fun _ j => 0 ≤ j) fun i j => .int (i / 2 ^ j.toNat)) := int2 fun x y M v M' e => by
  cases x <;> cases y <;> simp only [oShr] at e <;> try cases e
  split at e
  · rename_i h
    cases e
    exact ⟨_, _, rfl, rfl, h, rfl, fun _ _ => rfl, fun _ => trivial⟩
  · cases e
theorem oAnd_s : OpS g oAnd (rI0 fun i j => .int (Builtin.bitAnd i j)) := (int2 (C := fun _ _ => True) fun x y M v M' e => by
  cases x <;> cases y <;> simp only [oAnd] at e <;> cases e
  exact ⟨_, _, rfl, rfl, trivial, rfl, fun _ _ => rfl, fun _ => trivial⟩).imp fun _ _ _ _ => rI0_of
theorem oOr_s : OpS g oOr (rI0 fun i j => .int (Builtin.bitOr i j)) := (int2 (C := fun _ _ => True) fun x y M v M' e => by
  cases x <;> cases y <;> simp only [oOr] at e <;> cases e
  exact ⟨_, _, rfl, rfl, trivial, rfl, fun _ _ => rfl, fun _ => trivial⟩).imp fun _ _ _ _ => rI0_of
end
/-! ### comparisons -/
def flat : Val → Bool
  | .ref _ => false
  | .con _ => false
  | _ => true
def eqF : Val → Val → Bool
  | .non, .non => true
  | .bl a, .bl b => a == b
  | .bl a, .int b => (if a then 1 else 0) == b
  | .int a, .bl b => a == (if b then 1 else 0)
  | .int a, .int b => a == b
  | .str a, .str b => a == b
  | _, _ => false
/-- data, to be compared -/
inductive Dat where
  | non | bl (b : Bool) | int (i : Int) | str (s : List Nat) | lst (xs : List Dat) | tup (xs : List Dat)
mutual
def eqD : Dat → Dat → Bool
  | .non, .non => true
  | .bl a, .bl b => a == b
  | .bl a, .int b => (if a then 1 else 0) == b
  | .int a, .bl b => a == (if b then 1 else 0)
  | .int a, .int b => a == b
  | .str a, .str b => a == b
  | .lst xs, .lst ys => eqDs xs ys
  | .tup xs, .tup ys => eqDs xs ys
  | _, _ => false
def eqDs : List Dat → List Dat → Bool
  | [], [] => true
  | x :: xs, y :: ys => eqD x y && eqDs xs ys
  | _, _ => false
end
mutual
def toPy : Dat → PyData
  | .non => .none
  | .bl b => .bool b
  | .int i => .int i
  | .str s => .str (S s)
  | .lst xs => .list (toPys xs)
  | .tup xs => .tuple (toPys xs)
def toPys : List Dat → List PyData
  | [] => []
  | x :: xs => toPy x :: toPys xs
end
mutual
theorem eqv_toPy : ∀ d e : Dat, PyData.eqv (toPy d) (toPy e) = eqD d e
  | .non, e => by cases e <;> simp [toPy, PyData.eqv, eqD]
  | .bl b, e => by cases e <;> simp [toPy, PyData.eqv, eqD]
  | .int i, e => by cases e <;> simp [toPy, PyData.eqv, eqD]
  | .str s, e => by
    cases e <;> simp only [toPy, PyData.eqv, eqD]
    exact SX.S_beq _ _
  | .lst xs, e => by
    cases e <;> simp only [toPy, PyData.eqv, eqD]
    exact eqv_toPys _ _
  | .tup xs, e => by
    cases e <;> simp only [toPy, PyData.eqv, eqD]
    exact eqv_toPys _ _
theorem eqv_toPys : ∀ ds es : List Dat, PyData.eqvAll (toPys ds) (toPys es) = eqDs ds es
  | [], [] => by simp [toPys, PyData.eqvAll, eqDs]
  | [], _ :: _ => by simp [toPys, PyData.eqvAll, eqDs]
  | _ :: _, [] => by simp [toPys, PyData.eqvAll, eqDs]
  | d :: ds, e :: es => by
    simp only [toPys, PyData.eqvAll, eqDs]
    rw [eqv_toPy d e, eqv_toPys ds es]
end

def mapO (f : Val → Option Dat) : List Val → Option (List Dat)
  | [] => some []
  | x :: xs => match f x, mapO f xs with
    | some d, some ds => some (d :: ds)
    | _, _ => none
def deep (g : Cfg) (M : Mem) : Nat → Val → Option Dat
  | _, .non => some .non
  | _, .bl b => some (.bl b)
  | _, .int i => some (.int i)
  | _, .str s => if s.all (· < 1114112) then some (.str s) else none
  | 0, _ => none
  | n + 1, v => match lstOf g M v with
    | some xs => (mapO (deep g M n) xs).map .lst
    | none => match tupOf g M v with
      | some xs => (mapO (deep g M n) xs).map .tup
      | none => none
mutual
def dep : Dat → Nat
  | .lst xs => deps xs + 1
  | .tup xs => deps xs + 1
  | _ => 0
def deps : List Dat → Nat
  | [] => 0
  | x :: xs => max (dep x) (deps xs)
end
mutual
theorem dep_py : ∀ d : Dat, PyData.depth (toPy d) = dep d
  | .non => by simp [toPy, PyData.depth, dep]
  | .bl _ => by simp [toPy, PyData.depth, dep]
  | .int _ => by simp [toPy, PyData.depth, dep]
  | .str _ => by simp [toPy, PyData.depth, dep]
  | .lst xs => by simp only [toPy, PyData.depth, dep]; rw [deps_py xs]
  | .tup xs => by simp only [toPy, PyData.depth, dep]; rw [deps_py xs]
theorem deps_py : ∀ ds : List Dat, PyData.depthAll (toPys ds) = deps ds
  | [] => by simp [toPys, PyData.depthAll, deps]
  | d :: ds => by simp only [toPys, PyData.depthAll, deps]; rw [dep_py d, deps_py ds]
end
/-- what `deep` tells -/
def DeepOk (g : Cfg) (K : PySem.W.Frag) (r : Nat → Addr) (H : Hp) (n : Nat) (v : Val) (d : Dat) : Prop := Dp K H (mv g r v) (toPy d) ∧ dep d ≤ n ∧ PyData.canLay0 (toPy d) = true
theorem mapO_ok {g : Cfg} {K : PySem.W.Frag} {r : Nat → Addr} {H : Hp} {n : Nat} {f : Val → Option Dat} : ∀ {xs : List Val} {ds : List Dat}, mapO f xs = some ds → (∀ v ∈ xs, ∀ d, f v = some d → DeepOk g K r H n v d) →
    DpAll K H (xs.map (mv g r)) (toPys ds) ∧ deps ds ≤ n ∧ PyData.canLayAll0 (toPys ds) = true
  | [], ds, e, _ => by
    cases e
    exact ⟨.nil, Nat.zero_le _, by simp [toPys, PyData.canLayAll0]⟩
  | x :: xs, ds, e, h => by
    simp only [mapO] at e
    split at e
    · rename_i d ds' h1 h2
      cases e
      obtain ⟨a, b, c⟩ := h x List.mem_cons_self d h1
      obtain ⟨a', b', c'⟩ := mapO_ok h2 fun v hv => h v (List.mem_cons_of_mem _ hv)
      refine ⟨.cons a a', ?_, ?_⟩
      · simp only [deps]; omega
      · simp only [toPys, PyData.canLayAll0, c, c', Bool.and_self]
    · cases e
theorem deep_ok {g : Cfg} {K : PySem.W.Frag} {r : Nat → Addr} {M : Mem} {H : Hp} (hK : ConOk g K) (R : Rel g r M H) : ∀ (n : Nat) (v : Val) (d : Dat), deep g M n v = some d → DeepOk g K r H n v d := by
  have flt : ∀ (n : Nat) (v : Val) (d : Dat), flat v = true → deep g M n v = some d → DeepOk g K r H n v d := by
    intro n v d hf e
    cases v with
    | non => simp only [deep] at e; cases e; exact ⟨.non, Nat.zero_le _, by simp [toPy, PyData.canLay0]⟩
    | bl b => simp only [deep] at e; cases e; exact ⟨.bl b, Nat.zero_le _, by simp [toPy, PyData.canLay0]⟩
    | int b => simp only [deep] at e; cases e; exact ⟨.int b, Nat.zero_le _, by simp [toPy, PyData.canLay0]⟩
    | str s =>
      simp only [deep] at e
      split at e
      · rename_i h
        cases e
        refine ⟨.str _, Nat.zero_le _, ?_⟩
        simp only [toPy, PyData.canLay0, PyData.strOk]
        simpa using h
      · cases e
    | ref _ => cases hf
    | con _ => cases hf
  intro n
  induction n with
  | zero =>
    intro v d e
    by_cases hf : flat v = true
    · exact flt 0 v d hf e
    · cases v <;> simp_all [deep, flat]
  | succ n ih =>
    intro v d e
    by_cases hf : flat v = true
    · exact flt _ v d hf e
    · have e' : (match lstOf g M v with
        | some xs => (mapO (deep g M n) xs).map Dat.lst
        | none => match tupOf g M v with
          | some xs => (mapO (deep g M n) xs).map Dat.tup
          | none => none) = some d := by
        cases v <;> simp_all [deep, flat]
      split at e'
      · rename_i xs hx
        obtain ⟨ds, h1, rfl⟩ := Option.map_eq_some_iff.mp e'
        obtain ⟨p, a, b, c⟩ := lstOf_ok (K := K) hK R hx
        obtain ⟨x1, x2, x3⟩ := mapO_ok h1 fun v _ d => ih v d
        refine ⟨?_, by simp only [dep]; omega, by simp only [toPy, PyData.canLay0]; exact x3⟩
        rw [a]
        exact .lst b x1
      · split at e'
        · rename_i xs hx
          obtain ⟨ds, h1, rfl⟩ := Option.map_eq_some_iff.mp e'
          obtain ⟨p, a, b, c⟩ := tupOf_ok (K := K) hK R hx
          obtain ⟨x1, x2, x3⟩ := mapO_ok h1 fun v _ d => ih v d
          refine ⟨?_, by simp only [dep]; omega, by simp only [toPy, PyData.canLay0]; exact x3⟩
          rw [a]
          exact .tup b x1
        · cases e'
theorem shaped_of {d : Dat} {n : Nat} (h : dep d ≤ n) (hn : n ≤ 60) (c : PyData.canLay0 (toPy d) = true) : SeqAt.shaped (toPy d) = true := by
  unfold SeqAt.shaped
  rw [c, Bool.true_and, dep_py]
  exact decide_eq_true (by omega)
def oEqD (g : Cfg) (neg : Bool) (x y : Val) (M : Mem) : R Val := match deep g M 60 x, deep g M 60 y with
  | some d, some e => .ok (.bl (if neg then !eqD d e else eqD d e)) M
  | _, _ => .no
def scalF : Val → Val → Bool
  | .bl _, .int _ => false
  | .int _, .bl _ => false
  | x, y => flat x && flat y
def oEq (g : Cfg) (x y : Val) (M : Mem) : R Val := if scalF x y = true then .ok (.bl (eqF x y)) M else oEqD g false x y M
def oNe (g : Cfg) (x y : Val) (M : Mem) : R Val := if scalF x y = true then .ok (.bl (!eqF x y)) M else oEqD g true x y M
theorem scal_ok {g : Cfg} {r : Nat → Addr} {x y : Val} (h : scalF x y = true) : scal (mv g r x) (mv g r y) = true ∧ decide (mv g r x = mv g r y) = eqF x y := by
  cases x <;> cases y <;> simp_all [scalF, flat, scal, mv, eqF]
  · rename_i a b
    rw [Bool.eq_iff_iff]; simp
  · rename_i a b
    rw [Bool.eq_iff_iff]; simp
  · rename_i a b
    rw [Bool.eq_iff_iff]; simp
theorem oEqD_s {g : Cfg} {K : PySem.W.Frag} {neg : Bool} (hK : ConOk g K) : OpS g (oEqD g neg) (fun x y H Q => ∃ d e, Dp K H x d ∧ Dp K H y e ∧ SeqAt.shaped d = true ∧ SeqAt.shaped e = true ∧ Q (.bl (if neg then !PyData.eqv d e else PyData.eqv d e)) H) := by
  intro r M H x y v M' Q R lx ly e k
  simp only [oEqD] at e
  split at e
  · rename_i d1 d2 h1 h2
    cases e
    obtain ⟨a1, a2, a3⟩ := deep_ok hK R 60 x d1 h1
    obtain ⟨b1, b2, b3⟩ := deep_ok hK R 60 y d2 h2
    refine ⟨_, _, a1, b1, shaped_of a2 (Nat.le_refl _) a3, shaped_of b2 (Nat.le_refl _) b3, ?_⟩
    rw [eqv_toPy]
    exact stay (v := .bl _) R trivial k
  · cases e
theorem oEq_s {g : Cfg} {K : PySem.W.Frag} (hK : ConOk g K) : OpS g (oEq g) (fun x y H Q => rEq x y H Q ∨ rEqD K x y H Q) := by
  intro r M H x y v M' Q R lx ly e k
  unfold oEq at e
  split at e
  · rename_i h
    cases e
    obtain ⟨h1, h2⟩ := scal_ok (g := g) (r := r) h
    refine .inl ⟨h1, ?_⟩
    rw [h2]
    exact stay (v := .bl _) R trivial k
  · refine .inr ?_
    obtain ⟨d, e', a, b, c, f, q⟩ := oEqD_s hK r M H x y v M' Q R lx ly e k
    exact ⟨d, e', a, b, c, f, q⟩
theorem oNe_s {g : Cfg} {K : PySem.W.Frag} (hK : ConOk g K) : OpS g (oNe g) (fun x y H Q => rNe x y H Q ∨ rNeD K x y H Q) := by
  intro r M H x y v M' Q R lx ly e k
  unfold oNe at e
  split at e
  · rename_i h
    cases e
    obtain ⟨h1, h2⟩ := scal_ok (g := g) (r := r) h
    refine .inl ⟨h1, ?_⟩
    rw [h2]
    exact stay (v := .bl _) R trivial k
  · refine .inr ?_
    obtain ⟨d, e', a, b, c, f, q⟩ := oEqD_s hK r M H x y v M' Q R lx ly e k
    exact ⟨d, e', a, b, c, f, q⟩
/-! order of ints -/
def oCmp (p : Int → Int → Bool) (x y : Val) (M : Mem) : R Val := match x, y with
  | .int i, .int j => .ok (.bl (p i j)) M
  | _, _ => .no
theorem oCmp_s {g : Cfg} {p : Int → Int → Bool} : OpS g (oCmp p) (rI0 fun i j => .bl (p i j)) := (int2 (C := fun _ _ => True) fun x y M v M' e => by
  cases x <;> cases y <;> simp only [oCmp] at e <;> cases e
  exact ⟨_, _, rfl, rfl, trivial, rfl, fun _ _ => rfl, fun _ => trivial⟩).imp fun _ _ _ _ => rI0_of
/-! is None -/
def oIs (neg : Bool) (x y : Val) (M : Mem) : R Val := match y with
  | .non => .ok (.bl (if neg then !decide (x = .non) else decide (x = .non))) M
  | _ => .no
theorem mv_non {g : Cfg} {r : Nat → Addr} {x : Val} : decide (mv g r x = V.non) = decide (x = .non) := by
  cases x <;> simp [mv]
theorem oIs_s {g : Cfg} : OpS g (oIs false) (fun x y H Q => y = .non ∧ Q (.bl (decide (x = .non))) H) := by
  intro r M H x y v M' Q R lx ly e k
  cases y <;> simp only [oIs] at e <;> try cases e
  refine ⟨rfl, ?_⟩
  rw [mv_non]
  exact stay (v := .bl _) R trivial k
theorem oIsN_s {g : Cfg} : OpS g (oIs true) (fun x y H Q => y = .non ∧ Q (.bl (!decide (x = .non))) H) := by
  intro r M H x y v M' Q R lx ly e k
  cases y <;> simp only [oIs] at e <;> try cases e
  refine ⟨rfl, ?_⟩
  rw [mv_non]
  exact stay (v := .bl _) R trivial k
/-! keys of dicts -/
def keyOf : Val → Option DKey
  | .int i => some (.inl i)
  | .str s => some (.inr s)
  | _ => none
def keysOf : List Val → Option (List DKey)
  | [] => some []
  | x :: xs => match keyOf x, keysOf xs with
    | some k, some ks => some (k :: ks)
    | _, _ => none
def lkp {κ : Type} [DecidableEq κ] (kvs : List (κ × Val)) (k : κ) : Option Val := match kvs with
  | [] => none
  | p :: r => if p.1 = k then some p.2 else lkp r k
def putk {κ : Type} [DecidableEq κ] (kvs : List (κ × Val)) (k : κ) (v : Val) : List (κ × Val) :=
  if (kvs.any fun p => decide (p.1 = k)) = true then kvs.map (fun p => if p.1 = k then (p.1, v) else p) else kvs ++ [(k, v)]
def dropk {κ : Type} [DecidableEq κ] (kvs : List (κ × Val)) (k : κ) : List (κ × Val) := kvs.filter fun p => decide (p.1 ≠ k)
theorem mk_inj {a b : DKey} (h : mk a = mk b) : a = b := by
  cases a with
  | inl i => cases b with
    | inl j => exact congrArg Sum.inl (Sum.inl.inj h)
    | inr t => cases h
  | inr s => cases b with
    | inl j => cases h
    | inr t => exact congrArg Sum.inr (SX.S_inj (Sum.inr.inj h))
theorem mks_inj : ∀ {a b : List DKey}, a.map mk = b.map mk → a = b
  | [], [], _ => rfl
  | [], _ :: _, h => by cases h
  | _ :: _, [], h => by cases h
  | x :: a, y :: b, h => by
    rw [List.map_cons, List.map_cons] at h
    injection h with h1 h2
    rw [mk_inj h1, mks_inj h2]
section
variable {κ μ : Type} [DecidableEq κ] [DecidableEq μ] {f : κ → μ} {h : Val → V} (hf : ∀ a b, f a = f b → a = b)
include hf
theorem valV_map (k : κ) : ∀ kvs : List (κ × Val), valV (kvs.map fun p => (f p.1, h p.2)) (f k) = (lkp kvs k).map h
  | [] => rfl
  | p :: r => by
    rw [List.map_cons]
    by_cases e : p.1 = k
    · rw [valV_pos (by rw [e])]
      simp only [lkp, e, if_true, Option.map_some]
    · rw [valV_neg (fun z => e (hf _ _ z)), valV_map k r]
      simp only [lkp, e, if_false]
theorem any_map (k : κ) (kvs : List (κ × Val)) : ((kvs.map fun p => (f p.1, h p.2)).any fun kv => decide (kv.1 = f k)) = kvs.any fun p => decide (p.1 = k) := by
  rw [List.any_map]
  congr 1
  funext p
  show decide (f p.1 = f k) = decide (p.1 = k)
  rw [decide_eq_decide]
  exact ⟨hf _ _, fun z => congrArg f z⟩
theorem putK_map (k : κ) (v : Val) (kvs : List (κ × Val)) : putK (kvs.map fun p => (f p.1, h p.2)) (f k) (h v) = (putk kvs k v).map fun p => (f p.1, h p.2) := by
  unfold putK putk
  rw [any_map hf]
  split
  · rw [List.map_map, List.map_map]
    apply List.map_congr_left
    intro p _
    show (if f p.1 = f k then (f p.1, h v) else (f p.1, h p.2)) = (fun q : κ × Val => (f q.1, h q.2)) (if p.1 = k then (p.1, v) else p)
    by_cases e : p.1 = k
    · rw [if_pos (congrArg f e), if_pos e]
    · rw [if_neg (fun z => e (hf _ _ z)), if_neg e]
  · rw [List.map_append]; rfl
theorem dropK_map (k : κ) (kvs : List (κ × Val)) : dropK (kvs.map fun p => (f p.1, h p.2)) (f k) = (dropk kvs k).map fun p => (f p.1, h p.2) := by
  unfold dropK dropk
  rw [List.filter_map]
  congr 1
  apply List.filter_congr
  intro p _
  show decide (¬ f p.1 = f k) = decide (¬ p.1 = k)
  rw [decide_eq_decide]
  exact ⟨fun z e => z (congrArg f e), fun z e => z (hf _ _ e)⟩
end
theorem lkp_mem {κ : Type} [DecidableEq κ] {k : κ} {v : Val} : ∀ {kvs : List (κ × Val)}, lkp kvs k = some v → ∃ p ∈ kvs, p.2 = v
  | [], h => by cases h
  | p :: r, h => by
    simp only [lkp] at h
    split at h
    · cases h; exact ⟨p, List.mem_cons_self, rfl⟩
    · obtain ⟨q, a, b⟩ := lkp_mem h
      exact ⟨q, List.mem_cons_of_mem _ a, b⟩
theorem putk_mem {κ : Type} [DecidableEq κ] {k : κ} {v : Val} {kvs : List (κ × Val)} {p : κ × Val} (h : p ∈ putk kvs k v) : p.2 = v ∨ p ∈ kvs := by
  unfold putk at h
  split at h
  · obtain ⟨q, hq, e⟩ := List.mem_map.mp h
    split at e
    · cases e; exact .inl rfl
    · cases e; exact .inr hq
  · rcases List.mem_append.mp h with h | h
    · exact .inr h
    · rw [List.mem_singleton] at h
      cases h; exact .inl rfl
theorem keyOf_ok {g : Cfg} {r : Nat → Addr} {v : Val} {k : DKey} (h : keyOf v = some k) : mv g r v = kV (mk k) := by
  cases v <;> simp only [keyOf] at h <;> cases h <;> rfl
theorem keysOf_ok {g : Cfg} {r : Nat → Addr} : ∀ {vs : List Val} {ks : List DKey}, keysOf vs = some ks → vs.map (mv g r) = (ks.map mk).map kV
  | [], ks, h => by cases h; rfl
  | v :: vs, ks, h => by
    simp only [keysOf] at h
    split at h
    · rename_i k ks' h1 h2
      cases h
      rw [List.map_cons, List.map_cons, List.map_cons, keyOf_ok h1, keysOf_ok h2]
    · cases h
/-- a dict that is read: its entries by plain keys | by keys that are tuples -/
def dkOf (M : Mem) (a : Nat) : Option (List (DKey × Val)) := match M[a]? with
  | some (.dk kvs) => some kvs
  | some (.fz (.dk kvs)) => some kvs
  | _ => none
def dtOf (M : Mem) (a : Nat) : Option (List (List DKey × Val)) := match M[a]? with
  | some (.dt kvs) => some kvs
  | some (.fz (.dt kvs)) => some kvs
  | _ => none
def tkeyOf (M : Mem) : Val → Option (List DKey)
  | .ref b => match M[b]? with
    | some (.tup ks) => keysOf ks
    | _ => none
  | _ => none
/-- what a dict holds at a key -/
def dgo (M : Mem) (d k : Val) : Option (Option Val) := match d with
  | .ref a => match dkOf M a with
    | some kvs => (keyOf k).map (lkp kvs)
    | none => match dtOf M a with
      | some kvs => (tkeyOf M k).map (lkp kvs)
      | none => none
  | _ => none
section
variable {g : Cfg} {r : Nat → Addr} {M : Mem} {H : Hp}
theorem dkOf_ok {a : Nat} {kvs : List (DKey × Val)} (R : Rel g r M H) (e : dkOf M a = some kvs) : Rd H (r a) (.dK (kvs.map (mkv g r))) ∧ ∀ p ∈ kvs, p.2.lt M.length := by
  unfold dkOf at e
  cases hm : M[a]? with
  | none => rw [hm] at e; cases e
  | some o =>
    rw [hm] at e
    obtain ⟨u, hu, x⟩ := R.obj a o hm
    have wf := R.wf a o hm
    cases o with
    | dk ys => cases e; cases x; exact ⟨.inl hu, wf⟩
    | fz o =>
      cases o with
      | dk ys =>
        cases e
        cases x with
        | fz x => cases x; exact ⟨.inr ⟨_, hu⟩, wf⟩
      | _ => cases e
    | _ => cases e
theorem dtOf_ok {a : Nat} {kvs : List (List DKey × Val)} (R : Rel g r M H) (e : dtOf M a = some kvs) : Rd H (r a) (.dT (kvs.map (mkt g r))) ∧ ∀ p ∈ kvs, p.2.lt M.length := by
  unfold dtOf at e
  cases hm : M[a]? with
  | none => rw [hm] at e; cases e
  | some o =>
    rw [hm] at e
    obtain ⟨u, hu, x⟩ := R.obj a o hm
    have wf := R.wf a o hm
    cases o with
    | dt ys => cases e; cases x; exact ⟨.inl hu, wf⟩
    | fz o =>
      cases o with
      | dt ys =>
        cases e
        cases x with
        | fz x => cases x; exact ⟨.inr ⟨_, hu⟩, wf⟩
      | _ => cases e
    | _ => cases e
theorem tkeyOf_ok {v : Val} {k : List DKey} (R : Rel g r M H) (e : tkeyOf M v = some k) : ∃ b, mv g r v = .ref b ∧ H b = some (.tup ((k.map mk).map kV)) := by
  cases v with
  | ref b =>
    simp only [tkeyOf] at e
    cases hm : M[b]? with
    | none => rw [hm] at e; cases e
    | some o =>
      rw [hm] at e
      cases o with
      | tup ks =>
        have := tup_at R hm
        rw [keysOf_ok (g := g) (r := r) e] at this
        exact ⟨_, rfl, this⟩
      | _ => cases e
  | _ => cases e
theorem dgo_ok {d k : Val} {o : Option Val} (R : Rel g r M H) (e : dgo M d k = some o) : ∃ p, mv g r d = .ref p ∧ DGet H p (mv g r k) (o.map (mv g r)) ∧ ∀ v, o = some v → v.lt M.length := by
  cases d with
  | ref a =>
    simp only [dgo] at e
    cases h1 : dkOf M a with
    | some kvs =>
      rw [h1] at e
      obtain ⟨key, hk, rfl⟩ := Option.map_eq_some_iff.mp e
      obtain ⟨rd, wf⟩ := dkOf_ok R h1
      refine ⟨_, rfl, .inl ⟨_, mk key, rd, keyOf_ok hk, ?_⟩, fun v hv => ?_⟩
      · exact (valV_map (f := mk) (h := mv g r) (fun _ _ => mk_inj) key kvs).symm
      · obtain ⟨p, hp, rfl⟩ := lkp_mem hv
        exact wf p hp
    | none =>
      rw [h1] at e
      cases h2 : dtOf M a with
      | none => rw [h2] at e; cases e
      | some kvs =>
        rw [h2] at e
        obtain ⟨key, hk, rfl⟩ := Option.map_eq_some_iff.mp e
        obtain ⟨rd, wf⟩ := dtOf_ok R h2
        obtain ⟨b, hb, ht⟩ := tkeyOf_ok R hk
        refine ⟨_, rfl, .inr ⟨_, key.map mk, b, rd, hb, ht, ?_⟩, fun v hv => ?_⟩
        · exact (valV_map (f := fun k : List DKey => k.map mk) (h := mv g r) (fun _ _ => mks_inj) key kvs).symm
        · obtain ⟨p, hp, rfl⟩ := lkp_mem hv
          exact wf p hp
  | _ => cases e
/-! ### a[b] -/
def sIx (s : List Nat) (y : Val) (M : Mem) : R Val := match y with
  | .int i => if s.length ≤ 1000000 then (match atI s i with
    | some c => .ok (.str [c]) M
    | none => .no) else .no
  | _ => .no
def qIx (g : Cfg) (x y : Val) (M : Mem) : R Val := match seqOf g M x with
  | some xs => (match y with
    | .int i => R.of (atI xs i) M
    | _ => .no)
  | none => (match dgo M x y with
    | some (some v) => .ok v M
    | _ => .no)
def oIx (g : Cfg) (x y : Val) (M : Mem) : R Val := match x with
  | .str s => sIx s y M
  | _ => qIx g x y M
def rIxA (K : PySem.W.Frag) : R2 := fun x y H Q => rIx K x y H Q ∨ ∃ a v, x = .ref a ∧ DGet H a y (some v) ∧ Q v H
theorem qIx_s {K : PySem.W.Frag} (hK : ConOk g K) : OpS g (qIx g) (rIxA K) := by
  intro r M H x y v M' Q R lx ly e k
  unfold qIx at e
  split at e
  · rename_i xs hs
    obtain ⟨p, hp, hq, wf⟩ := seqOf_ok (K := K) hK R hs
    split at e
    · rename_i i
      obtain ⟨hw, rfl⟩ := Pa.R.of_eq e
      have ha : atI (xs.map (mv g r)) i = some (mv g r v) := by rw [atI_map, hw]; rfl
      have q := stay R (wf v (atI_mem hw)) k
      rw [hp]
      rcases hq with hq | hq
      · exact .inl (.inl ⟨p, _, i, _, rfl, rfl, hq, ha, q⟩)
      · exact .inl (.inr (.inl ⟨p, _, i, _, rfl, rfl, hq, ha, q⟩))
    · cases e
  · split at e
    · rename_i w hw
      cases e
      obtain ⟨p, hp, hg, wf⟩ := dgo_ok R hw
      exact .inr ⟨p, _, hp, hg, stay R (wf v rfl) k⟩
    · cases e
theorem oIx_s {K : PySem.W.Frag} (hK : ConOk g K) : OpS g (oIx g) (rIxA K) := by
  intro r M H x y v M' Q R lx ly e k
  cases x with
  | str s =>
    simp only [oIx, sIx] at e
    split at e
    · rename_i i
      split at e
      · rename_i hl
        split at e
        · rename_i c hc
          cases e
          refine .inl (.inr (.inr ⟨S s, i, c, rfl, rfl, ?_, ?_, ?_⟩))
          · rw [SX.S_len]; exact line6 hl
          · exact hc
          · exact stay (v := .str [c]) R trivial k
        · cases e
      · cases e
    · cases e
  | _ => exact qIx_s hK r M H _ y v M' Q R lx ly e k
theorem ix_all {X : Cx} (hu : X.A.units + 1 < cLine) : IxR X (rIxA X.K) := by
  refine ix_seq.or ?_
  intro value slice pins s σ H x y v u Q I rx ry h hs
  obtain ⟨a, w, rfl, hg, q⟩ := h
  cases rx
  exact tail_any (dict_typeIs I hg) PySem.F.slot_dict_getitem.lookup (d_getItem hu I hg ry fun w' s3 I3 rw' => ⟨w, H, I3, rw', q⟩) hs
end
end Pa

/-! Expressions. -/
namespace Pa
open PySem PySem.Spec
open PyProof.Rows L2
open SX (S)
variable {g : Cfg} {X : Cx}
/-! ### names, constants -/
def dV (i : Nat) : D := fun L M => match L[i]? with
  | some (some v) => .ok v M
  | _ => .no
def dC (v : Val) : D := fun _ M => .ok v M
theorem se_v {i : Nat} {x : Str} {pos : Pos} (hN : X.N[i]? = some x := by rfl) (hv : Vis X.env.scope x := by first | exact Or.inl rfl | exact Or.inr (Or.inl rfl) | exact Or.inr (Or.inr rfl)) (hd : (x == ("__debug__" : Str)) = false := by decide)
    (hcd : (x == ("__classdict__" : Str)) = false := by decide) : SE g X (.Name x pos) (dV i) := by
  refine pe_imp (pe_var hN hv hd hcd) fun σ H Q ⟨r, L, M, v, M', A, e, k⟩ => ?_
  simp only [dV] at e
  split at e
  · rename_i w hw
    cases e
    refine ⟨mv g r v, by rw [A.sl]; exact mS_get hw, ?_⟩
    exact k r H Nxt.refl A.rel (A.lok.get hw)
  · cases e
theorem se_c {e : Expr} {v : Val} {w : V} (h : PE X e (tC w)) (hv : ∀ r, mv g r v = w) (hl : ∀ n, v.lt n) : SE g X e (dC v) :=
  pe_imp h fun σ H Q ⟨r, L, M, v', M', A, e, k⟩ => by
    cases e
    show Q w H
    rw [← hv r]
    exact k r H Nxt.refl A.rel (hl _)
theorem se_int {i j pos} : SE g X (.Constant (.int i) j pos) (dC (.int i)) := se_c pe_int (fun _ => rfl) fun _ => trivial
theorem se_bl {b j pos} : SE g X (.Constant (.bool b) j pos) (dC (.bl b)) := se_c pe_bl (fun _ => rfl) fun _ => trivial
theorem se_non {j pos} : SE g X (.Constant .none j pos) (dC .non) := se_c pe_non (fun _ => rfl) fun _ => trivial
theorem se_str {x : Str} {s : List Nat} {j pos} (h : S s = x) : SE g X (.Constant (.str x) j pos) (dC (.str s)) := se_c pe_str (fun _ => congrArg V.str h) fun _ => trivial
/-- a constant of the module -/
structure GloC (g : Cfg) (X : Cx) (x : Str) (v : Val) : Prop where
  ex : ∃ u, X.mg x = some u ∧ ∀ r, RelV (mv g r v) u
  noref : ∀ n, v.lt n
theorem se_g {x : Str} {v : Val} {pos : Pos} (h : GloC g X x v) (hg : Gl X x := by rfl) (hd : (x == ("__debug__" : Str)) = false := by decide) : SE g X (.Name x pos) (dC v) := by
  obtain ⟨u, h1, h2⟩ := h.ex
  have hw : ∀ r, mv g r v = mv g (fun i => i) v := fun r => by
    cases v with
    | ref i => exact absurd (h.noref 0) (Nat.not_lt_zero i)
    | _ => rfl
  exact se_c (w := mv g (fun i => i) v) (pe_glob hg h1 (h2 _) hd) hw h.noref
/-! ### two-place operations -/
def dB (f : Val → Val → Mem → R Val) (a b : D) : D := fun L M => (a L M).bind fun x M1 => (b L M1).bind fun y M2 => f x y M2
theorem go2 {r2 : R2} {f : Val → Val → Mem → R Val} {da db : D} (hs : OpS g f r2) {σ : L2.St} {H : Hp} {Q : VK} (h : tD g (dB f da db) σ H Q) : tOp r2 (tD g da) (tD g db) σ H Q := by
  obtain ⟨r, L, M, v, M', A, e, k⟩ := h
  obtain ⟨x, M1, e1, e⟩ := R.bind_eq e
  obtain ⟨y, M2, e2, e⟩ := R.bind_eq e
  refine tD_go A e1 fun r1 H1 n1 A1 l1 => tD_go A1 e2 fun r2' H2 n2 A2 l2 => ?_
  rw [← n2.mv l1]
  exact hs r2' M2 H2 x y v M' Q A2.rel (l1.mono n2.le) l2 e fun r3 H3 n3 R3 l3 => k r3 H3 ((n1.trans n2).trans n3) R3 l3
theorem se_op {op : Operator} {r2 : R2} {f : Val → Val → Mem → R Val} {a b : Expr} {da db : D} {pos : Pos} (ho : OpR X (binaryOp op) r2) (hs : OpS g f r2) (ha : SE g X a da) (hb : SE g X b db) : SE g X (.BinOp a op b pos) (dB f da db) :=
  pe_imp (pe_op ho ha hb) fun _ _ _ h => go2 hs h
section
variable {a b : Expr} {da db : D} {pos : Pos}
theorem se_add (ha : SE g X a da) (hb : SE g X b db) : SE g X (.BinOp a .Add b pos) (dB oAdd da db) := se_op (op_add.or (op_add_str.or op_cat)) oAdd_s ha hb
theorem se_sub (ha : SE g X a da) (hb : SE g X b db) : SE g X (.BinOp a .Sub b pos) (dB oSub da db) := se_op op_sub oSub_s ha hb
theorem se_mul (ha : SE g X a da) (hb : SE g X b db) : SE g X (.BinOp a .Mult b pos) (dB iMul da db) := se_op op_mul iMul_s ha hb
theorem se_div (ha : SE g X a da) (hb : SE g X b db) : SE g X (.BinOp a .FloorDiv b pos) (dB oDiv da db) := se_op op_fdivW oDiv_s ha hb
theorem se_mod (ha : SE g X a da) (hb : SE g X b db) : SE g X (.BinOp a .Mod b pos) (dB oMod da db) := se_op op_mod oMod_s ha hb
theorem se_pow (ha : SE g X a da) (hb : SE g X b db) : SE g X (.BinOp a .Pow b pos) (dB oPow da db) := se_op op_pow oPow_s ha hb
theorem se_shl (ha : SE g X a da) (hb : SE g X b db) : SE g X (.BinOp a .LShift b pos) (dB oShl da db) := se_op op_shl oShl_s ha hb
theorem se_shr (ha : SE g X a da) (hb : SE g X b db) : SE g X (.BinOp a .RShift b pos) (dB oShr da db) := se_op op_shr oShr_s ha hb
theorem se_band (ha : SE g X a da) (hb : SE g X b db) : SE g X (.BinOp a .BitAnd b pos) (dB oAnd da db) := se_op op_and oAnd_s ha hb
theorem se_bor (ha : SE g X a da) (hb : SE g X b db) : SE g X (.BinOp a .BitOr b pos) (dB oOr da db) := se_op op_or oOr_s ha hb
/-! ### -x -/
def dNeg (a : D) : D := fun L M => (a L M).bind fun x M1 => match x with
  | .int i => .ok (.int (-i)) M1
  | _ => .no
theorem se_neg (ha : SE g X a da) : SE g X (.UnaryOp .USub a pos) (dNeg da) :=
  pe_imp (pe_un un_neg ha) fun σ H Q ⟨r, L, M, v, M', A, e, k⟩ => by
    obtain ⟨x, M1, e1, e⟩ := R.bind_eq e
    refine tD_go A e1 fun r1 H1 n1 A1 l1 => ?_
    split at e
    · cases e
      exact ⟨_, rfl, k r1 H1 n1 A1.rel trivial⟩
    · cases e
/-! ### comparisons -/
theorem se_cmp {op : CmpOp} {r2 : R2} {f : Val → Val → Mem → R Val} (ho : OpR X (compareOp op) r2) (hs : OpS g f r2) (ha : SE g X a da) (hb : SE g X b db) (hm : behindInMarks op b = false) : SE g X (.Compare a [op] [b] pos) (dB f da db) :=
  pe_imp (pe_cmpR ho ha hb hm) fun _ _ _ h => go2 hs h
theorem st_of {d : D} {t : TE} {e : Expr} (h : PT X e (tTest t)) (k : ∀ σ H Q, tD g d σ H Q → t σ H Q) : ST g X e d :=
  pt_imp h fun σ H Q ⟨r, L, M, b, M', A, e, q⟩ => k _ _ _ ⟨r, L, M, .bl b, M', A, e, fun r' H' n R _ => ⟨b, rfl, q r' H' n R⟩⟩
theorem st_cmp {op : CmpOp} {r2 : R2} {f : Val → Val → Mem → R Val} (ho : OpR X (compareOp op) r2) (hs : OpS g f r2) (ha : SE g X a da) (hb : SE g X b db) (hm : behindInMarks op b = false) : ST g X (.Compare a [op] [b] pos) (dB f da db) :=
  st_of (pt_cmpR ho ha hb hm) fun _ _ _ h => go2 hs h
/-- any expression whose value is a bool -/
theorem st_e {e : Expr} {d : D} (h : SE g X e d) (he : ∀ whole, isTrue e X.env whole = (do let v ← whole; standAt e.pos; holding [v] (truthy v)) := by intro _; rfl) : ST g X e d :=
  pt_imp (pt_val h he) fun σ H Q ⟨r, L, M, b, M', A, e, q⟩ => ⟨r, L, M, .bl b, M', A, e, fun r' H' n R _ => ⟨b, rfl, q r' H' n R⟩⟩
/-- the same, by truth of any value -/
def truOf (M : Mem) : Val → Option Bool
  | .non => some false
  | .bl b => some b
  | .int i => some (i != 0)
  | .str s => if s.length ≤ 1000000 then some (!s.isEmpty) else none
  | .ref a => match M[a]? with
    | some (.lst xs) => some (!xs.isEmpty)
    | _ => none
  | _ => none
def dTru (d : D) : D := fun L M => (d L M).bind fun v M1 => match truOf M1 v with
  | some b => .ok (.bl b) M1
  | none => .no
theorem st_tru {e : Expr} {d : D} (h : SE g X e d) (he : ∀ whole, isTrue e X.env whole = (do let v ← whole; standAt e.pos; holding [v] (truthy v)) := by intro _; rfl) : ST g X e (dTru d) :=
  pt_imp (pt_truth h he) fun σ H Q ⟨r, L, M, b, M', A, e, q⟩ => by
    obtain ⟨v, M1, e1, e⟩ := R.bind_eq e
    refine tD_go A e1 fun r1 H1 n1 A1 l1 => ?_
    split at e
    · rename_i b' hb
      cases e
      refine ⟨b, ?_, q r1 H1 n1 A1.rel⟩
      cases v with
      | non => cases hb; rfl
      | bl c => cases hb; rfl
      | int c => cases hb; rfl
      | str s =>
        simp only [truOf] at hb
        split at hb
        · rename_i hl
          cases hb
          refine ⟨by rw [SX.S_len]; exact line6 hl, ?_⟩
          rw [SX.S_len]
          cases s with
          | nil => rfl
          | cons c s =>
            show true = (((s.length + 1 : Nat) : Int) != 0)
            have : (((s.length + 1 : Nat) : Int) != 0) = true := by
              rw [bne_iff_ne]; omega
            exact this.symm
        · cases hb
      | ref a =>
        simp only [truOf] at hb
        split at hb
        · rename_i xs hm
          cases hb
          exact .inl ⟨_, .inl (.inl (lst_at A1.rel hm)), by cases xs <;> rfl⟩
        · cases hb
      | con k => cases hb
    · cases e
/-! ### in -/
def lIn (g : Cfg) (neg : Bool) (x y : Val) (M : Mem) : R Val := match seqOf g M y with
  | some xs => if flat x = true ∧ xs.all flat = true then .ok (.bl (if neg then !(xs.any fun z => eqF z x) else xs.any fun z => eqF z x)) M else .no
  | none => (match dgo M y x with
    | some o => .ok (.bl (if neg then !o.isSome else o.isSome)) M
    | none => .no)
def sIn (neg : Bool) (x : Val) (s : List Nat) (M : Mem) : R Val := match x with
  | .str [c] => .ok (.bl (if neg then !decide (c ∈ s) else decide (c ∈ s))) M
  | _ => .no
def oIn (g : Cfg) (neg : Bool) (x y : Val) (M : Mem) : R Val := match y with
  | .str s => sIn neg x s M
  | _ => lIn g neg x y M
theorem flat_mv {r : Nat → Addr} {x : Val} (h : flat x = true) : flatV (mv g r x) = true := by
  cases x <;> simp_all [flat, mv, flatV]
theorem eqF_mv {r : Nat → Addr} {x y : Val} (h1 : flat x = true) (h2 : flat y = true) : eqV (mv g r x) (mv g r y) = eqF x y := by
  cases x <;> cases y <;> simp_all [flat, mv, eqV, eqF]
  exact SX.S_beq _ _
theorem any_mv {r : Nat → Addr} {x : Val} (h : flat x = true) : ∀ {xs : List Val}, xs.all flat = true → inV (mv g r x) (xs.map (mv g r)) = xs.any fun z => eqF z x
  | [], _ => rfl
  | y :: xs, hx => by
    rw [List.all_cons, Bool.and_eq_true] at hx
    have ih := any_mv (r := r) h hx.2
    unfold inV at ih ⊢
    rw [List.map_cons, List.any_cons, List.any_cons, eqF_mv hx.1 h, ih]
theorem all_mv {r : Nat → Addr} : ∀ {xs : List Val}, xs.all flat = true → (xs.map (mv g r)).all flatV = true
  | [], _ => rfl
  | y :: xs, hx => by
    rw [List.all_cons, Bool.and_eq_true] at hx
    rw [List.map_cons, List.all_cons, flat_mv hx.1, all_mv hx.2]
    rfl
def rInA (K : PySem.W.Frag) (neg : Bool) : R2 := fun x y H Q => rIn K neg x y H Q ∨ ((∃ (c : Nat) (z : Str), x = .str ⟨#[c]⟩ ∧ y = .str z ∧ Q (.bl (if neg then !decide (c ∈ z.cps.toList) else decide (c ∈ z.cps.toList))) H) ∨
  ∃ a o, y = .ref a ∧ DGet H a x o ∧ Q (.bl (if neg then !o.isSome else o.isSome)) H)
theorem oIn_s {neg : Bool} {K : PySem.W.Frag} (hK : ConOk g K) : OpS g (oIn g neg) (rInA K neg) := by
  intro r M H x y v M' Q R lx ly e k
  have lists : lIn g neg x y M = .ok v M' → rInA K neg (mv g r x) (mv g r y) H Q := fun e => by
    unfold lIn at e
    split at e
    · rename_i xs hs
      split at e
      · rename_i hf
        cases e
        obtain ⟨p, hp, hq, wf⟩ := seqOf_ok (K := K) hK R hs
        refine .inl ⟨p, _, hp, hq, flat_mv hf.1, all_mv hf.2, ?_⟩
        rw [any_mv hf.1 hf.2]
        exact stay (v := .bl _) R trivial k
      · cases e
    · split at e
      · rename_i o ho
        cases e
        obtain ⟨p, hp, hg, wf⟩ := dgo_ok R ho
        refine .inr (.inr ⟨p, _, hp, hg, ?_⟩)
        rw [Option.isSome_map]
        exact stay (v := .bl _) R trivial k
      · cases e
  cases y with
  | str s =>
    simp only [oIn, sIn] at e
    split at e
    · rename_i c
      cases e
      refine .inr (.inl ⟨c, S s, rfl, rfl, ?_⟩)
      exact stay (v := .bl _) R trivial k
    · cases e
  | _ => exact lists e
theorem op_inA (hu : X.A.units + 1 < cLine) : OpR X (compareOp .In) (rInA X.K false) := op_in_seq.or (op_in_sign.or (by
  intro pins s σ H x y v u Q I rx ry h
  obtain ⟨a, o, rfl, hg, q⟩ := h
  cases ry
  exact d_in hu I hg rx fun s' I' => ⟨.bl _, H, I', rfl, q⟩))
theorem op_notInA (hu : X.A.units + 1 < cLine) : OpR X (compareOp .NotIn) (rInA X.K true) := op_notIn_seq.or (op_notIn_sign.or (by
  intro pins s σ H x y v u Q I rx ry h
  obtain ⟨a, o, rfl, hg, q⟩ := h
  cases ry
  exact d_notIn hu I hg rx fun s' I' => ⟨.bl _, H, I', rfl, q⟩))
/-- what holds of every body: room, the written constants -/
structure Good (g : Cfg) (X : Cx) : Prop where
  con : ConOk g X.K
  un : X.A.units + 64 < cLine
  calm : X.calm = true
  nd : X.N.Nodup
variable (G : Good g X)
include G
theorem Good.u1 : X.A.units + 1 < cLine := Nat.lt_of_le_of_lt (Nat.add_le_add_left (by decide : 1 ≤ 64) _) G.un
theorem se_eq (ha : SE g X a da) (hb : SE g X b db) : SE g X (.Compare a [.Eq] [b] pos) (dB (oEq g) da db) := se_cmp (op_eq.or (op_eqD G.un)) (oEq_s G.con) ha hb (nomark _)
theorem se_ne (ha : SE g X a da) (hb : SE g X b db) : SE g X (.Compare a [.NotEq] [b] pos) (dB (oNe g) da db) := se_cmp (op_ne.or (op_neD G.un)) (oNe_s G.con) ha hb (nomark _)
theorem st_eq (ha : SE g X a da) (hb : SE g X b db) : ST g X (.Compare a [.Eq] [b] pos) (dB (oEq g) da db) := st_cmp (op_eq.or (op_eqD G.un)) (oEq_s G.con) ha hb (nomark _)
theorem st_ne (ha : SE g X a da) (hb : SE g X b db) : ST g X (.Compare a [.NotEq] [b] pos) (dB (oNe g) da db) := st_cmp (op_ne.or (op_neD G.un)) (oNe_s G.con) ha hb (nomark _)
theorem se_in (ha : SE g X a da) (hb : SE g X b db) (hm : behindInMarks .In b = false := by with_unfolding_all rfl) : SE g X (.Compare a [.In] [b] pos) (dB (oIn g false) da db) := se_cmp (op_inA G.u1) (oIn_s G.con) ha hb hm
theorem st_in (ha : SE g X a da) (hb : SE g X b db) (hm : behindInMarks .In b = false := by with_unfolding_all rfl) : ST g X (.Compare a [.In] [b] pos) (dB (oIn g false) da db) := st_cmp (op_inA G.u1) (oIn_s G.con) ha hb hm
theorem se_nin (ha : SE g X a da) (hb : SE g X b db) (hm : behindInMarks .NotIn b = false := by with_unfolding_all rfl) : SE g X (.Compare a [.NotIn] [b] pos) (dB (oIn g true) da db) := se_cmp (op_notInA G.u1) (oIn_s G.con) ha hb hm
theorem st_nin (ha : SE g X a da) (hb : SE g X b db) (hm : behindInMarks .NotIn b = false := by with_unfolding_all rfl) : ST g X (.Compare a [.NotIn] [b] pos) (dB (oIn g true) da db) := st_cmp (op_notInA G.u1) (oIn_s G.con) ha hb hm
/-- a[b] -/
theorem se_ix (ha : SE g X a da) (hb : SE g X b db) (hs : PlainIx b := by exact fun _ _ => rfl) : SE g X (.Subscript a b pos) (dB (oIx g) da db) :=
  pe_imp (pe_ix (ix_all G.u1) ha hb hs) fun _ _ _ h => go2 (oIx_s G.con) h
omit G
abbrev cLt : Val → Val → Mem → R Val := oCmp fun i j => decide (i < j)
abbrev cLe : Val → Val → Mem → R Val := oCmp fun i j => decide (i ≤ j)
abbrev cGt : Val → Val → Mem → R Val := oCmp fun i j => decide (j < i)
abbrev cGe : Val → Val → Mem → R Val := oCmp fun i j => decide (j ≤ i)
theorem se_lt (ha : SE g X a da) (hb : SE g X b db) : SE g X (.Compare a [.Lt] [b] pos) (dB cLt da db) := se_cmp op_lt oCmp_s ha hb (nomark _)
theorem se_le (ha : SE g X a da) (hb : SE g X b db) : SE g X (.Compare a [.LtE] [b] pos) (dB cLe da db) := se_cmp op_le oCmp_s ha hb (nomark _)
theorem se_gt (ha : SE g X a da) (hb : SE g X b db) : SE g X (.Compare a [.Gt] [b] pos) (dB cGt da db) := se_cmp op_gt oCmp_s ha hb (nomark _)
theorem se_ge (ha : SE g X a da) (hb : SE g X b db) : SE g X (.Compare a [.GtE] [b] pos) (dB cGe da db) := se_cmp op_ge oCmp_s ha hb (nomark _)
theorem st_lt (ha : SE g X a da) (hb : SE g X b db) : ST g X (.Compare a [.Lt] [b] pos) (dB cLt da db) := st_cmp op_lt oCmp_s ha hb (nomark _)
theorem st_le (ha : SE g X a da) (hb : SE g X b db) : ST g X (.Compare a [.LtE] [b] pos) (dB cLe da db) := st_cmp op_le oCmp_s ha hb (nomark _)
theorem st_gt (ha : SE g X a da) (hb : SE g X b db) : ST g X (.Compare a [.Gt] [b] pos) (dB cGt da db) := st_cmp op_gt oCmp_s ha hb (nomark _)
theorem st_ge (ha : SE g X a da) (hb : SE g X b db) : ST g X (.Compare a [.GtE] [b] pos) (dB cGe da db) := st_cmp op_ge oCmp_s ha hb (nomark _)
theorem se_is (ha : SE g X a da) (hb : SE g X b db) : SE g X (.Compare a [.Is] [b] pos) (dB (oIs false) da db) := se_cmp op_isN oIs_s ha hb (nomark _)
theorem se_isn (ha : SE g X a da) (hb : SE g X b db) : SE g X (.Compare a [.IsNot] [b] pos) (dB (oIs true) da db) := se_cmp op_notN oIsN_s ha hb (nomark _)
theorem st_is (ha : SE g X a da) (hb : SE g X b db) : ST g X (.Compare a [.Is] [b] pos) (dB (oIs false) da db) := st_cmp op_isN oIs_s ha hb (nomark _)
theorem st_isn (ha : SE g X a da) (hb : SE g X b db) : ST g X (.Compare a [.IsNot] [b] pos) (dB (oIs true) da db) := st_cmp op_notN oIsN_s ha hb (nomark _)
/-! ### a < b <= c -/
def dCh (f f' : Val → Val → Mem → R Val) (a b c : D) : D := fun L M => (a L M).bind fun x M1 => (b L M1).bind fun y M2 => (f x y M2).bind fun z M3 => match z with
  | .bl true => (c L M3).bind fun w M4 => f' y w M4
  | .bl false => .ok (.bl false) M3
  | _ => .no
variable {c : Expr} {dc : D}
theorem go3 {r2 r2' : R2} {f f' : Val → Val → Mem → R Val} (hs : OpS g f r2) (hs' : OpS g f' r2') {σ : L2.St} {H : Hp} {Q : VK} (h : tD g (dCh f f' da db dc) σ H Q) : tChain r2 r2' (tD g da) (tD g db) (tD g dc) σ H Q := by
  obtain ⟨r, L, M, v, M', A, e, k⟩ := h
  obtain ⟨x, M1, e1, e⟩ := R.bind_eq e
  obtain ⟨y, M2, e2, e⟩ := R.bind_eq e
  obtain ⟨z, M3, e3, e⟩ := R.bind_eq e
  refine tD_go A e1 fun r1 H1 n1 A1 l1 => tD_go A1 e2 fun r2' H2 n2 A2 l2 => ?_
  rw [← n2.mv l1]
  refine hs r2' M2 H2 x y z M3 _ A2.rel (l1.mono n2.le) l2 e3 fun r3 H3 n3 R3 l3 => ?_
  have A3 := A2.next n3 R3
  split at e
  · refine ⟨true, rfl, iteT ?_⟩
    obtain ⟨w, M4, e4, e⟩ := R.bind_eq e
    refine tD_go A3 e4 fun r4 H4 n4 A4 l4 => ?_
    rw [← (n3.trans n4).mv l2]
    exact hs' r4 M4 H4 y w v M' Q A4.rel (l2.mono (n3.trans n4).le) l4 e fun r5 H5 n5 R5 l5 => k r5 H5 ((((n1.trans n2).trans n3).trans n4).trans n5) R5 l5
  · cases e
    exact ⟨false, rfl, iteF (k r3 H3 ((n1.trans n2).trans n3) R3 trivial)⟩
  · cases e
theorem se_ch {op op' : CmpOp} {r2 r2' : R2} {f f' : Val → Val → Mem → R Val} (ho : OpR X (compareOp op) r2) (ho' : OpR X (compareOp op') r2') (hs : OpS g f r2) (hs' : OpS g f' r2') (ha : SE g X a da) (hb : SE g X b db) (hc : SE g X c dc)
    (hm : lastMarks [op, op'] [b, c] = false := by with_unfolding_all rfl) : SE g X (.Compare a [op, op'] [b, c] pos) (dCh f f' da db dc) :=
  pe_imp (pe_chain ho ho' ha hb hc hm) fun _ _ _ h => go3 hs hs' h
theorem st_ch {op op' : CmpOp} {r2 r2' : R2} {f f' : Val → Val → Mem → R Val} (ho : OpR X (compareOp op) r2) (ho' : OpR X (compareOp op') r2') (hs : OpS g f r2) (hs' : OpS g f' r2') (ha : SE g X a da) (hb : SE g X b db) (hc : SE g X c dc)
    (hm : lastMarks [op, op'] [b, c] = false := by with_unfolding_all rfl) : ST g X (.Compare a [op, op'] [b, c] pos) (dCh f f' da db dc) :=
  st_of (pt_chain ho ho' ha hb hc hm) fun _ _ _ h => go3 hs hs' h
/-! ### and, or, not, if else -/
def dAnd (a b : D) : D := fun L M => (a L M).bind fun x M1 => match x with
  | .bl true => b L M1
  | .bl false => .ok (.bl false) M1
  | _ => .no
def dOr (a b : D) : D := fun L M => (a L M).bind fun x M1 => match x with
  | .bl true => .ok (.bl true) M1
  | .bl false => b L M1
  | _ => .no
def dNot (a : D) : D := fun L M => (a L M).bind fun x M1 => match x with
  | .bl k => .ok (.bl (!k)) M1
  | _ => .no
def dIf (c a b : D) : D := fun L M => (c L M).bind fun x M1 => match x with
  | .bl true => a L M1
  | .bl false => b L M1
  | _ => .no
variable {rest : List Expr} {tA tB' : D}
abbrev SW (g : Cfg) (X : Cx) (e : Expr) (d : D) : Prop := PW X e (tDT g d)
theorem sw_and1 (ha : ST g X a da) : SW g X (.BoolOp .And [a] pos) da := pw_and1 ha
theorem sw_or1 (ha : ST g X a da) : SW g X (.BoolOp .Or [a] pos) da := pw_or1 ha
theorem sw_and (ha : ST g X a da) (hb : SW g X (.BoolOp .And (b :: rest) pos) db) : SW g X (.BoolOp .And (a :: b :: rest) pos) (dAnd da db) :=
  pw_imp (pw_and ha hb) fun σ H Q ⟨r, L, M, v, M', A, e, k⟩ => by
    obtain ⟨x, M1, e1, e⟩ := R.bind_eq e
    split at e
    · refine tDT_go A e1 fun r1 H1 n1 A1 => iteT ?_
      exact tDT_go A1 e fun r2 H2 n2 A2 => k r2 H2 (n1.trans n2) A2.rel
    · cases e
      exact tDT_go A e1 fun r1 H1 n1 A1 => iteF (k r1 H1 n1 A1.rel)
    · cases e
theorem sw_or (ha : ST g X a da) (hb : SW g X (.BoolOp .Or (b :: rest) pos) db) : SW g X (.BoolOp .Or (a :: b :: rest) pos) (dOr da db) :=
  pw_imp (pw_or ha hb) fun σ H Q ⟨r, L, M, v, M', A, e, k⟩ => by
    obtain ⟨x, M1, e1, e⟩ := R.bind_eq e
    split at e
    · cases e
      exact tDT_go A e1 fun r1 H1 n1 A1 => iteT (k r1 H1 n1 A1.rel)
    · refine tDT_go A e1 fun r1 H1 n1 A1 => iteF ?_
      exact tDT_go A1 e fun r2 H2 n2 A2 => k r2 H2 (n1.trans n2) A2.rel
    · cases e
theorem st_w {e : Expr} {d : D} (h : SW g X e d) : ST g X e d := h.pt
theorem st_not (ha : ST g X a da) : ST g X (.UnaryOp .Not a pos) (dNot da) :=
  pt_imp (pt_not ha) fun σ H Q ⟨r, L, M, v, M', A, e, k⟩ => by
    obtain ⟨x, M1, e1, e⟩ := R.bind_eq e
    split at e
    · cases e
      exact tDT_go A e1 fun r1 H1 n1 A1 => k r1 H1 n1 A1.rel
    · cases e
theorem se_one {op} (h : SE g X a da) : SE g X (.BoolOp op [a] pos) da := pe_one h
theorem se_and (ha : SE g X a da) (hb : SE g X (.BoolOp .And (b :: rest) pos) db) : SE g X (.BoolOp .And (a :: b :: rest) pos) (dAnd da db) :=
  pe_imp (pe_and ha hb) fun σ H Q ⟨r, L, M, v, M', A, e, k⟩ => by
    obtain ⟨x, M1, e1, e⟩ := R.bind_eq e
    refine tD_go A e1 fun r1 H1 n1 A1 l1 => ?_
    split at e
    · exact ⟨true, rfl, iteT (tD_go A1 e fun r2 H2 n2 A2 l2 => k r2 H2 (n1.trans n2) A2.rel l2)⟩
    · cases e
      exact ⟨false, rfl, iteF (k r1 H1 n1 A1.rel trivial)⟩
    · cases e
theorem se_or (ha : SE g X a da) (hb : SE g X (.BoolOp .Or (b :: rest) pos) db) : SE g X (.BoolOp .Or (a :: b :: rest) pos) (dOr da db) :=
  pe_imp (pe_or ha hb) fun σ H Q ⟨r, L, M, v, M', A, e, k⟩ => by
    obtain ⟨x, M1, e1, e⟩ := R.bind_eq e
    refine tD_go A e1 fun r1 H1 n1 A1 l1 => ?_
    split at e
    · cases e
      exact ⟨true, rfl, iteT (k r1 H1 n1 A1.rel trivial)⟩
    · exact ⟨false, rfl, iteF (tD_go A1 e fun r2 H2 n2 A2 l2 => k r2 H2 (n1.trans n2) A2.rel l2)⟩
    · cases e
theorem se_not (ha : SE g X a da) : SE g X (.UnaryOp .Not a pos) (dNot da) :=
  pe_imp (pe_not ha) fun σ H Q ⟨r, L, M, v, M', A, e, k⟩ => by
    obtain ⟨x, M1, e1, e⟩ := R.bind_eq e
    refine tD_go A e1 fun r1 H1 n1 A1 l1 => ?_
    split at e
    · cases e
      exact ⟨_, rfl, k r1 H1 n1 A1.rel trivial⟩
    · cases e
theorem se_if (hc : ST g X c dc) (ha : SE g X a da) (hb : SE g X b db) : SE g X (.IfExp c a b pos) (dIf dc da db) :=
  pe_imp (pe_ifExp hc ha hb) fun σ H Q ⟨r, L, M, v, M', A, e, k⟩ => by
    obtain ⟨x, M1, e1, e⟩ := R.bind_eq e
    split at e
    · exact tDT_go A e1 fun r1 H1 n1 A1 => iteT (tD_go A1 e fun r2 H2 n2 A2 l2 => k r2 H2 (n1.trans n2) A2.rel l2)
    · exact tDT_go A e1 fun r1 H1 n1 A1 => iteF (tD_go A1 e fun r2 H2 n2 A2 l2 => k r2 H2 (n1.trans n2) A2.rel l2)
    · cases e
/-! ### lists of expressions, displays -/
def aNil : DA := fun _ M => .ok [] M
def aCons (d : D) (ds : DA) : DA := fun L M => (d L M).bind fun v M1 => (ds L M1).bind fun vs M2 => .ok (v :: vs) M2
variable {es : List Expr} {ds : DA}
theorem sa_nil : SA g X [] aNil := pa_imp pa_nil fun σ H Q ⟨r, L, M, v, M', A, e, k⟩ => by
  cases e
  exact k r H Nxt.refl A.rel Lts.nil
theorem sa_cons (ha : SE g X a da) (hr : SA g X es ds) (hs : starEach (a :: es) X.env = (false, eval a X.env) :: starEach es X.env := by rfl) : SA g X (a :: es) (aCons da ds) :=
  pa_imp (pa_cons ha hr hs) fun σ H Q ⟨r, L, M, v, M', A, e, k⟩ => by
    obtain ⟨x, M1, e1, e⟩ := R.bind_eq e
    obtain ⟨xs, M2, e2, e⟩ := R.bind_eq e
    cases e
    refine tD_go A e1 fun r1 H1 n1 A1 l1 => tDA_go A1 e2 fun r2 H2 n2 A2 l2 => ?_
    have z := k r2 H2 (n1.trans n2) A2.rel (Lts.cons (l1.mono n2.le) l2)
    rw [List.map_cons, n2.mv l1] at z
    exact z
def dTup (ds : DA) : D := fun L M => (ds L M).bind fun vs M1 => if vs.length ≤ 1000 then .ok (.ref M1.length) (M1 ++ [.tup vs]) else .no
def dLst (ds : DA) : D := fun L M => (ds L M).bind fun vs M1 => if vs.length ≤ 1000 then .ok (.ref M1.length) (M1 ++ [.lst vs]) else .no
theorem se_tup {x1} (h : SA g X es ds) : SE g X (.Tuple es x1 pos) (dTup ds) :=
  pe_imp (pe_tup h) fun σ H Q ⟨r, L, M, v, M', A, e, k⟩ => by
    obtain ⟨vs, M1, e1, e⟩ := R.bind_eq e
    split at e
    · rename_i hl
      cases e
      refine tDA_go A e1 fun r1 H1 n1 A1 l1 => ⟨?_, fun p hp => ?_⟩
      · rw [List.length_map]; exact line6 (by omega)
      · exact alloc_fin A1.rel .tup l1 (fun r2 H2 n2 R2 l2 => k r2 H2 (n1.trans n2) R2 l2) p hp
    · cases e
theorem se_lst (h : SA g X es ds) : SE g X (.List es pos) (dLst ds) :=
  pe_imp (pe_lst h) fun σ H Q ⟨r, L, M, v, M', A, e, k⟩ => by
    obtain ⟨vs, M1, e1, e⟩ := R.bind_eq e
    split at e
    · rename_i hl
      cases e
      refine tDA_go A e1 fun r1 H1 n1 A1 l1 => ⟨?_, fun p hp => ?_⟩
      · rw [List.length_map]; exact line6 (by omega)
      · exact alloc_fin A1.rel .lst l1 (fun r2 H2 n2 R2 l2 => k r2 H2 (n1.trans n2) R2 l2) p hp
    · cases e
/-! ### {} -/
def dDk : D := fun _ M => .ok (.ref M.length) (M ++ [.dk []])
def dDt : D := fun _ M => .ok (.ref M.length) (M ++ [.dt []])
theorem se_dk : SE g X (.Dict [] [] pos) dDk := pe_imp pe_dnewK fun σ H Q ⟨r, L, M, v, M', A, e, k⟩ => by
  cases e
  exact fun p hp => alloc_fin (o := .dk []) A.rel .dk (fun _ h => by cases h) k p hp
theorem se_dt : SE g X (.Dict [] [] pos) dDt := pe_imp pe_dnewT fun σ H Q ⟨r, L, M, v, M', A, e, k⟩ => by
  cases e
  exact fun p hp => alloc_fin (o := .dt []) A.rel .dt (fun _ h => by cases h) k p hp
/-! ### slices -/
abbrev DO := Loc → Mem → R (Option Int)
def tDO (g : Cfg) (d : DO) : TO := fun σ H Q => ∃ r L M o M', At g r L M σ H ∧ d L M = .ok o M' ∧ ∀ r' H', Nxt r M H r' M' H' → Rel g r' M' H' → Q o H'
abbrev SO (g : Cfg) (X : Cx) (e : Option Expr) (d : DO) : Prop := PO X e (tDO g d)
def oNone : DO := fun _ M => .ok none M
def oSome (d : D) : DO := fun L M => (d L M).bind fun v M1 => match v with
  | .int i => .ok (some i) M1
  | _ => .no
theorem po_imp {e : Option Expr} {t t' : TO} (h : PO X e t) (k : ∀ σ H Q, t' σ H Q → t σ H Q) : PO X e t' := ⟨fun pins s σ H Q I q => h.run pins s σ H Q I (k σ H Q q)⟩
theorem so_none : SO g X none oNone := po_imp po_none fun σ H Q ⟨r, L, M, v, M', A, e, k⟩ => by
  cases e
  exact k r H Nxt.refl A.rel
theorem so_some (ha : SE g X a da) : SO g X (some a) (oSome da) := po_imp (po_some ha) fun σ H Q ⟨r, L, M, v, M', A, e, k⟩ => by
  obtain ⟨x, M1, e1, e⟩ := R.bind_eq e
  refine tD_go A e1 fun r1 H1 n1 A1 l1 => ?_
  split at e
  · cases e
    exact ⟨_, rfl, k r1 H1 n1 A1.rel⟩
  · cases e
theorem tDO_go {r : Nat → Addr} {L : Loc} {M M' : Mem} {σ : L2.St} {H : Hp} {d : DO} {o : Option Int} {Q : Option Int → Hp → Prop} (A : At g r L M σ H) (e : d L M = .ok o M') (k : ∀ r' H', Nxt r M H r' M' H' → At g r' L M' σ H' → Q o H') : tDO g d σ H Q :=
  ⟨r, L, M, o, M', A, e, fun r' H' n R => k r' H' n (A.next n R)⟩
def cut {α : Type} (xs : List α) (lo hi : Option Int) : List α := (xs.drop (HT.sIx xs.length 0 lo)).take (HT.sIx xs.length xs.length hi - HT.sIx xs.length 0 lo)
theorem cut_map {α β : Type} (f : α → β) (xs : List α) (lo hi : Option Int) : (cut xs lo hi).map f = cut (xs.map f) lo hi := by
  unfold cut
  rw [List.map_take, List.map_drop, List.length_map]
theorem cut_mem {α : Type} {xs : List α} {lo hi : Option Int} {x : α} (h : x ∈ cut xs lo hi) : x ∈ xs := List.mem_of_mem_drop (List.mem_of_mem_take h)
def lSl (g : Cfg) (x : Val) (lo hi : Option Int) (M : Mem) : R Val := match lstOf g M x with
  | some xs => .ok (.ref M.length) (M ++ [.lst (cut xs lo hi)])
  | none => .no
def vSl (g : Cfg) (x : Val) (lo hi : Option Int) (M : Mem) : R Val := match x with
  | .str s => if s.length ≤ 1000000 then .ok (.str (cut s lo hi)) M else .no
  | _ => lSl g x lo hi M
def dSl (g : Cfg) (d : D) (lo hi : DO) : D := fun L M => (d L M).bind fun x M1 => (lo L M1).bind fun l M2 => (hi L M2).bind fun h M3 => vSl g x l h M3
theorem cutS_S (s : List Nat) (lo hi : Option Int) : cutS (S s) lo hi = S (cut s lo hi) := by
  unfold cutS cut
  rw [SX.S_len]
theorem se_sl (G : Good g X) {lo hi : Option Expr} {dl dh : DO} {p2 : Pos} (ha : SE g X a da) (hl : SO g X lo dl) (hh : SO g X hi dh) : SE g X (.Subscript a (.Slice lo hi none p2) pos) (dSl g da dl dh) :=
  pe_imp (pe_slice (sl_str.or sl_list) ha hl hh) fun σ H Q ⟨r, L, M, v, M', A, e, k⟩ => by
    obtain ⟨x, M1, e1, e⟩ := R.bind_eq e
    obtain ⟨l, M2, e2, e⟩ := R.bind_eq e
    obtain ⟨h, M3, e3, e⟩ := R.bind_eq e
    refine tD_go A e1 fun r1 H1 n1 A1 l1 => tDO_go A1 e2 fun r2 H2 n2 A2 => tDO_go A2 e3 fun r3 H3 n3 A3 => ?_
    have N : Nxt r M H r3 M3 H3 := (n1.trans n2).trans n3
    rw [← (n2.trans n3).mv l1]
    have lists : ∀ x : Val, lSl g x l h M3 = .ok v M' → rSlL X.K (mv g r3 x) l h H3 Q := fun x e => by
      unfold lSl at e
      split at e
      · rename_i xs hx
        cases e
        obtain ⟨p, hp, hq, wf⟩ := lstOf_ok (K := X.K) G.con A3.rel hx
        refine ⟨p, _, hp, hq, fun p hp => ?_⟩
        have e2 : cutV (xs.map (mv g r3)) l h = (cut xs l h).map (mv g r3) := (cut_map _ _ _ _).symm
        rw [e2]
        exact alloc_fin A3.rel .lst (Lts.sub wf fun v hv => cut_mem hv) (fun r4 H4 n4 R4 l4 => k r4 H4 (N.trans n4) R4 l4) p hp
      · cases e
    cases x with
    | str s =>
      simp only [vSl] at e
      split at e
      · rename_i hs
        cases e
        refine .inl ⟨S s, rfl, by rw [SX.S_len]; exact line6 hs, ?_⟩
        rw [cutS_S]
        exact k r3 H3 N A3.rel trivial
      · cases e
    | _ => exact .inr (lists _ e)
def dRev (g : Cfg) (d : D) : D := fun L M => (d L M).bind fun x M1 => match lstOf g M1 x with
  | some xs => .ok (.ref M1.length) (M1 ++ [.lst xs.reverse])
  | none => .no
theorem se_rev (G : Good g X) {kk : Nat} {p1 p2 p3 : Pos} (ha : SE g X a da) : SE g X (.Subscript a (.Slice none none (some (.UnaryOp .USub (.Constant (.int 1) kk p1) p2)) p3) pos) (dRev g da) :=
  pe_imp (pe_revL ha) fun σ H Q ⟨r, L, M, v, M', A, e, k⟩ => by
    obtain ⟨x, M1, e1, e⟩ := R.bind_eq e
    refine tD_go A e1 fun r1 H1 n1 A1 l1 => ?_
    split at e
    · rename_i xs hx
      cases e
      obtain ⟨p, hp, hq, wf⟩ := lstOf_ok (K := X.K) G.con A1.rel hx
      refine ⟨p, _, hp, hq, fun p hp => ?_⟩
      rw [← List.map_reverse]
      exact alloc_fin A1.rel .lst (Lts.sub wf fun v hv => List.mem_reverse.mp hv) (fun r4 H4 n4 R4 l4 => k r4 H4 (n1.trans n4) R4 l4) p hp
    · cases e
end
end Pa

/-! Calls. -/
namespace Pa
open PySem PySem.Spec
open PyProof.Rows L2
open SX (S)
variable {g : Cfg} {X : Cx}
/-! ### built-in functions by values -/
def CaS (g : Cfg) (f : List Val → Mem → R Val) (rc : List V → Hp → VK → Prop) : Prop := ∀ (r : Nat → Addr) (M : Mem) (H : Hp) (vs : List Val) (v : Val) (M' : Mem) (Q : VK), Rel g r M H → Lts M.length vs → f vs M = .ok v M' → Kont g r M H v M' Q → rc (vs.map (mv g r)) H Q
def MtS (g : Cfg) (f : Val → List Val → Mem → R Val) (rm : V → List V → Hp → VK → Prop) : Prop := ∀ (r : Nat → Addr) (M : Mem) (H : Hp) (x : Val) (vs : List Val) (v : Val) (M' : Mem) (Q : VK), Rel g r M H → x.lt M.length → Lts M.length vs → f x vs M = .ok v M' → Kont g r M H v M' Q → rm (mv g r x) (vs.map (mv g r)) H Q
def dF (f : List Val → Mem → R Val) (ds : DA) : D := fun L M => (ds L M).bind fun vs M1 => f vs M1
theorem goF {f : List Val → Mem → R Val} {rc : List V → Hp → VK → Prop} {ds : DA} (hs : CaS g f rc) {σ : L2.St} {H : Hp} {Q : VK} (h : tD g (dF f ds) σ H Q) : tCB rc (tDA g ds) σ H Q := by
  obtain ⟨r, L, M, v, M', A, e, k⟩ := h
  obtain ⟨vs, M1, e1, e⟩ := R.bind_eq e
  exact tDA_go A e1 fun r1 H1 n1 A1 l1 => hs r1 M1 H1 vs v M' Q A1.rel l1 e fun r2 H2 n2 R2 l2 => k r2 H2 (n1.trans n2) R2 l2
section
variable {x : Str} {p pos : Pos} {e : Expr} {es : List Expr} {ds : DA} {id T : String} {f : List Val → Mem → R Val} {rc : List V → Hp → VK → Prop}
theorem se_fn (hc : CallR X (.builtin id) rc) (hs : CaS g f rc) (hm : X.mg x = none) (hv : bootBuiltins x = some (.builtin id)) (ha : SA g X (e :: es) ds) (hg : Gl X x := by rfl) (hn : x ≠ "__name__" := by decide) (hdb : (x == ("__debug__" : Str)) = false := by decide)
    (he : starEach (e :: es) X.env = (false, eval e X.env) :: starEach es X.env := by rfl) (hpl : (backTo pos (starEach es X.env)).any (·.1) = false := by rfl) : SE g X (.Call (.Name x p) (e :: es) [] pos) (dF f ds) :=
  pe_imp (pe_callB hc hg hm hv ha hn hdb he hpl) fun _ _ _ h => goF hs h
theorem se_ty (hc : CallR X (.type T) rc) (hs : CaS g f rc) (hm : X.mg x = none) (hv : bootBuiltins x = some (.type T)) (ha : SA g X (e :: es) ds) (hg : Gl X x := by rfl) (hn : x ≠ "__name__" := by decide) (hdb : (x == ("__debug__" : Str)) = false := by decide)
    (he : starEach (e :: es) X.env = (false, eval e X.env) :: starEach es X.env := by rfl) (hpl : (backTo pos (starEach es X.env)).any (·.1) = false := by rfl) : SE g X (.Call (.Name x p) (e :: es) [] pos) (dF f ds) :=
  pe_imp (pe_callTy hc hg hm hv ha hn hdb he hpl) fun _ _ _ h => goF hs h
end
/-! len -/
def bLen (g : Cfg) (vs : List Val) (M : Mem) : R Val := match vs with
  | [.str s] => if s.length ≤ 1000000 then .ok (.int s.length) M else .no
  | [v] => (match seqOf g M v with
    | some xs => .ok (.int xs.length) M
    | none => (match v with
      | .ref a => (match dkOf M a with
        | some kvs => .ok (.int kvs.length) M
        | none => .no)
      | _ => .no))
  | _ => .no
def rLenDk : List V → Hp → VK → Prop := fun xs H Q => ∃ a kvs, xs = [.ref a] ∧ Rd H a (.dK kvs) ∧ Q (.int kvs.length) H
theorem call_len_dk : CallR X (.builtin "len") rLenDk := by
  intro pins s σ H xs us Q I r h
  obtain ⟨a, kvs, rfl, hr, q⟩ := h
  cases r with
  | cons r1 r2 =>
    cases r2
    cases r1
    exact d_len I hr fun t s' I' => ⟨.int kvs.length, H, I', ⟨_, rfl⟩, q⟩
theorem bLen_s {K : PySem.W.Frag} (hK : ConOk g K) : CaS g (bLen g) (fun xs H Q => (∃ p ys, xs = [.ref p] ∧ (SqL K H p ys ∨ SqT K H p ys) ∧ Q (.int ys.length) H) ∨ ((∃ z, xs = [.str z] ∧ z.length ≤ sizeLine ∧ Q (.int z.length) H) ∨ rLenDk xs H Q)) := by
  intro r M H vs v M' Q R l e k
  unfold bLen at e
  split at e
  · rename_i s
    split at e
    · rename_i hl
      cases e
      refine .inr (.inl ⟨S s, rfl, by rw [SX.S_len]; exact line6 hl, ?_⟩)
      rw [SX.S_len]
      exact stay (v := .int _) R trivial k
    · cases e
  · rename_i w _
    split at e
    · rename_i xs hx
      cases e
      obtain ⟨p, hp, hq, wf⟩ := seqOf_ok (K := K) hK R hx
      refine .inl ⟨p, _, by rw [List.map_cons, hp]; rfl, hq, ?_⟩
      rw [List.length_map]
      exact stay (v := .int _) R trivial k
    · split at e
      · split at e
        · rename_i kvs hk
          cases e
          obtain ⟨rd, wf⟩ := dkOf_ok R hk
          refine .inr (.inr ⟨_, _, rfl, rd, ?_⟩)
          rw [List.length_map]
          exact stay (v := .int _) R trivial k
        · cases e
      · cases e
  · cases e
/-! str -/
def bStr (vs : List Val) (M : Mem) : R Val := match vs with
  | [.str s] => .ok (.str s) M
  | [.int i] => if 0 ≤ i ∧ i < 18446744073709551616 then .ok (.str (TL.numL i.toNat)) M else .no
  | _ => .no
theorem log2_64 {n : Nat} (h : n < 18446744073709551616) : n.log2 < 1920 := Nat.lt_of_lt_of_le (PySem.Flt.log2_lt_of (k := 64) (by decide) h) (by decide)
theorem bStr_s : CaS g bStr (fun xs H Q => (∃ i, xs = [.int i] ∧ i.natAbs.log2 < 1920 ∧ Q (.str (toString i)) H) ∨ ∃ a, xs = [.str a] ∧ Q (.str a) H) := by
  intro r M H vs v M' Q R l e k
  unfold bStr at e
  split at e
  · cases e
    exact .inr ⟨_, rfl, stay (v := .str _) R trivial k⟩
  · rename_i i
    split at e
    · rename_i h
      cases e
      refine .inl ⟨i, rfl, log2_64 (by omega), ?_⟩
      obtain ⟨n, rfl⟩ : ∃ n : Nat, i = n := ⟨i.toNat, by omega⟩
      have z := stay (v := .str (TL.numL n)) R trivial (by simpa using k)
      have e : (PySem.Str.ofString (toString ((n : Nat) : Int))) = S (TL.numL n) := SX.num_S n
      show Q (.str (PySem.Str.ofString (toString ((n : Nat) : Int)))) H
      rw [e]
      exact z
    · cases e
  · cases e
/-! int -/
def digits (s : List Nat) : Bool := s.all fun c => decide (48 ≤ c) && decide (c ≤ 57)
def bInt (vs : List Val) (M : Mem) : R Val := match vs with
  | [.int i] => .ok (.int i) M
  | [.bl b] => .ok (.int (if b then 1 else 0)) M
  | [.str s] => if digits s = true ∧ s ≠ [] ∧ s.length ≤ 640 then .ok (.int (NumText.digitsVal s : Nat)) M else .no
  | _ => .no
theorem bInt_s : CaS g bInt (fun xs H Q => ((∃ i, xs = [.int i] ∧ Q (.int i) H) ∨ ∃ k, xs = [.bl k] ∧ Q (.int (if k then 1 else 0)) H) ∨ ∃ a n, xs = [.str a] ∧ PySem.intText? a = some n ∧ a.length ≤ 640 ∧ Q (.int n) H) := by
  intro r M H vs v M' Q R l e k
  unfold bInt at e
  split at e
  · cases e
    exact .inl (.inl ⟨_, rfl, stay (v := .int _) R trivial k⟩)
  · cases e
    exact .inl (.inr ⟨_, rfl, stay (v := .int _) R trivial k⟩)
  · rename_i s
    split at e
    · rename_i h
      cases e
      exact .inr ⟨S s, _, rfl, SX.int_S h.1 h.2.1 (by omega), by rw [SX.S_len]; exact h.2.2, stay (v := .int _) R trivial k⟩
    · cases e
  · cases e
/-! list(x): a copy -/
def bList (g : Cfg) (vs : List Val) (M : Mem) : R Val := match vs with
  | [v] => (match seqOf g M v with
    | some xs => .ok (.ref M.length) (M ++ [.lst xs])
    | none => .no)
  | _ => .no
theorem bList_s {K : PySem.W.Frag} (hK : ConOk g K) : CaS g (bList g) (fun xs H Q => ∃ p ys, xs = [.ref p] ∧ (SqL K H p ys ∨ SqT K H p ys) ∧ ∀ l, H l = none → Q (.ref l) (upd H l (.lst ys))) := by
  intro r M H vs v M' Q R l e k
  unfold bList at e
  split at e
  · split at e
    · rename_i xs hx
      cases e
      obtain ⟨p, hp, hq, wf⟩ := seqOf_ok (K := K) hK R hx
      exact ⟨p, _, by rw [List.map_cons, hp]; rfl, hq, fun p hp => alloc_fin R .lst wf k p hp⟩
    · cases e
  · cases e
/-! max, min of two -/
def bMax (vs : List Val) (M : Mem) : R Val := match vs with
  | [.int i, .int j] => .ok (.int (if j > i then j else i)) M
  | _ => .no
def bMin (vs : List Val) (M : Mem) : R Val := match vs with
  | [.int i, .int j] => .ok (.int (if j < i then j else i)) M
  | _ => .no
theorem bMax_s : CaS g bMax (fun xs H Q => ∃ i j, xs = [.int i, .int j] ∧ Q (.int (if j > i then j else i)) H) := by
  intro r M H vs v M' Q R l e k
  unfold bMax at e
  split at e
  · cases e
    exact ⟨_, _, rfl, stay (v := .int _) R trivial k⟩
  · cases e
theorem bMin_s : CaS g bMin (fun xs H Q => ∃ i j, xs = [.int i, .int j] ∧ Q (.int (if j < i then j else i)) H) := by
  intro r M H vs v M' Q R l e k
  unfold bMin at e
  split at e
  · cases e
    exact ⟨_, _, rfl, stay (v := .int _) R trivial k⟩
  · cases e
/-! all, any, sum -/
def blsOf : List Val → Option (List Bool)
  | [] => some []
  | .bl b :: r => (blsOf r).map (b :: ·)
  | _ => none
def intsOf : List Val → Option (List Int)
  | [] => some []
  | .int b :: r => (intsOf r).map (b :: ·)
  | _ => none
theorem blsOf_ok {r : Nat → Addr} : ∀ {xs : List Val} {bs : List Bool}, blsOf xs = some bs → xs.map (mv g r) = bs.map V.bl
  | [], bs, h => by cases h; rfl
  | .bl b :: xs, bs, h => by
    simp only [blsOf] at h
    obtain ⟨cs, h1, rfl⟩ := Option.map_eq_some_iff.mp h
    rw [List.map_cons, List.map_cons, blsOf_ok h1]; rfl
  | .non :: _, _, h => by cases h
  | .int _ :: _, _, h => by cases h
  | .str _ :: _, _, h => by cases h
  | .ref _ :: _, _, h => by cases h
  | .con _ :: _, _, h => by cases h
theorem intsOf_ok {r : Nat → Addr} : ∀ {xs : List Val} {bs : List Int}, intsOf xs = some bs → xs.map (mv g r) = bs.map V.int
  | [], bs, h => by cases h; rfl
  | .int b :: xs, bs, h => by
    simp only [intsOf] at h
    obtain ⟨cs, h1, rfl⟩ := Option.map_eq_some_iff.mp h
    rw [List.map_cons, List.map_cons, intsOf_ok h1]; rfl
  | .non :: _, _, h => by cases h
  | .bl _ :: _, _, h => by cases h
  | .str _ :: _, _, h => by cases h
  | .ref _ :: _, _, h => by cases h
  | .con _ :: _, _, h => by cases h
def bAll (g : Cfg) (vs : List Val) (M : Mem) : R Val := match vs with
  | [v] => (match (lstOf g M v).bind blsOf with
    | some bs => .ok (.bl (bs.all id)) M
    | none => .no)
  | _ => .no
def bAny (g : Cfg) (vs : List Val) (M : Mem) : R Val := match vs with
  | [v] => (match (lstOf g M v).bind blsOf with
    | some bs => .ok (.bl (bs.any id)) M
    | none => .no)
  | _ => .no
def bSum (g : Cfg) (vs : List Val) (M : Mem) : R Val := match vs with
  | [v] => (match (lstOf g M v).bind intsOf with
    | some bs => .ok (.int bs.sum) M
    | none => .no)
  | _ => .no
theorem bAll_s {K : PySem.W.Frag} (hK : ConOk g K) : CaS g (bAll g) (rAll K) := by
  intro r M H vs v M' Q R l e k
  unfold bAll at e
  split at e
  · split at e
    · rename_i bs hb
      cases e
      obtain ⟨xs, hx, hy⟩ := Option.bind_eq_some_iff.mp hb
      obtain ⟨p, hp, hq, wf⟩ := lstOf_ok (K := K) hK R hx
      rw [blsOf_ok hy] at hq
      exact ⟨p, bs, by rw [List.map_cons, hp]; rfl, hq, stay (v := .bl _) R trivial k⟩
    · cases e
  · cases e
theorem bAny_s {K : PySem.W.Frag} (hK : ConOk g K) : CaS g (bAny g) (rAny K) := by
  intro r M H vs v M' Q R l e k
  unfold bAny at e
  split at e
  · split at e
    · rename_i bs hb
      cases e
      obtain ⟨xs, hx, hy⟩ := Option.bind_eq_some_iff.mp hb
      obtain ⟨p, hp, hq, wf⟩ := lstOf_ok (K := K) hK R hx
      rw [blsOf_ok hy] at hq
      exact ⟨p, bs, by rw [List.map_cons, hp]; rfl, hq, stay (v := .bl _) R trivial k⟩
    · cases e
  · cases e
theorem bSum_s {K : PySem.W.Frag} (hK : ConOk g K) : CaS g (bSum g) (rSum K) := by
  intro r M H vs v M' Q R l e k
  unfold bSum at e
  split at e
  · split at e
    · rename_i bs hb
      cases e
      obtain ⟨xs, hx, hy⟩ := Option.bind_eq_some_iff.mp hb
      obtain ⟨p, hp, hq, wf⟩ := lstOf_ok (K := K) hK R hx
      rw [intsOf_ok hy] at hq
      exact ⟨p, bs, by rw [List.map_cons, hp]; rfl, hq, stay (v := .int _) R trivial k⟩
    · cases e
  · cases e
section
variable {p pos : Pos} {e : Expr} {es : List Expr} {ds : DA} (G : Good g X)
abbrev Pl (pos : Pos) (e : Expr) (es : List Expr) (X : Cx) : Prop := starEach (e :: es) X.env = (false, eval e X.env) :: starEach es X.env ∧ (backTo pos (starEach es X.env)).any (·.1) = false
include G
theorem se_len (hm : X.mg "len" = none) (ha : SA g X (e :: es) ds) (hg : Gl X "len" := by rfl) (hp : Pl pos e es X := by exact ⟨rfl, rfl⟩) : SE g X (.Call (.Name "len" p) (e :: es) [] pos) (dF (bLen g) ds) :=
  se_fn (call_len_seq.or (call_len_str.or call_len_dk)) (bLen_s G.con) hm PySem.boot_len ha hg (by decide) (by decide) hp.1 hp.2
theorem se_max (hm : X.mg "max" = none) (ha : SA g X (e :: es) ds) (hg : Gl X "max" := by rfl) (hp : Pl pos e es X := by exact ⟨rfl, rfl⟩) : SE g X (.Call (.Name "max" p) (e :: es) [] pos) (dF bMax ds) :=
  se_fn (call_max2 G.calm) bMax_s hm (by decide +kernel) ha hg (by decide) (by decide) hp.1 hp.2
theorem se_min (hm : X.mg "min" = none) (ha : SA g X (e :: es) ds) (hg : Gl X "min" := by rfl) (hp : Pl pos e es X := by exact ⟨rfl, rfl⟩) : SE g X (.Call (.Name "min" p) (e :: es) [] pos) (dF bMin ds) :=
  se_fn (call_min2 G.calm) bMin_s hm (by decide +kernel) ha hg (by decide) (by decide) hp.1 hp.2
theorem se_all (hm : X.mg "all" = none) (ha : SA g X (e :: es) ds) (hg : Gl X "all" := by rfl) (hp : Pl pos e es X := by exact ⟨rfl, rfl⟩) : SE g X (.Call (.Name "all" p) (e :: es) [] pos) (dF (bAll g) ds) :=
  se_fn (cr_all G.calm) (bAll_s G.con) hm (by decide +kernel) ha hg (by decide) (by decide) hp.1 hp.2
theorem se_any (hm : X.mg "any" = none) (ha : SA g X (e :: es) ds) (hg : Gl X "any" := by rfl) (hp : Pl pos e es X := by exact ⟨rfl, rfl⟩) : SE g X (.Call (.Name "any" p) (e :: es) [] pos) (dF (bAny g) ds) :=
  se_fn (cr_any G.calm) (bAny_s G.con) hm (by decide +kernel) ha hg (by decide) (by decide) hp.1 hp.2
theorem se_sum (hm : X.mg "sum" = none) (ha : SA g X (e :: es) ds) (hg : Gl X "sum" := by rfl) (hp : Pl pos e es X := by exact ⟨rfl, rfl⟩) : SE g X (.Call (.Name "sum" p) (e :: es) [] pos) (dF (bSum g) ds) :=
  se_fn (cr_sum G.calm) (bSum_s G.con) hm (by decide +kernel) ha hg (by decide) (by decide) hp.1 hp.2
theorem se_list (hm : X.mg "list" = none) (ha : SA g X (e :: es) ds) (hg : Gl X "list" := by rfl) (hp : Pl pos e es X := by exact ⟨rfl, rfl⟩) : SE g X (.Call (.Name "list" p) (e :: es) [] pos) (dF (bList g) ds) :=
  se_ty call_list_of (bList_s G.con) hm (by decide +kernel) ha hg (by decide) (by decide) hp.1 hp.2
omit G
theorem se_strc (hm : X.mg "str" = none) (ha : SA g X (e :: es) ds) (hg : Gl X "str" := by rfl) (hp : Pl pos e es X := by exact ⟨rfl, rfl⟩) : SE g X (.Call (.Name "str" p) (e :: es) [] pos) (dF bStr ds) :=
  se_ty (call_str_int.or SkE.call_str_str) bStr_s hm (by decide +kernel) ha hg (by decide) (by decide) hp.1 hp.2
theorem se_intc (hm : X.mg "int" = none) (ha : SA g X (e :: es) ds) (hg : Gl X "int" := by rfl) (hp : Pl pos e es X := by exact ⟨rfl, rfl⟩) : SE g X (.Call (.Name "int" p) (e :: es) [] pos) (dF bInt ds) :=
  se_ty (call_int1.or call_int_str) bInt_s hm (by decide +kernel) ha hg (by decide) (by decide) hp.1 hp.2
end

/-! ### methods of built-in types -/
def isTy (T : String) (M : Mem) (v : Val) : Bool := match v with
  | .str _ => T == "str"
  | .ref a => (match M[a]? with
    | some (.lst _) => T == "list"
    | some (.fz (.lst _)) => T == "list"
    | some (.dk _) => T == "dict"
    | some (.dt _) => T == "dict"
    | _ => false)
  | _ => false
theorem isTy_ok {K : PySem.W.Frag} {r : Nat → Addr} {M : Mem} {H : Hp} {T : String} {v : Val} (R : Rel g r M H) (h : isTy T M v = true) : tyV K T (mv g r v) H := by
  cases v with
  | str s => exact beq_iff_eq.mp h
  | ref a =>
    simp only [isTy] at h
    split at h
    · rename_i xs hm
      exact .inl ⟨beq_iff_eq.mp h, _, .inl (.inl (lst_at R hm))⟩
    · rename_i xs hm
      obtain ⟨u, hu, x⟩ := R.obj a _ hm
      cases x with
      | fz x =>
        cases x
        exact .inl ⟨beq_iff_eq.mp h, _, .inl (.inr ⟨_, hu⟩)⟩
    · rename_i xs hm
      obtain ⟨u, hu, x⟩ := R.obj a _ hm
      cases x
      exact .inr (.inr (.inl ⟨beq_iff_eq.mp h, .inl ⟨_, hu⟩⟩))
    · rename_i xs hm
      obtain ⟨u, hu, x⟩ := R.obj a _ hm
      cases x
      exact .inr (.inr (.inl ⟨beq_iff_eq.mp h, .inr ⟨_, hu⟩⟩))
    · cases h
  | _ => cases h
def dM (T : String) (f : Val → List Val → Mem → R Val) (d : D) (ds : DA) : D := fun L M => (d L M).bind fun x M1 => if isTy T M1 x = true then (ds L M1).bind fun vs M2 => f x vs M2 else .no
def dM0 (T : String) (f : Val → List Val → Mem → R Val) (d : D) : D := fun L M => (d L M).bind fun x M1 => if isTy T M1 x = true then f x [] M1 else .no
section
variable {o e : Expr} {es : List Expr} {d : D} {ds : DA} {name : Str} {apos cpos : Pos} {T id : String} {f : Val → List Val → Mem → R Val} {rm : V → List V → Hp → VK → Prop}
structure PlM (X : Cx) (o : Expr) (name : Str) (apos : Pos) (e : Expr) (es : List Expr) (cpos : Pos) : Prop where
  hbase : attributeBase o name X.env (eval o X.env) = eval o X.env
  hfew : ((backTo cpos (starEach (e :: es) X.env)).all (fun x => !x.1) && (backToKw cpos (keywordEach [] X.env)).all (fun x => x.1.isSome)
      && decide ((e :: es).length + ([] : List Keyword).length + (if ([] : List Keyword).isEmpty then 0 else 1) < 30)) = true
  hline : (apos.endLine == cpos.line) = true
  hs : starEach (e :: es) X.env = (false, eval e X.env) :: starEach es X.env
  hplain : (backTo cpos (starEach es X.env)).any (·.1) = false
theorem se_m (pa : PlainAttrs T) (slot : Slot T name id) (hty : typeOf (.builtin id) = pure (.type "method_descriptor")) (hm : MtR X id rm) (hs : MtS g f rm) (ho : SE g X o d) (ha : SA g X (e :: es) ds) (p : PlM X o name apos e es cpos) :
    SE g X (.Call (.Attribute o name apos) (e :: es) [] cpos) (dM T f d ds) :=
  pe_imp (pe_bm pa slot hty hm ho ha p.hbase p.hfew p.hline p.hs p.hplain) fun σ H Q ⟨r, L, M, v, M', A, e, k⟩ => by
    obtain ⟨x, M1, e1, e⟩ := R.bind_eq e
    split at e
    · rename_i ht
      obtain ⟨vs, M2, e2, e⟩ := R.bind_eq e
      refine tD_go A e1 fun r1 H1 n1 A1 l1 => ⟨isTy_ok A1.rel ht, tDA_go A1 e2 fun r2 H2 n2 A2 l2 => ?_⟩
      rw [← n2.mv l1]
      exact hs r2 M2 H2 x vs v M' Q A2.rel (l1.mono n2.le) l2 e fun r3 H3 n3 R3 l3 => k r3 H3 ((n1.trans n2).trans n3) R3 l3
    · cases e
theorem se_m0 (pa : PlainAttrs T) (slot : Slot T name id) (hty : typeOf (.builtin id) = pure (.type "method_descriptor")) (hm : MtR X id rm) (hs : MtS g f rm) (ho : SE g X o d)
    (hbase : attributeBase o name X.env (eval o X.env) = eval o X.env := by rfl) (hline : (apos.endLine == cpos.line) = true := by rfl) : SE g X (.Call (.Attribute o name apos) [] [] cpos) (dM0 T f d) :=
  pe_imp (pe_bm0 pa slot hty hm ho hbase hline) fun σ H Q ⟨r, L, M, v, M', A, e, k⟩ => by
    obtain ⟨x, M1, e1, e⟩ := R.bind_eq e
    split at e
    · rename_i ht
      refine tD_go A e1 fun r1 H1 n1 A1 l1 => ⟨isTy_ok A1.rel ht, ?_⟩
      exact hs r1 M1 H1 x [] v M' Q A1.rel l1 Lts.nil e fun r3 H3 n3 R3 l3 => k r3 H3 (n1.trans n3) R3 l3
    · cases e
end
/-! append, extend, pop -/
def mAppend (x : Val) (vs : List Val) (M : Mem) : R Val := match x, vs with
  | .ref a, [v] => (match M[a]? with
    | some (.lst xs) => if xs.length < 1000000 then .ok .non (M.set a (.lst (xs ++ [v]))) else .no
    | _ => .no)
  | _, _ => .no
def mExtend (x : Val) (vs : List Val) (M : Mem) : R Val := match x, vs with
  | .ref a, [.ref b] => (match M[a]?, M[b]? with
    | some (.lst xs), some (.lst ys) => if xs.length + ys.length ≤ 1000000 then .ok .non (M.set a (.lst (xs ++ ys))) else .no
    | _, _ => .no)
  | _, _ => .no
def mPop (x : Val) (vs : List Val) (M : Mem) : R Val := match x, vs with
  | .ref a, [] => (match M[a]? with
    | some (.lst xs) => (match xs[xs.length - 1]? with
      | some v => .ok v (M.set a (.lst xs.dropLast))
      | none => .no)
    | _ => .no)
  | _, _ => .no
theorem put_fin {r : Nat → Addr} {M : Mem} {H : Hp} {a : Nat} {o : Ob} {u : HO} {v : Val} {Q : VK} (R : Rel g r M H) {o0 : Ob} (ha : M[a]? = some o0) (x : HoR g r o u) (l : o.lt M.length) (lv : v.lt M.length) (k : Kont g r M H v (M.set a o) Q) (hz : o0.isFz = false := by rfl) : Q (mv g r v) (upd H (r a) u) :=
  k r _ (nxt_set R ha hz) (R.put (lt_of_get ha) x l) (by rw [List.length_set]; exact lv)
theorem mAppend_s : MtS g mAppend rAppend := by
  intro r M H x vs v M' Q R lx lv e k
  unfold mAppend at e
  split at e
  · rename_i a w
    split at e
    · rename_i xs hm
      split at e
      · rename_i hl
        cases e
        refine ⟨_, _, _, rfl, rfl, lst_at R hm, by rw [List.length_map]; exact line6' hl, ?_⟩
        have z := put_fin (v := .non) R hm .lst (Lts.app (R.wf _ _ hm) lv) trivial k
        rw [List.map_append] at z
        exact z
      · cases e
    · cases e
  · cases e
theorem mExtend_s : MtS g mExtend rExtend := by
  intro r M H x vs v M' Q R lx lv e k
  unfold mExtend at e
  split at e
  · rename_i a b
    split at e
    · rename_i xs ys hm hn
      split at e
      · rename_i hl
        cases e
        refine ⟨_, _, _, _, rfl, rfl, lst_at R hm, lst_at R hn, by rw [List.length_map, List.length_map]; exact line6 hl, ?_⟩
        have z := put_fin (v := .non) R hm .lst (Lts.app (R.wf _ _ hm) (R.wf _ _ hn)) trivial k
        rw [List.map_append] at z
        exact z
      · cases e
    · cases e
  · cases e
theorem mPop_s : MtS g mPop rPop := by
  intro r M H x vs v M' Q R lx lv e k
  unfold mPop at e
  split at e
  · rename_i a
    split at e
    · rename_i xs hm
      split at e
      · rename_i w hw
        cases e
        have wf : Lts M.length xs := R.wf _ _ hm
        refine ⟨_, _, _, rfl, rfl, lst_at R hm, by rw [List.length_map, List.getElem?_map, hw]; rfl, ?_⟩
        have z := put_fin (v := v) R hm .lst (Lts.sub wf fun y hy => (List.dropLast_sublist xs).subset hy) (wf.get hw) k
        rw [List.map_dropLast] at z
        exact z
      · cases e
    · cases e
  · cases e
/-! texts -/
def strsOf : List Val → Option (List (List Nat))
  | [] => some []
  | .str b :: r => (strsOf r).map (b :: ·)
  | _ => none
theorem strsOf_ok {r : Nat → Addr} : ∀ {xs : List Val} {bs : List (List Nat)}, strsOf xs = some bs → xs.map (mv g r) = (bs.map S).map V.str
  | [], bs, h => by cases h; rfl
  | .str b :: xs, bs, h => by
    simp only [strsOf] at h
    obtain ⟨cs, h1, rfl⟩ := Option.map_eq_some_iff.mp h
    rw [List.map_cons, List.map_cons, List.map_cons, strsOf_ok h1]; rfl
  | .non :: _, _, h => by cases h
  | .int _ :: _, _, h => by cases h
  | .bl _ :: _, _, h => by cases h
  | .ref _ :: _, _, h => by cases h
  | .con _ :: _, _, h => by cases h
def mSplit (x : Val) (vs : List Val) (M : Mem) : R Val := match x, vs with
  | .str a, [.str b] => if b ≠ [] ∧ b.all (· < 256) = true ∧ a.length ≤ 1000000 then .ok (.ref M.length) (M ++ [.lst ((TL.spl b 0 [] a).map .str)]) else .no
  | _, _ => .no
theorem mSplit_s : MtS g mSplit (fun x xs H Q => ∃ a b, x = .str a ∧ xs = [.str b] ∧ (b.length == 0) = false ∧ a.length + 2 ≤ sizeLine ∧ rNewStrs (Txt.split a b) H Q) := by
  intro r M H x vs v M' Q R lx lv e k
  unfold mSplit at e
  split at e
  · rename_i a b
    split at e
    · rename_i h
      cases e
      refine ⟨S a, S b, rfl, rfl, ?_, ?_, fun p hp => ?_⟩
      · rw [SX.S_len]
        cases b with
        | nil => exact absurd rfl h.1
        | cons c b => rfl
      · rw [SX.S_len]; exact Nat.le_trans (Nat.add_le_add_right h.2.2 2) (by decide)
      · rw [SX.split_S h.1 h.2.1]
        have z := alloc_fin (o := .lst ((TL.spl b 0 [] a).map .str)) (u := .lst (((TL.spl b 0 [] a).map .str).map (mv g r))) R .lst (fun w hw => by
          obtain ⟨s, _, rfl⟩ := List.mem_map.mp hw
          trivial) k p hp
        rw [List.map_map] at z ⊢
        exact z
    · cases e
  · cases e
def mJoin (g : Cfg) (x : Val) (vs : List Val) (M : Mem) : R Val := match x, vs with
  | .str a, [v] => (match (seqOf g M v).bind strsOf with
    | some ys => if (ys.map (·.length)).sum + ys.length * a.length ≤ 1000000 then .ok (.str (TL.joinL a ys)) M else .no
    | none => .no)
  | _, _ => .no
theorem mJoin_s {K : PySem.W.Frag} (hK : ConOk g K) : MtS g (mJoin g) (fun x xs H Q => ∃ a p, ∃ ys : List Str, x = .str a ∧ xs = [.ref p] ∧ (SqL K H p (ys.map V.str) ∨ SqT K H p (ys.map V.str)) ∧
    (ys.map (·.length)).sum + ys.length * a.length ≤ 16777216 ∧ Q (.str (Txt.join a ys)) H) := by
  intro r M H x vs v M' Q R lx lv e k
  unfold mJoin at e
  split at e
  · rename_i a w
    split at e
    · rename_i ys hy
      split at e
      · rename_i h
        cases e
        obtain ⟨xs, hx, hz⟩ := Option.bind_eq_some_iff.mp hy
        obtain ⟨p, hp, hq, wf⟩ := seqOf_ok (K := K) hK R hx
        rw [strsOf_ok hz] at hq
        refine ⟨S a, p, ys.map S, rfl, by rw [List.map_cons, hp]; rfl, hq, ?_, ?_⟩
        · rw [SX.lens, List.length_map, SX.S_len]; omega
        · rw [SX.join_S]
          exact stay (v := .str _) R trivial k
      · cases e
    · cases e
  · cases e
section
variable {o e : Expr} {es : List Expr} {d : D} {ds : DA} {apos cpos : Pos}
theorem se_append (ho : SE g X o d) (ha : SA g X (e :: es) ds) (p : PlM X o "append" apos e es cpos := by exact ⟨rfl, rfl, rfl, rfl, rfl⟩) : SE g X (.Call (.Attribute o "append" apos) (e :: es) [] cpos) (dM "list" mAppend d ds) :=
  se_m PySem.F.plainAttrs_list PySem.F.slot_list_append PySem.F.type_list_append mt_append mAppend_s ho ha p
theorem se_extend (ho : SE g X o d) (ha : SA g X (e :: es) ds) (p : PlM X o "extend" apos e es cpos := by exact ⟨rfl, rfl, rfl, rfl, rfl⟩) : SE g X (.Call (.Attribute o "extend" apos) (e :: es) [] cpos) (dM "list" mExtend d ds) :=
  se_m PySem.F.plainAttrs_list PySem.F.slot_list_extend PySem.F.type_list_extend mt_extend mExtend_s ho ha p
theorem se_pop (ho : SE g X o d) (hb : attributeBase o "pop" X.env (eval o X.env) = eval o X.env := by rfl) (hl : (apos.endLine == cpos.line) = true := by rfl) : SE g X (.Call (.Attribute o "pop" apos) [] [] cpos) (dM0 "list" mPop d) :=
  se_m0 PySem.F.plainAttrs_list PySem.F.slot_list_pop PySem.F.type_list_pop mt_pop mPop_s ho hb hl
theorem se_split (ho : SE g X o d) (ha : SA g X (e :: es) ds) (p : PlM X o "split" apos e es cpos := by exact ⟨rfl, rfl, rfl, rfl, rfl⟩) : SE g X (.Call (.Attribute o "split" apos) (e :: es) [] cpos) (dM "str" mSplit d ds) :=
  se_m PySem.F.plainAttrs_str PySem.F.slot_str_split PySem.F.type_str_split mt_split mSplit_s ho ha p
theorem se_join (G : Good g X) (ho : SE g X o d) (ha : SA g X (e :: es) ds) (p : PlM X o "join" apos e es cpos := by exact ⟨rfl, rfl, rfl, rfl, rfl⟩) : SE g X (.Call (.Attribute o "join" apos) (e :: es) [] cpos) (dM "str" (mJoin g) d ds) :=
  se_m PySem.F.plainAttrs_str PySem.F.slot_str_join PySem.F.type_str_join mt_join (mJoin_s G.con) ho ha p
end
/-! ### attributes -/
/-- own classes: what the text makes of them; fields: which attributes are plain -/
structure ClsOk (g : Cfg) (K : PySem.W.Frag) (c : String) (fs : List String) : Prop where
  cl : Cls K (g.cl c)
  no : ∀ f ∈ fs, NoAttr K (g.cl c) (Str.ofString f)
def getf (fs : List (String × Val)) (f : String) : Option Val := match fs with
  | [] => none
  | p :: r => if p.1 = f then some p.2 else getf r f
def putf (f : String) (v : Val) : List (String × Val) → List (String × Val)
  | [] => [(f, v)]
  | p :: r => if p.1 = f then (p.1, v) :: r else p :: putf f v r
theorem ofs_inj {a b : String} (h : Str.ofString a = Str.ofString b) : a = b := by
  have e : a.toList.map Char.toNat = b.toList.map Char.toNat := by
    rw [Str.ofString_eq_toList, Str.ofString_eq_toList] at h
    exact congrArg (fun s : Str => s.cps.toList) h
  have inj : ∀ (l m : List Char), l.map Char.toNat = m.map Char.toNat → l = m := by
    intro l
    induction l with
    | nil => intro m h; cases m with
      | nil => rfl
      | cons _ _ => cases h
    | cons c l ih =>
      intro m h
      cases m with
      | nil => cases h
      | cons c' m =>
        rw [List.map_cons, List.map_cons] at h
        injection h with h1 h2
        rw [ih m h2, Char.toNat_inj.mp h1]
  exact String.toList_inj.mp (inj _ _ e)
theorem getf_ok {r : Nat → Addr} {f : String} : ∀ (fs : List (String × Val)), (fs.map (mfv g r)).lookup (Str.ofString f) = (getf fs f).map (mv g r)
  | [] => rfl
  | p :: fs => by
    rw [List.map_cons]
    show List.lookup (Str.ofString f) ((Str.ofString p.1, mv g r p.2) :: _) = _
    simp only [getf]
    by_cases h : p.1 = f
    · rw [if_pos h, h]
      simp
    · rw [if_neg h]
      have : (Str.ofString f == Str.ofString p.1) = false := beq_eq_false_iff_ne.mpr fun z => h (ofs_inj z).symm
      rw [List.lookup_cons, this, getf_ok fs]
theorem putf_ok {r : Nat → Addr} {f : String} {v : Val} : ∀ (fs : List (String × Val)), putF (Str.ofString f) (mv g r v) (fs.map (mfv g r)) = (putf f v fs).map (mfv g r)
  | [] => rfl
  | p :: fs => by
    rw [List.map_cons]
    show (if Str.ofString p.1 = Str.ofString f then (Str.ofString p.1, mv g r v) :: _ else (Str.ofString p.1, mv g r p.2) :: putF _ _ _) = _
    simp only [putf]
    by_cases h : p.1 = f
    · rw [if_pos (by rw [h]), if_pos h]; rfl
    · rw [if_neg (fun z => h (ofs_inj z)), if_neg h, putf_ok fs]; rfl
theorem getf_mem {f : String} {v : Val} : ∀ {fs : List (String × Val)}, getf fs f = some v → ∃ p ∈ fs, p.2 = v
  | [], h => by cases h
  | p :: r, h => by
    simp only [getf] at h
    split at h
    · cases h; exact ⟨p, List.mem_cons_self, rfl⟩
    · obtain ⟨q, a, b⟩ := getf_mem h
      exact ⟨q, List.mem_cons_of_mem _ a, b⟩
theorem putf_mem {f : String} {v : Val} {p : String × Val} : ∀ {fs : List (String × Val)}, p ∈ putf f v fs → p.2 = v ∨ p ∈ fs
  | [], h => by
    rw [putf, List.mem_singleton] at h
    cases h; exact .inl rfl
  | q :: r, h => by
    simp only [putf] at h
    split at h
    · rcases List.mem_cons.mp h with rfl | h
      · exact .inl rfl
      · exact .inr (List.mem_cons_of_mem _ h)
    · rcases List.mem_cons.mp h with rfl | h
      · exact .inr List.mem_cons_self
      · rcases putf_mem h with h | h
        · exact .inl h
        · exact .inr (List.mem_cons_of_mem _ h)
/-- the classes by their plain fields -/
abbrev CTab := List (String × List String)
def hasF (T : CTab) (c f : String) : Bool := T.any fun p => p.1 == c && p.2.contains f
def TabOk (g : Cfg) (K : PySem.W.Frag) (T : CTab) : Prop := ∀ p ∈ T, ClsOk g K p.1 p.2
theorem TabOk.get {K : PySem.W.Frag} {T : CTab} (h : TabOk g K T) {c f : String} (e : hasF T c f = true) : Cls K (g.cl c) ∧ NoAttr K (g.cl c) (Str.ofString f) := by
  obtain ⟨p, hp, e⟩ := List.any_eq_true.mp e
  rw [Bool.and_eq_true] at e
  have ec := beq_iff_eq.mp e.1
  subst ec
  exact ⟨(h p hp).cl, (h p hp).no f (List.contains_iff_mem.mp e.2)⟩
def dFld (T : CTab) (d : D) (f : String) : D := fun L M => (d L M).bind fun x M1 => match x with
  | .ref a => (match M1[a]? with
    | some (.ins c fs) => if hasF T c f = true then R.of (getf fs f) M1 else .no
    | _ => .no)
  | _ => .no
theorem se_fld {T : CTab} {o : Expr} {d : D} {f : String} {pos : Pos} (hT : TabOk g X.K T) (ho : SE g X o d) (hb : attributeBase o (Str.ofString f) X.env (eval o X.env) = eval o X.env := by rfl) : SE g X (.Attribute o (Str.ofString f) pos) (dFld T d f) :=
  pe_imp (pe_fld ho hb) fun σ H Q ⟨r, L, M, v, M', A, e, k⟩ => by
    obtain ⟨x, M1, e1, e⟩ := R.bind_eq e
    refine tD_go A e1 fun r1 H1 n1 A1 l1 => ?_
    split at e
    · split at e
      · rename_i c fs hm
        split at e
        · rename_i hf
          obtain ⟨hg, rfl⟩ := R.of_eq e
          obtain ⟨u, hu, x⟩ := A1.rel.obj _ _ hm
          cases x
          obtain ⟨c1, c2⟩ := hT.get hf
          refine ⟨_, _, _, _, _, rfl, hu, c1, c2, by rw [getf_ok, hg]; rfl, ?_⟩
          obtain ⟨p, hp, rfl⟩ := getf_mem hg
          exact k r1 H1 n1 A1.rel (A1.rel.wf _ _ hm p hp)
        · cases e
      · cases e
    · cases e
end Pa

/-! isinstance, own defs, classes. -/
namespace Pa
open PySem PySem.Spec
open PyProof.Rows L2
open SX (S)
variable {g : Cfg} {X : Cx}
/-! ### isinstance -/
def bts : List String := ["NoneType", "bool", "int", "str", "list", "tuple", "dict"]
def tyW (g : Cfg) (t : String) : Value := if bts.contains t = true then .type t else .ref (g.cl t)
def tyW' (g : Cfg) (t : String) : V := if bts.contains t = true then .ty t else .ref (g.cl t)
def tyOf (g : Cfg) (cs : List String) (M : Mem) : Val → Option String
  | .non => some "NoneType"
  | .bl _ => some "bool"
  | .int _ => some "int"
  | .str _ => some "str"
  | .con k => (g.con k).map fun p => if p.1 = true then "list" else "tuple"
  | .ref a => (match M[a]? with
    | some (.lst _) => some "list"
    | some (.fz (.lst _)) => some "list"
    | some (.tup _) => some "tuple"
    | some (.dk _) => some "dict"
    | some (.fz (.dk _)) => some "dict"
    | some (.dt _) => some "dict"
    | some (.ins c _) => if cs.contains c = true then some c else none
    | _ => none)
abbrev ITab := List (String × String × Bool)
def isiT (T : ITab) (s t : String) : Option Bool := (List.find? (fun p : String × String × Bool => p.1 == s && p.2.1 == t) T).map (·.2.2)
/-- what the written part says of each pair of types; of the own classes -/
structure IsiOk (g : Cfg) (K : PySem.W.Frag) (T : ITab) (cs : List String) : Prop where
  kit : ∀ s t b, isiT T s t = some b → PySem.W.kitOne K (tyW g s) (tyW g t) = some b
  own : ∀ c ∈ cs, bts.contains c = false ∧ Cls K (g.cl c) ∧ PySem.W.findIn K (.ref (g.cl c)) "__class__" = some (some (.builtin "object.__class__")) ∧ PySem.W.mroIn K (g.cl c) (.type "object") = some true
  gs : PySem.W.specialIn K (.builtin "object.__class__") "__get__" = some (some (.builtin "getset_descriptor.__get__"))
  tk : PySem.W.takesIn K (.builtin "object.__class__") = some true
def dIsi (g : Cfg) (T : ITab) (cs : List String) (d : D) (t : String) : D := fun L M => (d L M).bind fun x M1 => match tyOf g cs M1 x with
  | some s => (match isiT T s t with
    | some b => .ok (.bl b) M1
    | none => .no)
  | none => .no
def tsI (T : ITab) (s : String) : List String → Option Bool
  | [] => some false
  | t :: ts => match isiT T s t, tsI T s ts with
    | some b, some c => some (b || c)
    | _, _ => none
def dIsiT (g : Cfg) (T : ITab) (cs : List String) (d : D) (ts : List String) : D := fun L M => (d L M).bind fun x M1 => match tyOf g cs M1 x with
  | some s => (match tsI T s ts with
    | some b => .ok (.bl b) M1
    | none => .no)
  | none => .no
theorem con_kind {K : PySem.W.Frag} (hK : ConOk g K) {k : Nat} {b : Bool} {xs : List Val} (h : g.con k = some (b, xs)) : ∃ o, K.lookup (g.ca k) = some o ∧ o.cls = .type (if b = true then "list" else "tuple") := by
  obtain ⟨_, h2⟩ := hK k b xs h
  cases b with
  | true =>
    rcases h2 (fun i => i) (fun _ => none) with (z | ⟨o, z⟩) | ⟨o, its, n, a, b, _⟩
    · cases z
    · cases z
    · exact ⟨o, a, b⟩
  | false =>
    rcases h2 (fun i => i) (fun _ => none) with (z | ⟨o, z⟩) | ⟨o, its, n, a, b, _⟩
    · cases z
    · cases z
    · exact ⟨o, a, b⟩
theorem tyX_of {K : PySem.W.Frag} {T : ITab} {cs : List String} (hK : ConOk g K) (I : IsiOk g K T cs) {r : Nat → Addr} {M : Mem} {H : Hp} (R : Rel g r M H) {x : Val} {s : String} (h : tyOf g cs M x = some s) : TyX K H (mv g r x) (tyW g s) := by
  have bt : ∀ t : String, bts.contains t = true → tyW g t = .type t := fun t h => if_pos h
  cases x with
  | non => cases h; rw [bt _ (by decide)]; exact .base .non
  | bl b => cases h; rw [bt _ (by decide)]; exact .base (.bl b)
  | int b => cases h; rw [bt _ (by decide)]; exact .base (.int b)
  | str b => cases h; rw [bt _ (by decide)]; exact .base (.str _)
  | con k =>
    simp only [tyOf] at h
    obtain ⟨⟨b, xs⟩, h1, h2⟩ := Option.map_eq_some_iff.mp h
    obtain ⟨o, a, c⟩ := con_kind hK h1
    cases b with
    | true =>
      have e : s = "list" := h2.symm
      subst e
      rw [bt _ (by decide)]; exact .kList a c
    | false =>
      have e : s = "tuple" := h2.symm
      subst e
      rw [bt _ (by decide)]; exact .kTuple a c
  | ref a =>
    simp only [tyOf] at h
    split at h
    · rename_i xs hm; cases h; rw [bt _ (by decide)]; exact .base (.lst (lst_at R hm))
    · rename_i xs hm
      cases h
      obtain ⟨u, hu, x⟩ := R.obj a _ hm
      cases x with
      | fz x => cases x; rw [bt _ (by decide)]; exact .base (.frz hu)
    · rename_i xs hm; cases h; rw [bt _ (by decide)]; exact .base (.tup (tup_at R hm))
    · rename_i xs hm
      cases h
      obtain ⟨u, hu, x⟩ := R.obj a _ hm
      cases x
      rw [bt _ (by decide)]; exact .base (.dK hu)
    · rename_i xs hm
      cases h
      obtain ⟨u, hu, x⟩ := R.obj a _ hm
      cases x with
      | fz x => cases x; rw [bt _ (by decide)]; exact .fDict hu
    · rename_i xs hm
      cases h
      obtain ⟨u, hu, x⟩ := R.obj a _ hm
      cases x
      rw [bt _ (by decide)]; exact .base (.dT hu)
    · rename_i c fs hm
      split at h
      · rename_i hc
        cases h
        obtain ⟨u, hu, x⟩ := R.obj a _ hm
        cases x
        obtain ⟨n, a, b, c⟩ := I.own s (List.contains_iff_mem.mp hc)
        have : tyW g s = .ref (g.cl s) := if_neg (by rw [n]; decide)
        rw [this]
        exact .base (.ins hu a b I.gs I.tk c)
      · cases h
    · cases h
/-- the class, as an expression tells it -/
abbrev SC (g : Cfg) (X : Cx) (e : Expr) (t : String) : Prop := PE X e (tC (tyW' g t))
theorem sc_bt {x : Str} {t : String} {pos : Pos} (hm : X.mg x = none) (hv : bootBuiltins x = some (.type t)) (hb : bts.contains t = true := by decide) (hg : Gl X x := by rfl) (hn : x ≠ "__name__" := by decide) (hd : (x == ("__debug__" : Str)) = false := by decide) : SC g X (.Name x pos) t := by
  have : tyW' g t = .ty t := if_pos hb
  rw [SC, this]
  exact pe_bltn hg hm hv rfl hn hd
theorem sc_cl {x : Str} {t : String} {pos : Pos} (hm : X.mg x = some (.ref (g.cl t))) (hb : bts.contains t = false := by decide) (hg : Gl X x := by rfl) (hd : (x == ("__debug__" : Str)) = false := by decide) : SC g X (.Name x pos) t := by
  have : tyW' g t = .ref (g.cl t) := if_neg (by rw [hb]; decide)
  rw [SC, this]
  exact pe_glob hg hm rfl hd
theorem clsV {t : String} : ClsV (tyW' g t) (tyW g t) := by
  unfold tyW tyW'
  split
  · exact .ty _
  · exact .own _
section
variable {a e : Expr} {d : D} {p pos : Pos} {T : ITab} {cs : List String} {t : String}
theorem se_isi (G : Good g X) (I : IsiOk g X.K T cs) (hm : X.mg "isinstance" = none) (ha : SE g X a d) (ht : SC g X e t) (hg : Gl X "isinstance" := by rfl) (hp : Pl pos a [e] X := by exact ⟨rfl, rfl⟩) (hs : starEach [e] X.env = (false, eval e X.env) :: starEach [] X.env := by rfl) :
    SE g X (.Call (.Name "isinstance" p) [a, e] [] pos) (dIsi g T cs d t) :=
  pe_imp (pe_callB call_isi hg hm (by decide +kernel) (pa_cons ha (pa_cons ht pa_nil hs) hp.1) (by decide) (by decide) hp.1 hp.2) fun σ H Q ⟨r, L, M, v, M', A, e, k⟩ => by
    obtain ⟨x, M1, e1, e⟩ := R.bind_eq e
    show tD g d σ H (fun x H1 => tC (tyW' g t) σ H1 (fun y H2 => rIsi X.K [x, y] H2 Q))
    refine tD_go A e1 fun r1 H1 n1 A1 l1 => ?_
    split at e
    · rename_i s hs
      split at e
      · rename_i b hb
        cases e
        exact ⟨_, _, _, _, b, rfl, clsV, tyX_of G.con I A1.rel hs, I.kit _ _ _ hb, k r1 H1 n1 A1.rel trivial⟩
      · cases e
    · cases e
/-- a tuple of classes -/
inductive SCs (g : Cfg) (X : Cx) : List Expr → List String → Prop
  | nil : SCs g X [] []
  | cons {e : Expr} {es : List Expr} {t : String} {ts : List String} : SC g X e t → SCs g X es ts → starEach (e :: es) X.env = (false, eval e X.env) :: starEach es X.env → SCs g X (e :: es) (t :: ts)
def tCs (g : Cfg) (ts : List String) : TA := fun _ H Q => Q (ts.map (tyW' g)) H
theorem pa_cs {es : List Expr} {ts : List String} (h : SCs g X es ts) : PA X es (tCs g ts) := by
  induction h with
  | nil => exact pa_nil
  | cons h1 _ h3 ih => exact pa_imp (pa_cons h1 ih h3) fun σ H Q q => q
theorem kit_any {K : PySem.W.Frag} (I : IsiOk g K T cs) {s : String} : ∀ {ts : List String} {b : Bool}, tsI T s ts = some b → PySem.W.kitAny K (tyW g s) (ts.map (tyW g)) = some b
  | [], b, h => by cases h; exact kitAny_nil
  | t :: ts, b, h => by
    simp only [tsI] at h
    split at h
    · rename_i x y h1 h2
      cases h
      refine kitAny_cons (I.kit _ _ _ h1) (fun z => ?_) fun z => ?_
      · rw [z, Bool.false_or]; exact kit_any I h2
      · rw [z, Bool.true_or]
    · cases h
theorem paired_cls : ∀ ts : List String, Paired ClsV (ts.map (tyW' g)) (ts.map (tyW g))
  | [] => .nil
  | _ :: ts => .cons clsV (paired_cls ts)
theorem scs_len {es : List Expr} {ts : List String} (ht : SCs g X es ts) : ts.length = es.length := by
  induction ht with
  | nil => rfl
  | cons _ _ _ ih => rw [List.length_cons, List.length_cons, ih]
theorem se_isiT {es : List Expr} {ts : List String} {kk : Nat} {p2 : Pos} (G : Good g X) (I : IsiOk g X.K T cs) (hm : X.mg "isinstance" = none) (ha : SE g X a d) (ht : SCs g X es ts) (hg : Gl X "isinstance" := by rfl) (hp : Pl pos a [.Tuple es kk p2] X := by exact ⟨rfl, rfl⟩)
    (hs : starEach [.Tuple es kk p2] X.env = (false, eval (.Tuple es kk p2) X.env) :: starEach [] X.env := by rfl) (hl : es.length ≤ 1000 := by decide) :
    SE g X (.Call (.Name "isinstance" p) [a, .Tuple es kk p2] [] pos) (dIsiT g T cs d ts) :=
  pe_imp (pe_callB call_isiT hg hm (by decide +kernel) (pa_cons ha (pa_cons (pe_tup (pa_cs ht)) pa_nil hs) hp.1) (by decide) (by decide) hp.1 hp.2) fun σ H Q ⟨r, L, M, v, M', A, e, k⟩ => by
    obtain ⟨x, M1, e1, e⟩ := R.bind_eq e
    have hlen : ts.length = es.length := scs_len ht
    show tD g d σ H (fun x H1 => tTup (tCs g ts) σ H1 (fun y H2 => rIsiT X.K [x, y] H2 Q))
    refine tD_go A e1 fun r1 H1 n1 A1 l1 => ?_
    split at e
    · rename_i s hs
      split at e
      · rename_i b hb
        cases e
        refine ⟨by rw [List.length_map, hlen]; exact line6 (by omega), fun q hq => ?_⟩
        have R2 : Rel g r1 M' (upd H1 q (.tup (ts.map (tyW' g)))) := A1.rel.side hq
        exact ⟨_, q, _, _, _, b, rfl, upd_same, paired_cls ts, tyX_of G.con I R2 hs, kit_any I hb, k r1 _ (n1.trans (nxt_side hq)) R2 trivial⟩
      · cases e
    · cases e
end
/-! ### calls of own defs -/
abbrev Fn := List Val → Mem → R Val
/-- a def's promise by its denotation -/
def spI (g : Cfg) (F : Fn) (n : Nat) : Sp := fun vs H Q _ => ∃ r args M v M', vs = args.map (mv g r) ∧ args.length = n ∧ Lts M.length args ∧ Rel g r M H ∧ F args M = .ok v M' ∧ Kont g r M H v M' Q
theorem spI_len {F : Fn} {n : Nat} {vs : List V} {H : Hp} {Q : VK} {E : XK} (h : spI g F n vs H Q E) : vs.length = n := by
  obtain ⟨r, args, M, v, M', rfl, h, _⟩ := h
  rw [List.length_map]; exact h
def dCall (F : Fn) (ds : DA) : D := fun L M => (ds L M).bind fun vs M1 => F vs M1
section
variable {x : Str} {p pos : Pos} {e : Expr} {es : List Expr} {ds : DA} {k : Nat} {f : Addr} {fd : FuncData} {ps : List Str} {F : Fn}
/-- what a caller must know of a def -/
structure Callee (g : Cfg) (X : Cx) (k : Nat) (f : Addr) (F : Fn) (n : Nat) (dfl : List Val) : Prop where
  ex : ∃ (fd : FuncData) (ps : List Str) (ds : List Value), FnOk X.prog X.w X.K X.mg X.base CX0 k f fd ps (spI g F n) ∧ Binds X.K fd ps ds ∧ (∀ r, Vals (dfl.map (mv g r)) ds) ∧ ∀ n, Lts n dfl
  kp : PySem.W.keepIn X.K (.ref f) = true
theorem sp_of {F : Fn} {n : Nat} {dfl : List Val} {r : Nat → Addr} {M M' : Mem} {H : Hp} {vs : List Val} {v : Val} {Q : VK} {E : XK} (R : Rel g r M H) (l : Lts M.length vs) (ld : Lts M.length dfl) (e : F (vs ++ dfl) M = .ok v M') (hn : (vs ++ dfl).length = n) (k : Kont g r M H v M' Q) :
    spI g F n (vs.map (mv g r) ++ dfl.map (mv g r)) H Q E := ⟨r, vs ++ dfl, M, v, M', by rw [List.map_append], hn, l.app ld, R, e, k⟩
def dArg (n : Nat) (dfl : List Val) (F : Fn) (ds : DA) : D := fun L M => (ds L M).bind fun vs M1 => if (vs ++ dfl).length = n then F (vs ++ dfl) M1 else .no
theorem se_call {n : Nat} {dfl : List Val} (C : Callee g X k f F n dfl) (hr : Room k X.A) (hm : X.mg x = some (.ref f)) (ha : SA g X (e :: es) ds) (hg : Gl X x := by rfl) (hdb : (x == ("__debug__" : Str)) = false := by decide) (hp : Pl pos e es X := by exact ⟨rfl, rfl⟩) :
    SE g X (.Call (.Name x p) (e :: es) [] pos) (dArg n dfl F ds) := by
  obtain ⟨fd, ps, dv, hF, hb, hd, ld⟩ := C.ex
  refine pe_imp (pe_call hF hr hg hm C.kp hb (hd (fun i => i)) pass0 ha hdb hp.1 hp.2) fun σ H Q ⟨r, L, M, v, M', A, e, q⟩ => ?_
  obtain ⟨vs, M1, e1, e⟩ := R.bind_eq e
  split at e
  · rename_i hn
    refine tDA_go A e1 fun r1 H1 n1 A1 l1 => ?_
    have ed : dfl.map (mv g r1) = dfl.map (mv g fun i => i) := mvs_eq (n := 0) (fun i h => absurd h (Nat.not_lt_zero i)) (ld 0)
    have z := sp_of (E := E0) A1.rel l1 (ld _) e hn fun r2 H2 n2 R2 l2 => q r2 H2 (n1.trans n2) R2 l2
    rw [ed] at z
    exact z
  · cases e
theorem se_call0 {n : Nat} {dfl : List Val} (C : Callee g X k f F n dfl) (hr : Room k X.A) (hm : X.mg x = some (.ref f)) (hg : Gl X x := by rfl) (hdb : (x == ("__debug__" : Str)) = false := by decide) :
    SE g X (.Call (.Name x p) [] [] pos) (dArg n dfl F aNil) := by
  obtain ⟨fd, ps, dv, hF, hb, hd, ld⟩ := C.ex
  refine pe_imp (pe_call0 hF hr hg hm C.kp hb (hd (fun i => i)) pass0 hdb) fun σ H Q ⟨r, L, M, v, M', A, e, q⟩ => ?_
  obtain ⟨vs, M1, e1, e⟩ := R.bind_eq e
  cases e1
  split at e
  · rename_i hn
    have ed : dfl.map (mv g r) = dfl.map (mv g fun i => i) := mvs_eq (n := 0) (fun i h => absurd h (Nat.not_lt_zero i)) (ld 0)
    have z := sp_of (E := E0) A.rel Lts.nil (ld _) e hn q
    rw [ed] at z
    exact z
  · cases e
/-! ### C(..) -/
/-- a class that is made; F: its __init__ -/
structure Maker (g : Cfg) (X : Cx) (k : Nat) (c : String) (F : Fn) (n : Nat) (dfl : List Val) : Prop where
  ex : ∃ (f : Addr) (fd : FuncData) (ps : List Str) (ds : List Value), Mk X.K (g.cl c) f ∧ FnOk X.prog X.w X.K X.mg X.base CX0 k f fd ps (spI g F n) ∧ Binds X.K fd ps ds ∧ (∀ r, Vals (dfl.map (mv g r)) ds) ∧ ∀ n, Lts n dfl
def dNew (n : Nat) (dfl : List Val) (c : String) (F : Fn) (ds : DA) : D := fun L M => (ds L M).bind fun vs M1 => if (vs ++ dfl).length + 1 = n then
  (F (.ref M1.length :: (vs ++ dfl)) (M1 ++ [.ins c []])).bind fun w M2 => match w with
  | .non => .ok (.ref M1.length) M2
  | _ => .no else .no
theorem new_go {n : Nat} {dfl : List Val} {c : String} {r1 : Nat → Addr} {M1 M' : Mem} {H1 : Hp} {vs : List Val} {v : Val} {Q : VK} {E : XK} (ld : ∀ n, Lts n dfl) (R1 : Rel g r1 M1 H1) (l1 : Lts M1.length vs) (hn : (vs ++ dfl).length + 1 = n)
    (e : ((F (.ref M1.length :: (vs ++ dfl)) (M1 ++ [.ins c []])).bind fun w M2 => match w with
      | .non => R.ok (Val.ref M1.length) M2
      | _ => .no) = .ok v M') (q : Kont g r1 M1 H1 v M' Q) : ∀ x dx, H1 x = none → H1 dx = none → dx ≠ x →
      spI g F n (.ref x :: (vs.map (mv g r1) ++ dfl.map (mv g fun i => i))) (upd (upd H1 dx (.own x)) x (.ins (g.cl c) dx [])) (fun v H2 => v = .non ∧ Q (.ref x) H2) E := by
  intro x dx hx hdx hne
  obtain ⟨w, M2, e2, e⟩ := R.bind_eq e
  have hx2 : upd H1 dx (.own x) x = none := by rw [upd_ne (Ne.symm hne)]; exact hx
  have R2 : Rel g (ext r1 M1.length x) (M1 ++ [.ins c []]) (upd (upd H1 dx (.own x)) x (.ins (g.cl c) dx [])) :=
    (R1.side hdx).alloc (o := .ins c []) hx2 .ins fun _ h => by cases h
  have nx : Nxt r1 M1 H1 (ext r1 M1.length x) (M1 ++ [.ins c []]) (upd (upd H1 dx (.own x)) x (.ins (g.cl c) dx [])) := (nxt_side hdx).trans (nxt_ext hx2)
  have lx : (Val.ref M1.length).lt (M1 ++ [Ob.ins c []]).length := by show M1.length < _; simp
  refine ⟨ext r1 M1.length x, .ref M1.length :: (vs ++ dfl), M1 ++ [.ins c []], w, M2, ?_, by rw [List.length_cons]; exact hn, Lts.cons lx ((l1.mono nx.le).app (ld _)), R2, e2, fun r3 H3 n3 R3 l3 => ?_⟩
  · rw [List.map_cons, List.map_append, nx.mvs l1, mvs_eq (g := g) (r := fun i => i) (r' := ext r1 M1.length x) (n := 0) (fun i h => absurd h (Nat.not_lt_zero i)) (ld 0)]
    show V.ref x :: _ = V.ref (ext r1 M1.length x M1.length) :: _
    rw [ext_at]
  · split at e
    · cases e
      refine ⟨rfl, ?_⟩
      have z := q r3 H3 (nx.trans n3) R3 (lx.mono n3.le)
      have e3 : mv g r3 (.ref M1.length) = V.ref x := by
        rw [n3.mv lx]
        exact congrArg V.ref ext_at
      rwa [e3] at z
    · cases e
theorem se_new {n : Nat} {dfl : List Val} {c : String} (C : Maker g X k c F n dfl) (hr : Room (k + 1) X.A) (hm : X.mg x = some (.ref (g.cl c))) (ha : SA g X (e :: es) ds) (hg : Gl X x := by rfl) (hdb : (x == ("__debug__" : Str)) = false := by decide) (hp : Pl pos e es X := by exact ⟨rfl, rfl⟩) :
    SE g X (.Call (.Name x p) (e :: es) [] pos) (dNew n dfl c F ds) := by
  obtain ⟨f, fd, ps, dv, hM, hF, hb, hd, ld⟩ := C.ex
  refine pe_imp (pe_make hM hF hr hg hm hb (hd (fun i => i)) pass0 ha hdb hp.1 hp.2) fun σ H Q ⟨r, L, M, v, M', A, e, q⟩ => ?_
  obtain ⟨vs, M1, e1, e⟩ := R.bind_eq e
  split at e
  · rename_i hn
    exact tDA_go A e1 fun r1 H1 n1 A1 l1 => new_go ld A1.rel l1 hn e fun r2 H2 n2 R2 l2 => q r2 H2 (n1.trans n2) R2 l2
  · cases e
theorem se_new0 {n : Nat} {dfl : List Val} {c : String} (C : Maker g X k c F n dfl) (hr : Room (k + 1) X.A) (hm : X.mg x = some (.ref (g.cl c))) (hg : Gl X x := by rfl) (hdb : (x == ("__debug__" : Str)) = false := by decide) :
    SE g X (.Call (.Name x p) [] [] pos) (dNew n dfl c F aNil) := by
  obtain ⟨f, fd, ps, dv, hM, hF, hb, hd, ld⟩ := C.ex
  refine pe_imp (pe_make0 hM hF hr hg hm hb (hd (fun i => i)) pass0 hdb) fun σ H Q ⟨r, L, M, v, M', A, e, q⟩ => ?_
  obtain ⟨vs, M1, e1, e⟩ := R.bind_eq e
  cases e1
  split at e
  · rename_i hn
    exact new_go (vs := []) ld A.rel Lts.nil hn e q
  · cases e
end
/-! ### o.m(..), by the class of o -/
/-- the methods by their names: class, how many parameters, what it does -/
abbrev MTab := List (String × Fn)
structure MethOk (g : Cfg) (X : Cx) (k n : Nat) (c m : String) (F : Fn) : Prop where
  ex : ∃ (f : Addr) (fd : FuncData) (ps : List Str), Cls X.K (g.cl c) ∧ Meth X.K (g.cl c) (Str.ofString m) f ∧ FnOk X.prog X.w X.K X.mg X.base CX0 k f fd ps (spI g F n) ∧ Binds X.K fd ps []
def mfind (T : MTab) (c : String) : Option Fn := (T.find? fun p => p.1 == c).map (·.2)
theorem mfind_ok {T : MTab} {c : String} {F : Fn} {P : String → Fn → Prop} (hT : ∀ p ∈ T, P p.1 p.2) (h : mfind T c = some F) : P c F := by
  obtain ⟨p, hp, e⟩ := Option.map_eq_some_iff.mp h
  have h1 := hT p (List.mem_of_find?_eq_some hp)
  have h2 := List.find?_some hp
  rw [beq_iff_eq.mp h2, e] at h1
  exact h1
def dMeth (T : MTab) (m : String) (n : Nat) (d : D) (ds : DA) : D := fun L M => (d L M).bind fun x M1 => match x with
  | .ref a => (match M1[a]? with
    | some (.ins c fs) => (match mfind T c, getf fs m with
      | some F, none => (ds L M1).bind fun vs M2 => if vs.length + 1 = n then F (.ref a :: vs) M2 else .no
      | _, _ => .no)
    | _ => .no)
  | _ => .no
section
variable {o e : Expr} {es : List Expr} {d : D} {ds : DA} {k n : Nat} {m : String} {apos pos : Pos} {T : MTab}
theorem se_meth {pl : Sem Bool} (hT : ∀ p ∈ T, MethOk g X k n p.1 m p.2) (hr : Room k X.A) (ho : SE g X o d) (ha : SA g X (e :: es) ds) (hp : Pl pos e es X := by exact ⟨rfl, rfl⟩)
    (ht : eval (.Call (.Attribute o (Str.ofString m) apos) (e :: es) [] pos) X.env = (do
      let ov ← eval o X.env
      standAt apos.atName
      let (f, first) ← holding [ov] (getMethod ov (Str.ofString m) pl)
      callWith pos f first (backTo pos (starEach (e :: es) X.env)) (backToKw pos (keywordEach [] X.env))) := by rfl) :
    SE g X (.Call (.Attribute o (Str.ofString m) apos) (e :: es) [] pos) (dMeth T m n d ds) := by
  refine ⟨fun pins s σ H Q I ⟨r, L, M, v, M', A, e0, q⟩ => ?_⟩
  obtain ⟨x, M1, e1, e0⟩ := R.bind_eq e0
  refine PySem.W.methodCall_KW (pl := pl) (thn (ho.run pins s σ H _ I (tD_go A e1 (Q := fun x' H1 => ∃ r1, Nxt r M H r1 M1 H1 ∧ At g r1 L M1 σ H1 ∧ x' = mv g r1 x ∧ x.lt M1.length) fun r1 H1 n1 A1 l1 => ⟨r1, n1, A1, rfl, l1⟩)) fun u s1 ⟨x', H1, I1, rx, r1, n1, A1, ex, l1⟩ => ?_) ht
  cases x with
  | ref a =>
    simp only at e0
    split at e0
    · rename_i c fs hm
      split at e0
      · rename_i F h1 h2
        obtain ⟨vs, M2, e2, e0⟩ := R.bind_eq e0
        split at e0
        · rename_i hn
          obtain ⟨f, fd, ps, hc, hM, hF, hb⟩ := (mfind_ok (P := fun c F => MethOk g X k n c m F) hT h1).ex
          obtain ⟨w, hw, ho'⟩ := A1.rel.obj a _ hm
          cases ho'
          subst ex
          obtain rfl : u = Value.ref (r1 a) := rx
          refine getmeth_ok I1 hw hc hM (by rw [getf_ok, h2]; rfl) ?_
          refine PySem.W.callWith_K (first := [.ref (r1 a)]) (h₀ := X.base) I.ok.mod.kin hM.kp (thn (ha.run pos pins s1 σ H1 _ I1 (tDA_go A1 e2 (Q := fun ws H2 => ∃ r2, Nxt r1 M1 H1 r2 M2 H2 ∧ At g r2 L M2 σ H2 ∧ ws = vs.map (mv g r2) ∧ Lts M2.length vs) fun r2 H2 n2 A2 l2 => ⟨r2, n2, A2, rfl, l2⟩))
            fun us s2 ⟨ws, H2, I2, rr, r2, n2, A2, ew, l2⟩ => ⟨I2.kIn, ?_⟩) hp.1 hp.2
          refine run_fn (us := .ref (r1 a) :: us) (vs := .ref (r1 a) :: ws) hF hr hb .nil pass0 I2 (.cons rfl rr) ?_
          rw [List.append_nil, ew]
          refine ⟨r2, .ref a :: vs, M2, v, M', ?_, by rw [List.length_cons]; exact hn, Lts.cons (l1.mono n2.le) l2, A2.rel, e0, fun r3 H3 n3 R3 l3 => q r3 H3 ((n1.trans n2).trans n3) R3 l3⟩
          rw [List.map_cons]
          show V.ref (r1 a) :: _ = V.ref (r2 a) :: _
          rw [n2.eq a l1]
        · cases e0
      · cases e0
    · cases e0
  | _ => cases e0
theorem se_meth0 {pl : Sem Bool} (hT : ∀ p ∈ T, MethOk g X k n p.1 m p.2) (hr : Room k X.A) (ho : SE g X o d)
    (ht : eval (.Call (.Attribute o (Str.ofString m) apos) [] [] pos) X.env = (do
      let ov ← eval o X.env
      standAt apos.atName
      let (f, first) ← holding [ov] (getMethod ov (Str.ofString m) pl)
      callWith pos f first (backTo pos (starEach [] X.env)) (backToKw pos (keywordEach [] X.env))) := by rfl) :
    SE g X (.Call (.Attribute o (Str.ofString m) apos) [] [] pos) (dMeth T m n d aNil) := by
  refine ⟨fun pins s σ H Q I ⟨r, L, M, v, M', A, e0, q⟩ => ?_⟩
  obtain ⟨x, M1, e1, e0⟩ := R.bind_eq e0
  refine PySem.W.methodCall_KW (pl := pl) (thn (ho.run pins s σ H _ I (tD_go A e1 (Q := fun x' H1 => ∃ r1, Nxt r M H r1 M1 H1 ∧ At g r1 L M1 σ H1 ∧ x' = mv g r1 x ∧ x.lt M1.length) fun r1 H1 n1 A1 l1 => ⟨r1, n1, A1, rfl, l1⟩)) fun u s1 ⟨x', H1, I1, rx, r1, n1, A1, ex, l1⟩ => ?_) ht
  cases x with
  | ref a =>
    simp only at e0
    split at e0
    · rename_i c fs hm
      split at e0
      · rename_i F h1 h2
        obtain ⟨vs, M2, e2, e0⟩ := R.bind_eq e0
        cases e2
        split at e0
        · rename_i hn
          obtain ⟨f, fd, ps, hc, hM, hF, hb⟩ := (mfind_ok (P := fun c F => MethOk g X k n c m F) hT h1).ex
          obtain ⟨w, hw, ho'⟩ := A1.rel.obj a _ hm
          cases ho'
          subst ex
          obtain rfl : u = Value.ref (r1 a) := rx
          refine getmeth_ok I1 hw hc hM (by rw [getf_ok, h2]; rfl) ?_
          refine PySem.W.callWith_K0 (first := [.ref (r1 a)]) I1.kIn hM.kp (run_fn (us := [.ref (r1 a)]) (vs := [.ref (r1 a)]) hF hr hb .nil pass0 I1 (.cons rfl .nil) ?_)
          exact ⟨r1, [.ref a], M1, v, M', rfl, hn, Lts.cons l1 Lts.nil, A1.rel, e0, fun r3 H3 n3 R3 l3 => q r3 H3 (n1.trans n3) R3 l3⟩
        · cases e0
      · cases e0
    · cases e0
  | _ => cases e0
end
/-! ### C.m(self, ..): a def read off a class -/
structure CFun (K : PySem.W.Frag) (C : Addr) (m : Str) (f : Addr) : Prop where
  at_ : PySem.W.findCls K (.ref C) (.type "type") m = some (.val (.ref f))
  rd : PySem.W.readsIn K C (.type "type") = true
  ga : PySem.W.specialIn K (.ref C) "__getattribute__" = some (some (.builtin "type.__getattribute__"))
theorem se_cfn {x : Str} {p apos pos : Pos} {e : Expr} {es : List Expr} {ds : DA} {k n : Nat} {f : Addr} {F : Fn} {m : Str} {c : String} {pl : Sem Bool} (C : Callee g X k f F n []) (hr : Room k X.A) (hm : X.mg x = some (.ref (g.cl c))) (hC : CFun X.K (g.cl c) m f) (ha : SA g X (e :: es) ds)
    (hg : Gl X x := by rfl) (hdb : (x == ("__debug__" : Str)) = false := by decide) (hp : Pl pos e es X := by exact ⟨rfl, rfl⟩)
    (ht : eval (.Call (.Attribute (.Name x p) m apos) (e :: es) [] pos) X.env = (do
      let ov ← eval (.Name x p) X.env
      standAt apos.atName
      let (f, first) ← holding [ov] (getMethod ov m pl)
      callWith pos f first (backTo pos (starEach (e :: es) X.env)) (backToKw pos (keywordEach [] X.env))) := by rfl) :
    SE g X (.Call (.Attribute (.Name x p) m apos) (e :: es) [] pos) (dArg n [] F ds) := by
  obtain ⟨fd, ps, dv, hF, hb, hd, ld⟩ := C.ex
  have h0 : Vals [] dv := by simpa using hd (fun i => i)
  cases h0
  refine ⟨fun pins s σ H Q I ⟨r, L, M, v, M', A, e0, q⟩ => ?_⟩
  obtain ⟨vs, M1, e1, e0⟩ := R.bind_eq e0
  split at e0
  · rename_i hn
    rw [List.append_nil] at hn e0
    refine PySem.W.methodCall_KW (pl := pl) (ld_glob I hg hm ?_ hdb) ht
    refine PySem.W.method_cls I.kIn hC.ga ?_
    refine PySem.W.cls_value I.kIn hC.rd hC.at_ rfl ?_
    have I1 : Inv X pins σ H { s with toks := s.toks + 1 } := I.tok _
    refine PySem.W.callWith_K (first := []) (h₀ := X.base) I.ok.mod.kin C.kp (thn (ha.run pos pins _ σ H _ I1 (tDA_go A e1 (Q := fun ws H2 => ∃ r2, Nxt r M H r2 M1 H2 ∧ At g r2 L M1 σ H2 ∧ ws = vs.map (mv g r2) ∧ Lts M1.length vs) fun r2 H2 n2 A2 l2 => ⟨r2, n2, A2, rfl, l2⟩))
      fun us s2 ⟨ws, H2, I2, rr, r2, n2, A2, ew, l2⟩ => ⟨I2.kIn, ?_⟩) hp.1 hp.2
    refine run_fn (us := us) (vs := ws) hF hr hb .nil pass0 I2 rr ?_
    rw [List.append_nil, ew]
    exact ⟨r2, vs, M1, v, M', rfl, hn, l2, A2.rel, e0, fun r3 H3 n3 R3 l3 => q r3 H3 (n2.trans n3) R3 l3⟩
  · cases e0
end Pa

/-! What is walked; statements; comprehensions. -/
namespace Pa
open PySem PySem.Spec
open PyProof.Rows L2
open SX (S)
variable {g : Cfg} {X : Cx}
/-! ### what is walked -/
inductive Itb where
  | lst (v : Val) (n : Nat) | tup (v : Val) (n : Nat) | rng (lo c : Int) (n : Nat) | str (s : List Nat) | zip (v w : Val) (n : Nat) | fix (vs : List Val) | prs (ks vs : List Val)
def Itb.num : Itb → Nat
  | .lst _ n => n
  | .tup _ n => n
  | .rng _ _ n => n
  | .str s => s.length
  | .zip _ _ n => n
  | .fix vs => vs.length
  | .prs ks _ => ks.length
def yld (g : Cfg) : Itb → Nat → Mem → R Val
  | .lst v _, i, M => (match lstOf g M v with
    | some xs => R.of xs[i]? M
    | none => .no)
  | .tup v _, i, M => (match tupOf g M v with
    | some xs => R.of xs[i]? M
    | none => .no)
  | .rng lo c _, i, M => .ok (.int (lo + (i : Int) * c)) M
  | .str s, i, M => (match s[i]? with
    | some c => .ok (.str [c]) M
    | none => .no)
  | .zip v w _, i, M => (match lstOf g M v, lstOf g M w with
    | some xs, some ys => (match xs[i]?, ys[i]? with
      | some x, some y => .ok (.ref M.length) (M ++ [.tup [x, y]])
      | _, _ => .no)
    | _, _ => .no)
  | .fix vs, i, M => R.of vs[i]? M
  | .prs ks vs, i, M => (match ks[i]?, vs[i]? with
    | some x, some y => .ok (.ref M.length) (M ++ [.tup [x, y]])
    | _, _ => .no)
def fin (g : Cfg) : Itb → Nat → Mem → Bool
  | .lst v _, i, M => (match lstOf g M v with
    | some xs => decide (xs.length ≤ i)
    | none => false)
  | .tup v _, i, M => (match tupOf g M v with
    | some xs => decide (xs.length ≤ i)
    | none => false)
  | .rng _ _ n, i, _ => decide (n ≤ i)
  | .str s, i, _ => decide (s.length ≤ i)
  | .zip v w _, i, M => (match lstOf g M v, lstOf g M w with
    | some xs, some ys => decide (xs.length ≤ i ∨ ys.length ≤ i)
    | _, _ => false)
  | .fix vs, i, _ => decide (vs.length ≤ i)
  | .prs ks vs, i, _ => decide (ks.length ≤ i) && decide (ks.length = vs.length)
structure ItOk (g : Cfg) (K : PySem.W.Frag) (r0 : Nat → Addr) (M0 : Mem) (H0 : Hp) (J : It) (b : Itb) : Prop where
  stop : ∀ r M H i, Nxt r0 M0 H0 r M H → Rel g r M H → fin g b i M = true → J.stop i H
  go : ∀ r M H i v M1, Nxt r0 M0 H0 r M H → Rel g r M H → i < b.num → yld g b i M = .ok v M1 → J.go i H ∧ ∀ x H', J.yld i H x H' → ∃ r1, Nxt r M H r1 M1 H' ∧ Rel g r1 M1 H' ∧ x = mv g r1 v ∧ v.lt M1.length
abbrev DI := Loc → Mem → R Itb
def tI (g : Cfg) (K : PySem.W.Frag) (d : DI) : TI := fun σ H R => ∃ r L M b M', At g r L M σ H ∧ d L M = .ok b M' ∧ ∀ r' H' J, Nxt r M H r' M' H' → Rel g r' M' H' → ItOk g K r' M' H' J b → R J H'
abbrev SI (g : Cfg) (X : Cx) (tg e : Expr) (d : DI) : Prop := PI X tg e (tI g X.K d)
theorem pi_imp {tg e : Expr} {t t' : TI} (h : PI X tg e t) (k : ∀ σ H R, t' σ H R → t σ H R) : PI X tg e t' := ⟨fun pins s σ H R I q => h.run pins s σ H R I (k σ H R q)⟩
theorem PI.or {tg e : Expr} {t t' : TI} (h : PI X tg e t) (h' : PI X tg e t') : PI X tg e (fun σ H R => t σ H R ∨ t' σ H R) := ⟨fun pins s σ H R I q => q.elim (h.run pins s σ H R I) (h'.run pins s σ H R I)⟩
theorem it_lst {K : PySem.W.Frag} (hK : ConOk g K) {r0 : Nat → Addr} {M0 : Mem} {H0 : Hp} {v : Val} {p : Addr} {n : Nat} (hp : mv g r0 v = .ref p) (l : v.lt M0.length) : ItOk g K r0 M0 H0 (Itl K p) (.lst v n) := by
  have same : ∀ {r M H xs}, Nxt r0 M0 H0 r M H → Rel g r M H → lstOf g M v = some xs → SqL K H p (xs.map (mv g r)) ∧ Lts M.length xs := fun {r M H xs} n R e => by
    obtain ⟨q, e1, e2, e3⟩ := lstOf_ok (K := K) hK R e
    rw [n.mv l, hp] at e1
    cases e1
    exact ⟨e2, e3⟩
  refine ⟨fun r M H i n R e => ?_, fun r M H i w M1 n R hi e => ?_⟩
  · simp only [fin] at e
    split at e
    · rename_i xs hx
      exact ⟨_, (same n R hx).1, by rw [List.length_map]; exact of_decide_eq_true e⟩
    · cases e
  · simp only [yld] at e
    split at e
    · rename_i xs hx
      obtain ⟨h1, h2⟩ := same n R hx
      obtain ⟨e1, rfl⟩ := Pa.R.of_eq e
      have hg : (xs.map (mv g r))[i]? = some (mv g r w) := by rw [List.getElem?_map, e1]; rfl
      refine ⟨⟨_, _, h1, hg⟩, fun x H' ⟨eh, hy⟩ => ?_⟩
      subst eh
      exact ⟨r, Nxt.refl, R, Option.some.inj ((hy _ h1).symm.trans hg), h2.get e1⟩
    · cases e
theorem it_tup {K : PySem.W.Frag} (hK : ConOk g K) {r0 : Nat → Addr} {M0 : Mem} {H0 : Hp} {v : Val} {p : Addr} {n : Nat} (hp : mv g r0 v = .ref p) (l : v.lt M0.length) : ItOk g K r0 M0 H0 (Itt K p) (.tup v n) := by
  have same : ∀ {r M H xs}, Nxt r0 M0 H0 r M H → Rel g r M H → tupOf g M v = some xs → SqT K H p (xs.map (mv g r)) ∧ Lts M.length xs := fun {r M H xs} n R e => by
    obtain ⟨q, e1, e2, e3⟩ := tupOf_ok (K := K) hK R e
    rw [n.mv l, hp] at e1
    cases e1
    exact ⟨e2, e3⟩
  refine ⟨fun r M H i n R e => ?_, fun r M H i w M1 n R hi e => ?_⟩
  · simp only [fin] at e
    split at e
    · rename_i xs hx
      exact ⟨_, (same n R hx).1, by rw [List.length_map]; exact of_decide_eq_true e⟩
    · cases e
  · simp only [yld] at e
    split at e
    · rename_i xs hx
      obtain ⟨h1, h2⟩ := same n R hx
      obtain ⟨e1, rfl⟩ := Pa.R.of_eq e
      have hg : (xs.map (mv g r))[i]? = some (mv g r w) := by rw [List.getElem?_map, e1]; rfl
      refine ⟨⟨_, _, h1, hg⟩, fun x H' ⟨eh, hy⟩ => ?_⟩
      subst eh
      exact ⟨r, Nxt.refl, R, Option.some.inj ((hy _ h1).symm.trans hg), h2.get e1⟩
    · cases e
theorem it_str {K : PySem.W.Frag} {r0 : Nat → Addr} {M0 : Mem} {H0 : Hp} {s : List Nat} : ItOk g K r0 M0 H0 (Its (S s)) (.str s) := by
  refine ⟨fun r M H i n R e => ?_, fun r M H i w M1 n R hi e => ?_⟩
  · show (S s).cps.size ≤ i
    have := of_decide_eq_true e
    simpa using this
  · simp only [yld] at e
    split at e
    · rename_i c hc
      cases e
      have hc' : (S s).cps[i]? = some c := by simpa using hc
      refine ⟨by show i < (S s).cps.size; have hi : i < s.length := hi; simpa using hi, fun x H' ⟨eh, c', h1, h2⟩ => ?_⟩
      subst eh h2
      have : c' = c := Option.some.inj (h1.symm.trans hc')
      subst this
      exact ⟨r, Nxt.refl, R, rfl, trivial⟩
    · cases e
theorem it_rng {K : PySem.W.Frag} {r0 : Nat → Addr} {M0 : Mem} {H0 : Hp} {lo c : Int} {n : Nat} : ItOk g K r0 M0 H0 (Itc lo c n) (.rng lo c n) := by
  refine ⟨fun r M H i _ R e => of_decide_eq_true (p := n ≤ i) e, fun r M H i w M1 n R hi e => ?_⟩
  simp only [yld] at e
  cases e
  exact ⟨hi, fun x H' ⟨eh, ex⟩ => by subst eh ex; exact ⟨r, Nxt.refl, R, rfl, trivial⟩⟩
theorem it_rng1 {K : PySem.W.Frag} {r0 : Nat → Addr} {M0 : Mem} {H0 : Hp} {lo : Int} {n : Nat} : ItOk g K r0 M0 H0 (Itr lo n) (.rng lo 1 n) := by
  refine ⟨fun r M H i _ R e => of_decide_eq_true (p := n ≤ i) e, fun r M H i w M1 n R hi e => ?_⟩
  simp only [yld] at e
  cases e
  exact ⟨hi, fun x H' ⟨eh, ex⟩ => by
    subst eh ex
    exact ⟨r, Nxt.refl, R, by show V.int _ = V.int _; rw [Int.mul_one], trivial⟩⟩
theorem it_zip {K : PySem.W.Frag} (hK : ConOk g K) {r0 : Nat → Addr} {M0 : Mem} {H0 : Hp} {v w : Val} {p q : Addr} {n : Nat} (hp : mv g r0 v = .ref p) (hq : mv g r0 w = .ref q) (lv : v.lt M0.length) (lw : w.lt M0.length) : ItOk g K r0 M0 H0 (Itz K p q) (.zip v w n) := by
  have same : ∀ {r M H xs v p}, mv g r0 v = .ref p → v.lt M0.length → Nxt r0 M0 H0 r M H → Rel g r M H → lstOf g M v = some xs → SqL K H p (xs.map (mv g r)) ∧ Lts M.length xs := fun {r M H xs v p} hp l n R e => by
    obtain ⟨q, e1, e2, e3⟩ := lstOf_ok (K := K) hK R e
    rw [n.mv l, hp] at e1
    cases e1
    exact ⟨e2, e3⟩
  refine ⟨fun r M H i n R e => ?_, fun r M H i z M1 n R hi e => ?_⟩
  · simp only [fin] at e
    split at e
    · rename_i xs ys hx hy
      exact ⟨_, _, (same hp lv n R hx).1, (same hq lw n R hy).1, by rw [List.length_map, List.length_map]; exact of_decide_eq_true e⟩
    · cases e
  · simp only [yld] at e
    split at e
    · rename_i xs ys hx hy
      obtain ⟨h1, h2⟩ := same hp lv n R hx
      obtain ⟨h3, h4⟩ := same hq lw n R hy
      split at e
      · rename_i x y e1 e2
        cases e
        have g1 : (xs.map (mv g r))[i]? = some (mv g r x) := by rw [List.getElem?_map, e1]; rfl
        have g2 : (ys.map (mv g r))[i]? = some (mv g r y) := by rw [List.getElem?_map, e2]; rfl
        refine ⟨⟨_, _, _, _, h1, h3, g1, g2⟩, fun u H' ⟨T, x', y', eu, hT, eh, k1, k2⟩ => ?_⟩
        have ex : x' = mv g r x := Option.some.inj ((k1 _ h1).symm.trans g1)
        have ey : y' = mv g r y := Option.some.inj ((k2 _ h3).symm.trans g2)
        subst eu eh ex ey
        exact ⟨ext r M.length T, nxt_ext hT, R.alloc (o := .tup [x, y]) hT .tup (Lts.cons (h2.get e1) (Lts.cons (h4.get e2) Lts.nil)), (congrArg V.ref ext_at).symm, by show M.length < _; simp⟩
      · cases e
    · cases e
def iSeq (g : Cfg) (d : D) : DI := fun L M => (d L M).bind fun v M1 => match v with
  | .str s => .ok (.str s) M1
  | _ => (match lstOf g M1 v with
    | some xs => .ok (.lst v xs.length) M1
    | none => (match tupOf g M1 v with
      | some xs => .ok (.tup v xs.length) M1
      | none => .no))
section
variable {tg e : Expr} {d : D}
theorem si_seq (G : Good g X) (ha : SE g X e d) : SI g X tg e (iSeq g d) :=
  pi_imp (PI.or (pi_str ha) (PI.or (pi_list ha) (pi_tup ha))) fun σ H Q ⟨r, L, M, b, M', A, e, k⟩ => by
    obtain ⟨v, M1, e1, e⟩ := R.bind_eq e
    have lists : ∀ v : Val, v.lt 0 ∨ True → d L M = .ok v M1 → (match lstOf g M1 v with
        | some xs => R.ok (Itb.lst v xs.length) M1
        | none => (match tupOf g M1 v with
          | some xs => .ok (.tup v xs.length) M1
          | none => .no)) = .ok b M' → iList X.K (tD g d) σ H Q ∨ iTup X.K (tD g d) σ H Q := fun v _ e1 e => by
      split at e
      · rename_i xs hx
        cases e
        refine .inl (tD_go A e1 fun r1 H1 n1 A1 l1 => ?_)
        obtain ⟨p, hp, hq, wf⟩ := lstOf_ok (K := X.K) G.con A1.rel hx
        exact ⟨p, hp, ⟨_, hq⟩, k r1 H1 _ n1 A1.rel (it_lst G.con hp l1)⟩
      · split at e
        · rename_i xs hx
          cases e
          refine .inr (tD_go A e1 fun r1 H1 n1 A1 l1 => ?_)
          obtain ⟨p, hp, hq, wf⟩ := tupOf_ok (K := X.K) G.con A1.rel hx
          exact ⟨p, hp, ⟨_, hq⟩, k r1 H1 _ n1 A1.rel (it_tup G.con hp l1)⟩
        · cases e
    cases v with
    | str s =>
      cases e
      exact .inl (tD_go A e1 fun r1 H1 n1 A1 l1 => ⟨_, rfl, k r1 H1 _ n1 A1.rel it_str⟩)
    | _ => exact .inr (lists _ (.inr trivial) e1 e)
end
def iR1 (a : DA) : DI := fun L M => (a L M).bind fun vs M1 => match vs with
  | [.int j] => if -1000000 ≤ j ∧ j ≤ 1000000 then .ok (.rng 0 1 j.toNat) M1 else .no
  | _ => .no
def iR2 (a : DA) : DI := fun L M => (a L M).bind fun vs M1 => match vs with
  | [.int i, .int j] => if -1000000 ≤ j ∧ j ≤ 1000000 ∧ -1000000 ≤ i ∧ i ≤ 1000000 then .ok (.rng i 1 (j - i).toNat) M1 else .no
  | _ => .no
def rcount (i j c : Int) : Nat := if i < j then ((j - i - 1) / c + 1).toNat else 0
def iR3 (a : DA) : DI := fun L M => (a L M).bind fun vs M1 => match vs with
  | [.int i, .int j, .int c] => if -1000000 ≤ j ∧ j ≤ 1000000 ∧ -1000000 ≤ i ∧ i ≤ 1000000 ∧ 0 < c ∧ c ≤ 1000 then .ok (.rng i c (rcount i j c)) M1 else .no
  | _ => .no
section
variable {tg a b c : Expr} {ds : DA} {p pos : Pos}
theorem si_r1 (hm : X.mg "range" = none) (ha : SA g X [a] ds) (hg : Gl X "range" := by rfl) (hs : starEach [a] X.env = [(false, eval a X.env)] := by rfl) : SI g X tg (.Call (.Name "range" p) [a] [] pos) (iR1 ds) :=
  pi_imp (pi_range1 hg hm ha hs) fun σ H Q ⟨r, L, M, b, M', A, e, k⟩ => by
    obtain ⟨vs, M1, e1, e⟩ := R.bind_eq e
    refine tDA_go A e1 fun r1 H1 n1 A1 l1 => ?_
    split at e
    · split at e
      · rename_i h
        cases e
        exact ⟨_, rfl, by omega, by omega, k r1 H1 _ n1 A1.rel it_rng1⟩
      · cases e
    · cases e
theorem si_r2 (hm : X.mg "range" = none) (ha : SA g X [a, b] ds) (hg : Gl X "range" := by rfl) (hs : starEach [a, b] X.env = [(false, eval a X.env), (false, eval b X.env)] := by rfl) (hs2 : starEach [b] X.env = [(false, eval b X.env)] := by rfl) : SI g X tg (.Call (.Name "range" p) [a, b] [] pos) (iR2 ds) :=
  pi_imp (pi_range2 hg hm ha hs hs2) fun σ H Q ⟨r, L, M, b, M', A, e, k⟩ => by
    obtain ⟨vs, M1, e1, e⟩ := R.bind_eq e
    refine tDA_go A e1 fun r1 H1 n1 A1 l1 => ?_
    split at e
    · split at e
      · rename_i h
        cases e
        exact ⟨_, _, rfl, ⟨by omega, by omega, by omega, by omega⟩, k r1 H1 _ n1 A1.rel it_rng1⟩
      · cases e
    · cases e
end
theorem small_of {i j c : Int} (h : -1000000 ≤ j ∧ j ≤ 1000000 ∧ -1000000 ≤ i ∧ i ≤ 1000000 ∧ 0 < c ∧ c ≤ 1000) : RgC i j c (rcount i j c) := by
  have hc : c > 0 := h.2.2.2.2.1
  have hd : (j - i - 1) / c ≤ 2000000 := by
    have h1 : (j - i - 1) / c ≤ (2000000 : Int) / c := Int.ediv_le_ediv hc (by omega)
    have h2 : (2000000 : Int) / c ≤ 2000000 := Int.ediv_le_self _ (by omega)
    omega
  have e : Builtin.Range.rangeSize i j c = (rcount i j c : Nat) := by
    unfold Builtin.Range.rangeSize rcount
    rw [if_pos hc]
    by_cases hij : i < j
    · rw [if_pos hij, if_pos hij]
      have : 0 ≤ (j - i - 1) / c := Int.ediv_nonneg (by omega) (by omega)
      omega
    · rw [if_neg hij, if_neg hij]; rfl
  refine ⟨by omega, by omega, ?_, e⟩
  have hb : (rcount i j c : Int) ≤ 2000001 := by
    unfold rcount
    split
    · have : 0 ≤ (j - i - 1) / c := Int.ediv_nonneg (by omega) (by omega)
      omega
    · exact Int.le_of_lt (by decide)
  have h0 : (0 : Int) ≤ (rcount i j c : Int) := Int.natCast_nonneg _
  have hm : (rcount i j c : Int) * c ≤ 2000001 * 1000 := Int.mul_le_mul hb h.2.2.2.2.2 (by omega) (by decide)
  have hm0 : 0 ≤ (rcount i j c : Int) * c := Int.mul_nonneg h0 (by omega)
  unfold Builtin.Range.small
  rw [e]
  simp only [Builtin.Range.rangeFitsLong, Bool.and_eq_true, Bool.or_eq_true, decide_eq_true_eq, beq_iff_eq]
  rw [if_pos hc]
  refine ⟨by omega, .inr ?_⟩
  rw [Bool.and_eq_true, decide_eq_true_eq, decide_eq_true_eq]
  omega
theorem si_r3 {tg a b c : Expr} {ds : DA} {p pos : Pos} (hm : X.mg "range" = none) (ha : SA g X [a, b, c] ds) (hg : Gl X "range" := by rfl) (hs : starEach [a, b, c] X.env = (false, eval a X.env) :: starEach [b, c] X.env := by rfl) (hpl : (backTo pos (starEach [b, c] X.env)).any (·.1) = false := by rfl) :
    SI g X tg (.Call (.Name "range" p) [a, b, c] [] pos) (iR3 ds) :=
  pi_imp (pi_range3 hg hm ha hs hpl) fun σ H Q ⟨r, L, M, b, M', A, e, k⟩ => by
    obtain ⟨vs, M1, e1, e⟩ := R.bind_eq e
    refine tDA_go A e1 fun r1 H1 n1 A1 l1 => ?_
    split at e
    · split at e
      · rename_i h
        cases e
        exact ⟨_, _, _, _, rfl, small_of h, k r1 H1 _ n1 A1.rel it_rng⟩
      · cases e
    · cases e
/-- zip of two lists -/
def jZip (g : Cfg) (a : DA) : DI := fun L M => (a L M).bind fun vs M1 => match vs with
  | [v, w] => (match lstOf g M1 v, lstOf g M1 w with
    | some xs, some ys => .ok (.zip v w (min xs.length ys.length)) M1
    | _, _ => .no)
  | _ => .no
/-! ### targets -/
abbrev DT := Val → Loc → Mem → R Loc
structure TgOk (g : Cfg) (K : PySem.W.Frag) (t : DT) (gt : TG) : Prop where
  ok : ∀ (r : Nat → Addr) (L : Loc) (M : Mem) (σ : L2.St) (H : Hp) (v : Val) (L' : Loc) (M' : Mem) (Q : L2.St → Hp → Prop), At g r L M σ H → v.lt M.length → t v L M = .ok L' M' → (∀ r' H', Nxt r M H r' M' H' → Rel g r' M' H' → Lok M'.length L' → Q (mS g r' L') H') → gt (mv g r v) σ H Q
def tNm (i : Nat) : DT := fun v L M => .ok (L.set i (some v)) M
theorem tNm_ok {K : PySem.W.Frag} {i : Nat} : TgOk g K (tNm i) (gName i) := ⟨fun r L M σ H v L' M' Q A l e k => by
  cases e
  show Q (σ.set i (some (mv g r v))) H
  rw [A.sl, mS_set]
  exact k r H Nxt.refl A.rel (A.lok.set l)⟩
def setAll (L : Loc) : List Nat → List Val → Loc
  | i :: is, v :: vs => setAll (L.set i (some v)) is vs
  | _, _ => L
def tTp (g : Cfg) (is : List Nat) : DT := fun v L M => match tupOf g M v with
  | some xs => if xs.length = is.length then .ok (setAll L is xs) M else .no
  | none => .no
def gNames : List Nat → TGs
  | [] => gNil
  | i :: is => gCons (gName i) (gNames is)
theorem setAll_ok {r : Nat → Addr} {M : Mem} {H : Hp} {Q : L2.St → Hp → Prop} : ∀ {is : List Nat} {xs : List Val} {L : Loc}, xs.length = is.length → Lok M.length L → Lts M.length xs → (Lok M.length (setAll L is xs) → Q (mS g r (setAll L is xs)) H) → gNames is (xs.map (mv g r)) (mS g r L) H Q
  | [], [], L, _, lo, _, k => ⟨rfl, k lo⟩
  | [], _ :: _, _, h, _, _, _ => by cases h
  | _ :: _, [], _, h, _, _, _ => by cases h
  | i :: is, x :: xs, L, h, lo, l, k => by
    refine ⟨mv g r x, xs.map (mv g r), rfl, ?_⟩
    show gNames is (xs.map (mv g r)) ((mS g r L).set i (some (mv g r x))) H Q
    rw [mS_set]
    exact setAll_ok (Nat.succ.inj h) (lo.set (l x List.mem_cons_self)) (fun v hv => l v (List.mem_cons_of_mem _ hv)) k
theorem tTp_ok {K : PySem.W.Frag} (hK : ConOk g K) {is : List Nat} : TgOk g K (tTp g is) (gTup K is.length (gNames is)) := ⟨fun r L M σ H v L' M' Q A l e k => by
  simp only [tTp] at e
  split at e
  · rename_i xs hx
    split at e
    · rename_i hl
      cases e
      obtain ⟨p, hp, hq, wf⟩ := tupOf_ok (K := K) hK A.rel hx
      refine ⟨p, _, hp, hq, by rw [List.length_map]; exact hl, ?_⟩
      rw [A.sl]
      exact setAll_ok hl A.lok wf fun lo => k r H Nxt.refl A.rel lo
    · cases e
  · cases e⟩

theorem si_zip (G : Good g X) {elts : List Expr} {kk : Nat} {tpos : Pos} {e e2 : Expr} {ds : DA} {p pos : Pos} (hm : X.mg "zip" = none) (ha : SA g X [e, e2] ds) (hg : Gl X "zip" := by rfl)
    (hs : starEach [e, e2] X.env = (false, eval e X.env) :: starEach [e2] X.env := by rfl) (hpl : (backTo pos (starEach [e2] X.env)).any (·.1) = false := by rfl) :
    SI g X (.Tuple elts kk tpos) (.Call (.Name "zip" p) [e, e2] [] pos) (jZip g ds) :=
  pi_imp (pi_zip hg hm ha hs hpl) fun σ H Q ⟨r, L, M, b, M', A, e, k⟩ => by
    obtain ⟨vs, M1, e1, e⟩ := R.bind_eq e
    refine tDA_go A e1 fun r1 H1 n1 A1 l1 => ?_
    split at e
    · rename_i v w
      split at e
      · rename_i xs ys hx hy
        cases e
        obtain ⟨p, hp, hq, _⟩ := lstOf_ok (K := X.K) G.con A1.rel hx
        obtain ⟨p', hp', hq', _⟩ := lstOf_ok (K := X.K) G.con A1.rel hy
        exact ⟨p, p', _, _, by rw [List.map_cons, List.map_cons, hp, hp']; rfl, hq, hq', k r1 H1 _ n1 A1.rel (it_zip G.con hp hp' (l1 v (by simp)) (l1 w (by simp)))⟩
      · cases e
    · cases e
/-! ### targets as the text has them -/
structure STg (g : Cfg) (X : Cx) (e : Expr) (t : DT) : Prop where
  ex : ∃ gt, PG X e gt ∧ TgOk g X.K t gt
theorem stg_nm (G : Good g X) {i : Nat} {x : Str} {pos : Pos} (hi : X.N[i]? = some x := by rfl) (hx : L2.Loc X.env.scope x := by first | exact Or.inl rfl | exact Or.inr rfl) (hf : X.fn x = true ∨ X.env.scope.names.lookup x = some .local := by first | exact .inl rfl | exact .inr rfl) : STg g X (.Name x pos) (tNm i) :=
  ⟨gName i, pg_name G.nd hi hx hf, tNm_ok⟩
inductive PNs (X : Cx) : List Expr → List Nat → Prop
  | nil : PNs X [] []
  | cons {i : Nat} {x : Str} {pos : Pos} {es : List Expr} {is : List Nat} : X.N[i]? = some x → L2.Loc X.env.scope x → (X.fn x = true ∨ X.env.scope.names.lookup x = some .local) → PNs X es is → PNs X (.Name x pos :: es) (i :: is)
theorem PNs.pgs (hN : X.N.Nodup) {es : List Expr} {is : List Nat} (h : PNs X es is) : PGs X es (gNames is) := by
  induction h with
  | nil => exact pgs_nil
  | cons h1 h2 h3 _ ih => exact pgs_cons (pg_name hN h1 h2 h3) ih
theorem PNs.len {es : List Expr} {is : List Nat} (h : PNs X es is) : es.length = is.length := by
  induction h with
  | nil => rfl
  | cons _ _ _ _ ih => rw [List.length_cons, List.length_cons, ih]
theorem stg_tp (G : Good g X) {es : List Expr} {is : List Nat} {kk : Nat} {pos : Pos} (h : PNs X es is) (hn : (assignEach es X.env).length = is.length := by rfl) (hst : (assignEach es X.env).findIdx? (·.1) = none := by rfl) : STg g X (.Tuple es kk pos) (tTp g is) :=
  ⟨_, pg_tup G.calm (h.pgs G.nd) hn hst, tTp_ok G.con⟩
/-! ### statements -/
def xSkip : Ds := fun L M => .ok (.nx L) M
def xSeq (a b : Ds) : Ds := fun L M => (a L M).bind fun f M1 => match f with
  | .nx L1 => b L1 M1
  | .rt v => .ok (.rt v) M1
  | .bk L1 => .ok (.bk L1) M1
  | .ct L1 => .ok (.ct L1) M1
def xIf (c : D) (a b : Ds) : Ds := fun L M => (c L M).bind fun v M1 => match v with
  | .bl true => a L M1
  | .bl false => b L M1
  | _ => .no
def xRet (d : D) : Ds := fun L M => (d L M).bind fun v M1 => .ok (.rt v) M1
def xRetN : Ds := fun _ M => .ok (.rt .non) M
def xExpr (d : D) : Ds := fun L M => (d L M).bind fun _ M1 => .ok (.nx L) M1
def xBrk : Ds := fun L M => .ok (.bk L) M
def xCont : Ds := fun L M => .ok (.ct L) M
def xAsg (d : D) (t : DT) : Ds := fun L M => (d L M).bind fun v M1 => (t v L M1).bind fun L1 M2 => .ok (.nx L1) M2
def xSet (i : Nat) (d : D) : Ds := fun L M => (d L M).bind fun v M1 => .ok (.nx (L.set i (some v))) M1
def xFld (T : CTab) (o : D) (f : String) (d : D) : Ds := fun L M => (d L M).bind fun v M1 => (o L M1).bind fun x M2 => match x with
  | .ref a => (match M2[a]? with
    | some (.ins c fs) => if hasF T c f = true ∧ fs.length < 100 then .ok (.nx L) (M2.set a (.ins c (putf f v fs))) else .no
    | _ => .no)
  | _ => .no
def setIx (x y v : Val) (M : Mem) : R Unit := match x with
  | .ref a => (match M[a]? with
    | some (.lst xs) => (match y with
      | .int i => (match ixN xs.length i with
        | some j => .ok () (M.set a (.lst (xs.set j v)))
        | none => .no)
      | _ => .no)
    | some (.dk kvs) => (match keyOf y with
      | some k => if kvs.length < 1000000 then .ok () (M.set a (.dk (putk kvs k v))) else .no
      | none => .no)
    | some (.dt kvs) => (match tkeyOf M y with
      | some k => if kvs.length < 1000000 then .ok () (M.set a (.dt (putk kvs k v))) else .no
      | none => .no)
    | _ => .no)
  | _ => .no
def xSub (o i d : D) : Ds := fun L M => (d L M).bind fun v M1 => (o L M1).bind fun x M2 => (i L M2).bind fun y M3 => (setIx x y v M3).bind fun _ M4 => .ok (.nx L) M4
theorem ins_at {r : Nat → Addr} {M : Mem} {H : Hp} {a : Nat} {c : String} {fs : List (String × Val)} (R : Rel g r M H) (e : M[a]? = some (.ins c fs)) : ∃ dx, H (r a) = some (.ins (g.cl c) dx (fs.map (mfv g r))) := by
  obtain ⟨u, hu, x⟩ := R.obj a _ e
  cases x
  exact ⟨_, hu⟩
section
variable {e c : Expr} {d dc : D} {pos : Pos} {st : Stmt} {a b : List Stmt} {da db : Ds}
theorem sss_nil : SSs g X [] xSkip := pss_imp pss_nil fun D σ H ⟨r, L, M, f, M', A, e, k⟩ => by
  cases e
  have z : D.nx (mS g r L) H := (show Lok M.length L → D.nx (mS g r L) H from k r H Nxt.refl A.rel) A.lok
  rw [← A.sl] at z
  exact z
theorem sss_cons {ds : Ds} (h1 : SS g X st ds) (h2 : SSs g X b db) : SSs g X (st :: b) (xSeq ds db) := pss_imp (pss_cons h1 h2) fun D σ H ⟨r, L, M, f, M', A, e, k⟩ => by
  obtain ⟨f1, M1, e1, e⟩ := R.bind_eq e
  refine ⟨r, L, M, f1, M1, A, e1, fun r1 H1 n1 R1 => ?_⟩
  cases f1 with
  | nx L1 => exact fun lo => ⟨r1, L1, M1, f, M', At.of R1 lo, e, fun r2 H2 n2 R2 => k r2 H2 (n1.trans n2) R2⟩
  | rt v => cases e; exact k r1 H1 n1 R1
  | bk L1 => cases e; exact k r1 H1 n1 R1
  | ct L1 => cases e; exact k r1 H1 n1 R1
theorem sss_one {ds : Ds} (h1 : SS g X st ds) : SSs g X [st] ds := pss_one h1
theorem ss_if (hc : ST g X c dc) (ha : SSs g X a da) (hb : SSs g X b db) : SS g X (.If c a b pos) (xIf dc da db) := ps_imp (ps_if hc ha hb) fun D σ H ⟨r, L, M, f, M', A, e, k⟩ => by
  obtain ⟨v, M1, e1, e⟩ := R.bind_eq e
  split at e
  · exact tDT_go A e1 fun r1 H1 n1 A1 => iteT ⟨r1, L, M1, f, M', A1, e, fun r2 H2 n2 R2 => k r2 H2 (n1.trans n2) R2⟩
  · exact tDT_go A e1 fun r1 H1 n1 A1 => iteF ⟨r1, L, M1, f, M', A1, e, fun r2 H2 n2 R2 => k r2 H2 (n1.trans n2) R2⟩
  · cases e
theorem ss_ret (he : SE g X e d) : SS g X (.Return (some e) pos) (xRet d) := ps_imp (ps_ret he) fun D σ H ⟨r, L, M, f, M', A, e, k⟩ => by
  obtain ⟨v, M1, e1, e⟩ := R.bind_eq e
  cases e
  exact tD_go A e1 fun r1 H1 n1 A1 l1 => (show v.lt _ → D.rt (mv g r1 v) H1 from k r1 H1 n1 A1.rel) l1
theorem ss_retN : SS g X (.Return none pos) xRetN := ps_imp ps_retN fun D σ H ⟨r, L, M, f, M', A, e, k⟩ => by
  cases e
  exact (show Val.non.lt M.length → D.rt (mv g r Val.non) H from k r H Nxt.refl A.rel) trivial
theorem ss_expr (he : SE g X e d) (hs : swapsWith e none pos.line X.env = pure false := by rfl) : SS g X (.Expr e pos) (xExpr d) := ps_imp (ps_expr he hs) fun D σ H ⟨r, L, M, f, M', A, e, k⟩ => by
  obtain ⟨v, M1, e1, e⟩ := R.bind_eq e
  cases e
  refine tD_go A e1 fun r1 H1 n1 A1 l1 => ?_
  have z : D.nx (mS g r1 L) H1 := (show Lok _ L → D.nx (mS g r1 L) H1 from k r1 H1 n1 A1.rel) A1.lok
  rw [← A1.sl] at z
  exact z
theorem ss_pass : SS g X (.Pass pos) xSkip := ps_imp ps_pass fun D σ H ⟨r, L, M, f, M', A, e, k⟩ => by
  cases e
  have z : D.nx (mS g r L) H := (show Lok M.length L → D.nx (mS g r L) H from k r H Nxt.refl A.rel) A.lok
  rw [← A.sl] at z
  exact z
theorem ss_doc {x : Str} {j pos'} : SS g X (.Expr (.Constant (.str x) j pos) pos') xSkip := ps_imp ps_doc fun D σ H ⟨r, L, M, f, M', A, e, k⟩ => by
  cases e
  have z : D.nx (mS g r L) H := (show Lok M.length L → D.nx (mS g r L) H from k r H Nxt.refl A.rel) A.lok
  rw [← A.sl] at z
  exact z
theorem ss_brk : SS g X (.Break pos) xBrk := ps_imp ps_break fun D σ H ⟨r, L, M, f, M', A, e, k⟩ => by
  cases e
  have z : D.bk (mS g r L) H := (show Lok M.length L → D.bk (mS g r L) H from k r H Nxt.refl A.rel) A.lok
  rw [← A.sl] at z
  exact z
theorem ss_cont : SS g X (.Continue pos) xCont := ps_imp ps_continue fun D σ H ⟨r, L, M, f, M', A, e, k⟩ => by
  cases e
  have z : D.ct (mS g r L) H := (show Lok M.length L → D.ct (mS g r L) H from k r H Nxt.refl A.rel) A.lok
  rw [← A.sl] at z
  exact z
def xNever : Ds := fun _ _ => .no
theorem ss_never : SS g X st xNever := ps_imp ps_never fun D σ H ⟨r, L, M, f, M', A, e, k⟩ => by cases e
theorem ss_set (G : Good g X) {i : Nat} {x : Str} {pos' : Pos} (he : SE g X e d) (hi : X.N[i]? = some x := by rfl) (hx : L2.Loc X.env.scope x := by first | exact Or.inl rfl | exact Or.inr rfl) (hs : swapsWith e (some (.Name x pos')) pos.line X.env = pure false := by rfl)
    (hf : X.fn x = true ∨ X.env.scope.names.lookup x = some .local := by first | exact .inl rfl | exact .inr rfl) : SS g X (.Assign [.Name x pos'] e pos) (xSet i d) := ps_imp (ps_set G.nd hi hx he hs hf) fun D σ H ⟨r, L, M, f, M', A, e, k⟩ => by
  obtain ⟨v, M1, e1, e⟩ := R.bind_eq e
  cases e
  refine tD_go A e1 fun r1 H1 n1 A1 l1 => ?_
  show D.nx (σ.set i (some (mv g r1 v))) H1
  rw [A1.sl, mS_set]
  exact (show Lok _ (L.set i (some v)) → D.nx (mS g r1 (L.set i (some v))) H1 from k r1 H1 n1 A1.rel) (A1.lok.set l1)
theorem ss_asg {tg : Expr} {t : DT} (he : SE g X e d) (ht : STg g X tg t) (hs : swapsWithSole [tg] e pos.line X.env = pure false := by rfl) (hw : swappedStores [tg] e X.env = pure none := by rfl) (h3 : (assignEach [tg] X.env).map (·.2) = [assign tg X.env] := by rfl) : SS g X (.Assign [tg] e pos) (xAsg d t) := by
  obtain ⟨gt, h1, h2⟩ := ht.ex
  refine ps_imp (ps_asg he h1 hs hw h3) fun D σ H ⟨r, L, M, f, M', A, e, k⟩ => ?_
  obtain ⟨v, M1, e1, e⟩ := R.bind_eq e
  obtain ⟨L1, M2, e2, e⟩ := R.bind_eq e
  cases e
  refine tD_go A e1 fun r1 H1 n1 A1 l1 => ?_
  exact h2.ok r1 L M1 σ H1 v L1 _ _ A1 l1 e2 fun r2 H2 n2 R2 lo => (show Lok _ L1 → D.nx (mS g r2 L1) H2 from k r2 H2 (n1.trans n2) R2) lo
theorem ss_fld {T : CTab} (hT : TabOk g X.K T) {o : Expr} {f : String} {dd : D} {pos' : Pos} (ho : SE g X o dd) (he : SE g X e d) (hs : swapsWith e (some (.Attribute o (Str.ofString f) pos')) pos.line X.env = pure false := by rfl) : SS g X (.Assign [.Attribute o (Str.ofString f) pos'] e pos) (xFld T dd f d) :=
  ps_imp (ps_fld ho he hs) fun D σ H ⟨r, L, M, fl, M', A, e, k⟩ => by
    obtain ⟨v, M1, e1, e⟩ := R.bind_eq e
    obtain ⟨x, M2, e2, e⟩ := R.bind_eq e
    refine tD_go A e1 fun r1 H1 n1 A1 l1 => tD_go A1 e2 fun r2 H2 n2 A2 l2 => ?_
    split at e
    · rename_i a
      split at e
      · rename_i c fs hm
        split at e
        · rename_i hf
          cases e
          obtain ⟨dx, hu⟩ := ins_at A2.rel hm
          obtain ⟨c1, c2⟩ := hT.get hf.1
          refine ⟨_, _, _, _, rfl, hu, c1, c2, by rw [List.length_map]; omega, ?_⟩
          rw [← n2.mv l1, putf_ok]
          have R3 := A2.rel.put (o := .ins c (putf f v fs)) (u := .ins (g.cl c) dx ((putf f v fs).map (mfv g r2))) (lt_of_get hm) .ins (fun p hp => by
            rcases putf_mem hp with z | z
            · rw [z]; exact l1.mono n2.le
            · exact A2.rel.wf _ _ hm p z)
          have z : D.nx (mS g r2 L) _ := (show Lok _ L → D.nx (mS g r2 L) _ from k r2 _ ((n1.trans n2).trans (nxt_set A2.rel hm)) R3) (by rw [List.length_set]; exact A2.lok)
          rw [← A2.sl] at z
          exact z
        · cases e
      · cases e
    · cases e
def rSetA : TSet := fun o i v H Q => rSetL o i v H Q ∨ rSetD o i v H Q
theorem set_all (hu : X.A.units + 1 < cLine) : PSet X rSetA := by
  intro pins s σ H o i v ov iv u Q I ro ri rv h
  rcases h with h | h
  · exact set_list pins s σ H o i v ov iv u Q I ro ri rv h
  · exact set_dict hu pins s σ H o i v ov iv u Q I ro ri rv h
theorem setIx_ok {r : Nat → Addr} {M M' : Mem} {H : Hp} {x y v : Val} {Q : Hp → Prop} (R : Rel g r M H) (lv : v.lt M.length) (e : setIx x y v M = .ok () M') (k : ∀ H', M'.length = M.length → Keep H H' → Rel g r M' H' → Q H') : rSetA (mv g r x) (mv g r y) (mv g r v) H Q := by
  unfold setIx at e
  split at e
  · rename_i a
    split at e
    · rename_i xs hm
      split at e
      · rename_i i
        split at e
        · rename_i j hj
          cases e
          refine .inl ⟨_, _, i, j, rfl, rfl, lst_at R hm, by rw [List.length_map]; exact hj, ?_⟩
          have wf : Lts M.length xs := R.wf _ _ hm
          have z := k _ (List.length_set ..) (keep_put R hm rfl) (R.put (o := .lst (xs.set j v)) (lt_of_get hm) .lst (fun w hw => by
            rcases List.mem_or_eq_of_mem_set hw with z | z
            · exact wf w z
            · rw [z]; exact lv))
          rw [List.map_set] at z
          exact z
        · cases e
      · cases e
    · rename_i kvs hm
      split at e
      · rename_i key hk
        split at e
        · rename_i hl
          cases e
          obtain ⟨u, hu, x⟩ := R.obj _ _ hm
          cases x
          have wf := R.wf _ _ hm
          refine .inr ⟨_, _, rfl, .inl ⟨_, mk key, hu, keyOf_ok hk, by rw [List.length_map]; exact line6' hl, rfl⟩, ?_⟩
          have z := k _ (List.length_set ..) (keep_put R hm rfl) (R.put (o := .dk (putk kvs key v)) (lt_of_get hm) .dk (fun p hp => by
            rcases putk_mem hp with z | z
            · rw [z]; exact lv
            · exact wf p z))
          have ee : (putk kvs key v).map (mkv g r) = putK (kvs.map (mkv g r)) (mk key) (mv g r v) := (putK_map (f := mk) (h := mv g r) (fun _ _ => mk_inj) key v kvs).symm
          rw [ee] at z
          exact z
        · cases e
      · cases e
    · rename_i kvs hm
      split at e
      · rename_i key hk
        split at e
        · rename_i hl
          cases e
          obtain ⟨u, hu, x⟩ := R.obj _ _ hm
          cases x
          have wf := R.wf _ _ hm
          obtain ⟨b, hb, ht⟩ := tkeyOf_ok R hk
          refine .inr ⟨_, _, rfl, .inr ⟨_, key.map mk, b, hu, hb, ht, by rw [List.length_map]; exact line6' hl, rfl⟩, ?_⟩
          have z := k _ (List.length_set ..) (keep_put R hm rfl) (R.put (o := .dt (putk kvs key v)) (lt_of_get hm) .dt (fun p hp => by
            rcases putk_mem hp with z | z
            · rw [z]; exact lv
            · exact wf p z))
          have ee : (putk kvs key v).map (mkt g r) = putK (kvs.map (mkt g r)) (key.map mk) (mv g r v) := (putK_map (f := fun k : List DKey => k.map mk) (h := mv g r) (fun _ _ => mks_inj) key v kvs).symm
          rw [ee] at z
          exact z
        · cases e
      · cases e
    · cases e
  · cases e
abbrev PlSub (X : Cx) (o i : Expr) (pos : Pos) : Prop := ∀ v, assign (.Subscript o i pos) X.env v = (do
      let ov ← holding [v] (eval o X.env)
      let iv ← holding [v, ov] (eval i X.env)
      standAt pos
      holding [v, ov, iv] (setItem ov iv v)
      release [v, ov, iv] [])
theorem ss_sub (G : Good g X) {o i : Expr} {dd di : D} {pos' : Pos} (he : SE g X e d) (ho : SE g X o dd) (hi : SE g X i di) (hp : PlSub X o i pos' := by intro _; rfl)
    (hs : swapsWithSole [.Subscript o i pos'] e pos.line X.env = pure false := by rfl) (hw : swappedStores [.Subscript o i pos'] e X.env = pure none := by rfl) : SS g X (.Assign [.Subscript o i pos'] e pos) (xSub dd di d) :=
  ps_imp (ps_asg he (pg_sub ho hi (set_all G.u1) hp) hs hw) fun D σ H ⟨r, L, M, f, M', A, e, k⟩ => by
    obtain ⟨v, M1, e1, e⟩ := R.bind_eq e
    obtain ⟨x, M2, e2, e⟩ := R.bind_eq e
    obtain ⟨y, M3, e3, e⟩ := R.bind_eq e
    obtain ⟨u, M4, e4, e⟩ := R.bind_eq e
    cases e
    refine tD_go A e1 fun r1 H1 n1 A1 l1 => tD_go A1 e2 fun r2 H2 n2 A2 l2 => tD_go A2 e3 fun r3 H3 n3 A3 l3 => ?_
    rw [← n3.mv l2, ← (n2.trans n3).mv l1]
    refine setIx_ok A3.rel (l1.mono (n2.trans n3).le) e4 fun H4 hl kp4 R4 => ?_
    have n4 := Nxt.of_len (r := r3) hl kp4
    have z : D.nx (mS g r3 L) H4 := (show Lok _ L → D.nx (mS g r3 L) H4 from k r3 H4 (((n1.trans n2).trans n3).trans n4) R4) (by rw [hl]; exact A3.lok)
    rw [← A3.sl] at z
    exact z
end

/-! ### for -/
def forL (g : Cfg) (it : Itb) (tg : DT) (body : Ds) : Nat → Nat → Ds
  | 0, i, L, M => if fin g it i M = true then .ok (.nx L) M else .no
  | n + 1, i, L, M => (yld g it i M).bind fun v M1 => (tg v L M1).bind fun L1 M2 => (body L1 M2).bind fun f M3 => match f with
    | .nx L2 => forL g it tg body n (i + 1) L2 M3
    | .ct L2 => forL g it tg body n (i + 1) L2 M3
    | .bk L2 => .ok (.nx L2) M3
    | .rt v => .ok (.rt v) M3
def xFor (g : Cfg) (it : DI) (tg : DT) (body : Ds) : Ds := fun L M => (it L M).bind fun b M1 => forL g b tg body b.num 0 L M1
/-- what is wanted behind -/
def FP (g : Cfg) (D : Ends) (r : Nat → Addr) (M : Mem) (H : Hp) (f : Fl) (M' : Mem) : Prop := ∀ r' H', Nxt r M H r' M' H' → Rel g r' M' H' → match f with
  | .nx L' => Lok M'.length L' → D.nx (mS g r' L') H'
  | .rt v => v.lt M'.length → D.rt (mv g r' v) H'
  | .bk L' => Lok M'.length L' → D.bk (mS g r' L') H'
  | .ct L' => Lok M'.length L' → D.ct (mS g r' L') H'
theorem FP.next {D : Ends} {r r1 : Nat → Addr} {M M1 M' : Mem} {H H1 : Hp} {f : Fl} (h : FP g D r M H f M') (n : Nxt r M H r1 M1 H1) : FP g D r1 M1 H1 f M' := fun r' H' n' R => h r' H' (n.trans n') R
theorem forL_ok {K : PySem.W.Frag} {it : Itb} {r0 : Nat → Addr} {M0 : Mem} {H0 : Hp} {J : It} {t : DT} {gt : TG} {body : Ds} {D : Ends} (hit : ItOk g K r0 M0 H0 J it) (ht : TgOk g K t gt) {f : Fl} {M' : Mem} : ∀ i m σ H,
    (∃ r L M, At g r L M σ H ∧ Nxt r0 M0 H0 r M H ∧ i + m = it.num ∧ forL g it t body m i L M = .ok f M' ∧ FP g D r M H f M' ∧ ((∃ L', f = .nx L') ∨ ∃ v, f = .rt v)) →
    (J.stop i H ∧ D.nx σ H) ∨ (J.go i H ∧ ∃ N : L2.St → Hp → Prop, (∀ σ' H', N σ' H' → ∃ m', m' < m ∧ ∃ r L M, At g r L M σ' H' ∧ Nxt r0 M0 H0 r M H' ∧ (i + 1) + m' = it.num ∧ forL g it t body m' (i + 1) L M = .ok f M' ∧ FP g D r M H' f M' ∧ ((∃ L', f = .nx L') ∨ ∃ v, f = .rt v)) ∧
      ∀ x H', J.yld i H x H' → gt x σ H' fun σ2 H2 => tDS g body { D with nx := N, ct := N, bk := D.nx } σ2 H2) := by
  rintro i m σ H ⟨r, L, M, A, n0, hm, e, k, hf⟩
  cases m with
  | zero =>
    simp only [forL] at e
    split at e
    · rename_i hfin
      cases e
      refine .inl ⟨hit.stop r M' H i n0 A.rel hfin, ?_⟩
      have z : D.nx (mS g r L) H := (show Lok _ L → D.nx (mS g r L) H from k r H Nxt.refl A.rel) A.lok
      rw [← A.sl] at z
      exact z
    · cases e
  | succ m =>
    simp only [forL] at e
    obtain ⟨v, M1, e1, e⟩ := R.bind_eq e
    obtain ⟨L1, M2, e2, e⟩ := R.bind_eq e
    obtain ⟨f1, M3, e3, e⟩ := R.bind_eq e
    obtain ⟨go, hy⟩ := hit.go r M H i v M1 n0 A.rel (by omega) e1
    refine .inr ⟨go, fun σ' H' => ∃ r L M, At g r L M σ' H' ∧ Nxt r0 M0 H0 r M H' ∧ (i + 1) + m = it.num ∧ forL g it t body m (i + 1) L M = .ok f M' ∧ FP g D r M H' f M' ∧ ((∃ L', f = .nx L') ∨ ∃ v, f = .rt v), fun σ' H' h => ⟨m, Nat.lt_succ_self _, h⟩, fun x H1 hx => ?_⟩
    obtain ⟨r1, n1, R1, ex, l1⟩ := hy x H1 hx
    subst ex
    have A1 : At g r1 L M1 σ H1 := A.next n1 R1
    refine ht.ok r1 L M1 σ H1 v L1 M2 _ A1 l1 e2 fun r2 H2 n2 R2 lo => ?_
    refine ⟨r2, L1, M2, f1, M3, At.of R2 lo, e3, fun r3 H3 n3 R3 => ?_⟩
    have N3 := (n1.trans n2).trans n3
    cases f1 with
    | nx L2 => exact fun lo3 => ⟨r3, L2, M3, At.of R3 lo3, n0.trans N3, by omega, e, k.next N3, hf⟩
    | ct L2 => exact fun lo3 => ⟨r3, L2, M3, At.of R3 lo3, n0.trans N3, by omega, e, k.next N3, hf⟩
    | bk L2 => cases e; exact k r3 H3 N3 R3
    | rt v => cases e; exact k r3 H3 N3 R3
theorem forL_end {it : Itb} {t : DT} {body : Ds} : ∀ {m i : Nat} {L : Loc} {M : Mem} {f : Fl} {M' : Mem}, forL g it t body m i L M = .ok f M' → (∃ L', f = .nx L') ∨ ∃ v, f = .rt v
  | 0, i, L, M, f, M', e => by
    simp only [forL] at e
    split at e
    · cases e; exact .inl ⟨_, rfl⟩
    · cases e
  | m + 1, i, L, M, f, M', e => by
    simp only [forL] at e
    obtain ⟨v, M1, e1, e⟩ := R.bind_eq e
    obtain ⟨L1, M2, e2, e⟩ := R.bind_eq e
    obtain ⟨f1, M3, e3, e⟩ := R.bind_eq e
    cases f1 with
    | nx L2 => exact forL_end e
    | ct L2 => exact forL_end e
    | bk L2 => cases e; exact .inl ⟨_, rfl⟩
    | rt v => cases e; exact .inr ⟨_, rfl⟩
section
variable {e c : Expr} {d dc : D} {pos : Pos} {b : List Stmt} {db : Ds}
theorem ss_for (hp : PassesOwn (model X.prog X.w) X.A X.env X.xe) (G : Good g X) {tg : Expr} {t : DT} {di : DI} (hi : SI g X tg e di) (ht : STg g X tg t) (hb : SSs g X b db) (hs : ∀ x, foldedSetIterable e X.env x = pure x := by intro _; rfl) : SS g X (.For tg e b [] pos) (xFor g di t db) := by
  obtain ⟨gt, h1, h2⟩ := ht.ex
  refine ps_imp (ps_for hp G.calm hi h1 hb hs) fun D σ H ⟨r, L, M, f, M', A, e, k⟩ => ?_
  obtain ⟨it, M1, e1, e⟩ := R.bind_eq e
  refine ⟨r, L, M, it, M1, A, e1, fun r1 H1 J n1 R1 hJ => ?_⟩
  exact ⟨_, ⟨it.num, r1, L, M1, A.next n1 R1, Nxt.refl, by omega, e, FP.next k n1, forL_end e⟩, fun i m σ H => forL_ok hJ h2 i m σ H⟩
/-! ### while -/
def whL (c : D) (body : Ds) : Nat → Ds
  | 0, _, _ => .no
  | n + 1, L, M => (c L M).bind fun v M1 => match v with
    | .bl false => .ok (.nx L) M1
    | .bl true => (body L M1).bind fun f M2 => match f with
      | .nx L2 => whL c body n L2 M2
      | .ct L2 => whL c body n L2 M2
      | .bk L2 => .ok (.nx L2) M2
      | .rt v => .ok (.rt v) M2
    | _ => .no
def xWhile (n : Nat) (c : D) (body : Ds) : Ds := fun L M => whL c body n L M
theorem ss_while (hp : PassesOwn (model X.prog X.w) X.A X.env X.xe) (n : Nat) (hc : ST g X c dc) (hb : SSs g X b db) : SS g X (.While c b [] pos) (xWhile n dc db) := ps_imp (ps_while hp hc hb) fun D σ H ⟨r, L, M, f, M', A, e, k⟩ => by
  refine ⟨fun m σ H => ∃ r L M, At g r L M σ H ∧ whL dc db m L M = .ok f M' ∧ FP g D r M H f M', ⟨n, r, L, M, A, e, k⟩, ?_⟩
  rintro m σ H ⟨r, L, M, A, e, k⟩
  cases m with
  | zero => cases e
  | succ m =>
    simp only [whL] at e
    obtain ⟨v, M1, e1, e⟩ := R.bind_eq e
    split at e
    · cases e
      refine tDT_go A e1 fun r1 H1 n1 A1 => ?_
      have z : D.nx (mS g r1 L) H1 := (show Lok _ L → D.nx (mS g r1 L) H1 from k r1 H1 n1 A1.rel) A1.lok
      rw [← A1.sl] at z
      exact z
    · obtain ⟨f1, M2, e2, e⟩ := R.bind_eq e
      refine tDT_go A e1 fun r1 H1 n1 A1 => ⟨fun σ' H' => ∃ r L M, At g r L M σ' H' ∧ whL dc db m L M = .ok f M' ∧ FP g D r M H' f M', fun σ' H' h => ⟨m, Nat.lt_succ_self _, h⟩, ?_⟩
      refine ⟨r1, L, M1, f1, M2, A1, e2, fun r2 H2 n2 R2 => ?_⟩
      have N2 := n1.trans n2
      cases f1 with
      | nx L2 => exact fun lo => ⟨r2, L2, M2, At.of R2 lo, e, k.next N2⟩
      | ct L2 => exact fun lo => ⟨r2, L2, M2, At.of R2 lo, e, k.next N2⟩
      | bk L2 => cases e; exact k r2 H2 N2 R2
      | rt v => cases e; exact k r2 H2 N2 R2
    · cases e
end
/-! ### [elt for target in iter if test] -/
def wipeL (L : Loc) : List Nat → Loc
  | [] => L
  | v :: vs => (wipeL L vs).set v none
theorem wipeL_ok {r : Nat → Addr} : ∀ (vs : List Nat) (L : Loc), mS g r (wipeL L vs) = wipe (mS g r L) vs
  | [], _ => rfl
  | v :: vs, L => by
    show mS g r ((wipeL L vs).set v none) = (wipe (mS g r L) vs).set v none
    rw [← wipeL_ok vs L]
    unfold mS
    rw [List.map_set]; rfl
theorem wipeL_lok {n : Nat} : ∀ {vs : List Nat} {L : Loc}, Lok n L → Lok n (wipeL L vs)
  | [], _, h => h
  | v :: vs, L, h => fun w hw => by
    rcases List.mem_or_eq_of_mem_set hw with z | z
    · exact wipeL_lok h w z
    · cases z
/-- a target that stores into the block's own slots alone -/
def Own (g : Cfg) (vs : List Nat) (t : DT) : Prop := ∀ v L M L' M', t v L M = .ok L' M' → M' = M ∧ wipeL L' vs = wipeL L vs
theorem own_nm {i : Nat} : Own g [i] (tNm i) := fun v L M L' M' e => by
  cases e
  refine ⟨rfl, ?_⟩
  show (L.set i (some v)).set i none = L.set i none
  rw [List.set_set]
def cYes : D := fun _ M => .ok (.bl true) M
def compL (g : Cfg) (it : Itb) (tg : DT) (tt te : D) (D0 : Nat) (L0 : Loc) : Nat → Nat → Mem → R Unit
  | 0, i, M => if fin g it i M = true then .ok () M else .no
  | n + 1, i, M => (yld g it i M).bind fun v M1 => (tg v L0 M1).bind fun L1 M2 => (tt L1 M2).bind fun b M3 => match b with
    | .bl true => (te L1 M3).bind fun y M4 => (match M4[D0]? with
      | some (.lst acc) => if acc.length < 1000000 then compL g it tg tt te D0 L0 n (i + 1) (M4.set D0 (.lst (acc ++ [y]))) else .no
      | _ => .no)
    | .bl false => compL g it tg tt te D0 L0 n (i + 1) M3
    | _ => .no
def dComp (g : Cfg) (it : DI) (tg : DT) (tt te : D) (vs : List Nat) : D := fun L M => (it L M).bind fun b M1 => (compL g b tg tt te M1.length (wipeL L vs) b.num 0 (M1 ++ [.lst []])).bind fun _ M2 => .ok (.ref M1.length) M2
theorem comp_ok {K : PySem.W.Frag} {it : Itb} {r0 : Nat → Addr} {M0 : Mem} {H0 : Hp} {J : It} {t : DT} {gt : TG} {tt te : D} {vs : List Nat} {D : Nat} {Da : Addr} {L0 : Loc} {σ0 : L2.St} {Q : VK} (hit : ItOk g K r0 M0 H0 J it) (ht : TgOk g K t gt) (ho : Own g vs t)
    (hw : wipeL L0 vs = L0) (lo : Lok M0.length L0) (hs : σ0 = mS g r0 L0) (hD : D = M0.length) {M' : Mem} : ∀ i m H,
    (∃ r M, Nxt r0 M0 H0 r M H ∧ D < M.length ∧ r D = Da ∧ Rel g r M H ∧ i + m = it.num ∧ compL g it t tt te D L0 m i M = .ok () M' ∧ ∀ r' H', Nxt r M H r' M' H' → Rel g r' M' H' → Q (.ref Da) H') →
    (J.stop i H ∧ Q (.ref Da) H) ∨ (J.go i H ∧ ∃ N : Hp → Prop, (∀ H', N H' → ∃ m', m' < m ∧ ∃ r M, Nxt r0 M0 H0 r M H' ∧ D < M.length ∧ r D = Da ∧ Rel g r M H' ∧ (i + 1) + m' = it.num ∧ compL g it t tt te D L0 m' (i + 1) M = .ok () M' ∧ ∀ r' H'', Nxt r M H' r' M' H'' → Rel g r' M' H'' → Q (.ref Da) H'') ∧
      ∀ x H', J.yld i H x H' → gt x σ0 H' fun σ2 H2 => wipe σ2 vs = σ0 ∧ tDT g tt σ2 H2 fun b H3 =>
        if b = true then tD g te σ2 H3 fun y H4 => ∃ acc, H4 Da = some (.lst acc) ∧ acc.length < sizeLine ∧ N (upd H4 Da (.lst (acc ++ [y]))) else N H3) := by
  rintro i m H ⟨r, M, n0, hDl, hDa, R0, hm, e, k⟩
  cases m with
  | zero =>
    simp only [compL] at e
    split at e
    · rename_i hfin
      cases e
      exact .inl ⟨hit.stop r M' H i n0 R0 hfin, k r H Nxt.refl R0⟩
    · cases e
  | succ m =>
    simp only [compL] at e
    obtain ⟨v, M1, e1, ea⟩ := R.bind_eq e
    obtain ⟨L1, M2, e2, eb⟩ := R.bind_eq ea
    obtain ⟨b, M3, e3, ec⟩ := R.bind_eq eb
    clear e ea eb
    obtain ⟨go, hy⟩ := hit.go r M H i v M1 n0 R0 (by omega) e1
    obtain ⟨em, ew⟩ := ho v L0 M1 L1 M2 e2
    subst em
    refine .inr ⟨go, fun H' => ∃ r M, Nxt r0 M0 H0 r M H' ∧ D < M.length ∧ r D = Da ∧ Rel g r M H' ∧ (i + 1) + m = it.num ∧ compL g it t tt te D L0 m (i + 1) M = .ok () M' ∧ ∀ r' H'', Nxt r M H' r' M' H'' → Rel g r' M' H'' → Q (.ref Da) H'', fun H' h => ⟨m, Nat.lt_succ_self _, h⟩, fun x H1 hx => ?_⟩
    obtain ⟨r1, n1, R1, ex, l1⟩ := hy x H1 hx
    subst ex
    have N1 := n0.trans n1
    have A1 : At g r1 L0 M2 σ0 H1 := ⟨R1, lo.mono N1.le, by rw [hs]; exact (N1.sg lo).symm⟩
    refine ht.ok r1 L0 M2 σ0 H1 v L1 M2 _ A1 l1 e2 fun r2 H2 n2 R2 lo2 => ⟨?_, ?_⟩
    · rw [← wipeL_ok, ew, hw, hs]
      exact (N1.trans n2).sg lo
    have A2 : At g r2 L1 M2 (mS g r2 L1) H2 := At.of R2 lo2
    have fix : ∀ {r' : Nat → Addr} {M' : Mem} {H' : Hp}, Nxt r M H r' M' H' → r' D = Da := fun {r' M' H'} n => by rw [n.eq D hDl]; exact hDa
    split at ec
    · obtain ⟨y, M4, e4, ed⟩ := R.bind_eq ec
      clear ec
      split at ed
      · rename_i acc hacc
        split at ed
        · rename_i hl
          refine tDT_go A2 e3 fun r3 H3 n3 A3 => iteT (tD_go A3 e4 fun r4 H4 n4 A4 l4 => ?_)
          have N4 := ((n1.trans n2).trans n3).trans n4
          have hr4 : r4 D = Da := fix N4
          refine ⟨acc.map (mv g r4), by rw [← hr4]; exact lst_at A4.rel hacc, by rw [List.length_map]; exact line6' hl, ?_⟩
          have wf : Lts M4.length acc := A4.rel.wf _ _ hacc
          have R5 := A4.rel.put (o := .lst (acc ++ [y])) (u := .lst ((acc ++ [y]).map (mv g r4))) (lt_of_get hacc) .lst (wf.app (Lts.cons l4 Lts.nil))
          rw [hr4, List.map_append] at R5
          have N5 : Nxt r M H r4 (M4.set D (.lst (acc ++ [y]))) (upd H4 Da (.lst (acc.map (mv g r4) ++ [y].map (mv g r4)))) := N4.trans (by rw [← hr4]; exact nxt_set A4.rel hacc)
          exact ⟨r4, _, n0.trans N5, Nat.lt_of_lt_of_le hDl N5.le, hr4, R5, by omega, ed, fun r' H' n' R' => k r' H' (N5.trans n') R'⟩
        · cases ed
      · cases ed
    · refine tDT_go A2 e3 fun r3 H3 n3 A3 => iteF ?_
      have N3 := (n1.trans n2).trans n3
      exact ⟨r3, M3, n0.trans N3, Nat.lt_of_lt_of_le hDl N3.le, fix N3, A3.rel, by omega, ec, fun r' H' n' R' => k r' H' (N3.trans n') R'⟩
    · cases ec
end Pa

/-! Comprehensions as expressions; defs; the law's end. -/
namespace Pa
open PySem PySem.Spec
open PyProof.Rows L2
open SX (S)
variable {g : Cfg} {X : Cx}
abbrev Bk (X : Cx) (scope : Scope) (s : Shared) (H : Hp) (C : Addr) (cl : List (Str × Addr)) (fp : List Addr) : Cx := X.blk s H scope (compEnvC scope cl C X.env) fp
theorem Good.blk (G : Good g X) {scope : Scope} {s : Shared} {H : Hp} {C : Addr} {cl : List (Str × Addr)} {fp : List Addr} : Good g (Bk X scope s H C cl fp) := ⟨G.con, G.un, G.calm, G.nd⟩
theorem lc_go {G : Good g X} {gt : TG} {t : DT} {di : DI} {tt te : D} {vs : List Nat} {σ : L2.St} {H : Hp} {Q : VK} (hT : TgOk g X.K t gt) (ho : Own g vs t) (hw : ∀ L : Loc, wipeL (wipeL L vs) vs = wipeL L vs) (h : tD g (dComp g di t tt te vs) σ H Q) : tLc (tI g X.K di) gt (tDT g tt) (tD g te) vs σ H Q := by
  obtain ⟨r, L, M, v, M', A, e, k⟩ := h
  obtain ⟨it, M1, e1, e⟩ := R.bind_eq e
  obtain ⟨u, M2, e2, e⟩ := R.bind_eq e
  cases e
  refine ⟨r, L, M, it, M1, A, e1, fun r1 H1 J n1 R1 hJ D hD => ?_⟩
  have A1 : At g r1 L M1 σ H1 := A.next n1 R1
  have R2 : Rel g (ext r1 M1.length D) (M1 ++ [.lst []]) (upd H1 D (.lst [])) := R1.alloc (o := .lst []) hD .lst Lts.nil
  have lx : M1.length < (M1 ++ [Ob.lst []]).length := by simp
  have es : wipe σ vs = mS g r1 (wipeL L vs) := by rw [A1.sl, wipeL_ok]
  refine ⟨fun i m H => ∃ r M, Nxt r1 M1 H1 r M H ∧ M1.length < M.length ∧ r M1.length = D ∧ Rel g r M H ∧ i + m = it.num ∧ compL g it t tt te M1.length (wipeL L vs) m i M = .ok u M' ∧ ∀ r' H', Nxt r M H r' M' H' → Rel g r' M' H' → Q (.ref D) H',
    ⟨it.num, ext r1 M1.length D, _, nxt_ext hD, lx, ext_at, R2, by omega, e2, fun r' H' n' R' => ?_⟩, fun i m H h => ?_⟩
  · have z := k r' H' (n1.trans ((nxt_ext hD).trans n')) R' (show M1.length < M'.length from Nat.lt_of_lt_of_le lx n'.le)
    have e3 : mv g r' (.ref M1.length) = V.ref D := congrArg V.ref ((n'.eq _ lx).trans ext_at)
    rwa [e3] at z
  · rw [es]
    exact comp_ok (D := M1.length) (Da := D) (σ0 := mS g r1 (wipeL L vs)) hJ hT ho (hw L) (wipeL_lok A1.lok) rfl rfl i m H h
theorem wipe2_1 {i : Nat} (L : Loc) : wipeL (wipeL L [i]) [i] = wipeL L [i] := by
  show (L.set i none).set i none = L.set i none
  rw [List.set_set]
theorem wipe2_2 {i j : Nat} (L : Loc) : wipeL (wipeL L [i, j]) [i, j] = wipeL L [i, j] := by
  show ((((L.set j none).set i none).set j none).set i none) = (L.set j none).set i none
  by_cases h : i = j
  · subst h; simp only [List.set_set]
  · rw [List.set_comm none none h, List.set_set, List.set_set]
theorem wipe2_3 {i j k : Nat} (hij : i ≠ j) (hik : i ≠ k) (hjk : j ≠ k) (L : Loc) : wipeL (wipeL L [i, j, k]) [i, j, k] = wipeL L [i, j, k] := by
  show ((((((L.set k none).set j none).set i none).set k none).set j none).set i none) = ((L.set k none).set j none).set i none
  rw [List.set_comm none none hik, List.set_comm none none hjk, List.set_set, List.set_comm none none hij, List.set_set, List.set_set]
theorem own_tp1 {i j : Nat} (h : i ≠ j) : Own g [i, j] (tTp g [i, j]) := fun v L M L' M' e => by
  simp only [tTp] at e
  split at e
  · rename_i xs hx
    split at e
    · rename_i hl
      cases e
      refine ⟨rfl, ?_⟩
      match xs, hl with
      | [a, b], _ =>
        show ((((L.set i (some a)).set j (some b)).set j none).set i none) = (L.set j none).set i none
        rw [List.set_set, List.set_comm _ _ (Ne.symm h), List.set_set, List.set_comm _ _ h]
    · cases e
  · cases e
theorem own_tp2 {i j : Nat} (h : i ≠ j) : Own g [j, i] (tTp g [i, j]) := fun v L M L' M' e => by
  simp only [tTp] at e
  split at e
  · rename_i xs hx
    split at e
    · rename_i hl
      cases e
      refine ⟨rfl, ?_⟩
      match xs, hl with
      | [a, b], _ =>
        show ((((L.set i (some a)).set j (some b)).set i none).set j none) = (L.set i none).set j none
        rw [List.set_comm (some b) none (Ne.symm h), List.set_set, List.set_set]
    · cases e
  · cases e
theorem pts_no {Y : Cx} : PTs Y [] (tDT g cYes) := ⟨fun pins s σ H Q I ⟨r, L, M, b, M', A, e, k⟩ => by
  cases e
  exact (pts_nil (X := Y)).run pins s σ H Q I (k r H Nxt.refl A.rel)⟩
section
variable {elt tg iter : Expr} {ifs : List Expr} {scope : Scope} {own : List (Str × Nat)} {pos : Pos} {gt : TG} {t : DT} {di : DI} {tt te : D}
structure CompOk (g : Cfg) (X : Cx) (tg iter : Expr) (ifs : List Expr) (elt : Expr) (scope : Scope) (own : List (Str × Nat)) (gt : TG) (t : DT) (di : DI) (tt te : D) : Prop where
  hi : SI g X tg iter di
  ok : blkC X.N X.env.scope scope own = true
  hg : ∀ s H C cl fp, PG (Bk X scope s H C cl fp) tg gt
  ht : ∀ s H C cl fp, PTs (Bk X scope s H C cl fp) ifs (tDT g tt)
  he : ∀ s H C cl fp, SE g (Bk X scope s H C cl fp) elt te
  hT : TgOk g X.K t gt
  ho : Own g (own.map (·.2)) t
  hw : ∀ L : Loc, wipeL (wipeL L (own.map (·.2))) (own.map (·.2)) = wipeL L (own.map (·.2))
theorem se_comp (G : Good g X) (c : CompOk g X tg iter ifs elt scope own gt t di tt te) (hs : ∀ x, foldedSetIterable iter X.env x = pure x := by intro _; rfl) : SE g X (.ListComp elt [⟨tg, iter, ifs, 0⟩] scope pos) (dComp g di t tt te (own.map (·.2))) :=
  pe_imp (pe_lc G.calm G.nd c.hi (blkOk_by c.ok) c.hg c.ht c.he hs) fun _ _ _ h => lc_go (G := G) c.hT c.ho c.hw h
theorem ss_setLc (G : Good g X) {i : Nat} {y : Str} {py spos : Pos} (c : CompOk g X tg iter ifs elt scope own gt t di tt te) (hy : X.N[i]? = some y := by rfl) (hyl : X.env.scope.names.lookup y = some .local := by rfl)
    (hk : X.env.scope.kind = .function := by rfl) (hl : (py.line == pos.line) = true := by rfl) (hl2 : pos.line = spos.line := by rfl) (ha : (scope.names.any fun (n, k) => n == y && (k == .local || k == .cell)) = false := by decide +kernel) (hs : ∀ x, foldedSetIterable iter X.env x = pure x := by intro _; rfl) :
    SS g X (.Assign [.Name y py] (.ListComp elt [⟨tg, iter, ifs, 0⟩] scope pos) spos) (xSet i (dComp g di t tt te (own.map (·.2)))) :=
  ps_imp (ps_setLc G.calm G.nd hy hyl (sw_true hk hyl (by rw [← hl2] at *; exact hl) ha) c.hi (blkOk_by c.ok) c.hg c.ht c.he hs) fun D σ H ⟨r, L, M, f, M', A, e, k⟩ => by
    obtain ⟨v, M1, e1, e⟩ := R.bind_eq e
    cases e
    refine lc_go (G := G) c.hT c.ho c.hw (tD_go A e1 fun r1 H1 n1 A1 l1 => ?_)
    show D.nx (σ.set i (some (mv g r1 v))) H1
    rw [A1.sl, mS_set]
    exact (show Lok _ (L.set i (some v)) → D.nx (mS g r1 (L.set i (some v))) H1 from k r1 H1 n1 A1.rel) (A1.lok.set l1)
end
/-! ### a def -/
def runD (n : Nat) (d : Ds) : Fn := fun args M => (d (args.map some ++ List.replicate (n - args.length) none) M).bind fun f M1 => match f with
  | .nx _ => .ok .non M1
  | .rt v => .ok v M1
  | _ => .no
section
variable {P : Program} {w : World} {K : PySem.W.Frag} {mg : Str → Option Value} {base : Heap}
abbrev DX (P : Program) (w : World) (K : PySem.W.Frag) (mg : Str → Option Value) (base : Heap) (N : List Str) (qual : Str) (scope : Scope) (f : Addr) (cdv : Value) (A : Around) (outer : List Env) (s : Shared) (H : Hp) (E : XK) : Cx := (cxOf CX0 P w K mg base N qual scope f cdv A outer s H E).nox
theorem fn_ok {x qual : Str} {params : Arguments} {body : List Stmt} {scope : Scope} {dvs : List V} {f : Addr} {fd : FuncData} {N ps : List Str} {k : Nat} {d : Ds} (hK : ConOk g K) (F : FunD K x qual params body scope dvs [] f fd) (Sc : FnScope N ps scope)
    (hb : ∀ cdv A outer s H E, Room k A → Good g (DX P w K mg base N qual scope f cdv A outer s H E) → Room k (DX P w K mg base N qual scope f cdv A outer s H E).A → SSs g (DX P w K mg base N qual scope f cdv A outer s H E) body d) : FnOk P w K mg base CX0 (k + 1) f fd ps (spI g (runD N.length d) ps.length) := by
  refine F.ok Sc (fun vs H Q E h => spI_len h) fun cdv A outer s H vs Q E hr h => ?_
  have hr' : Room k (DX P w K mg base N qual scope f cdv A outer s H E).A := hr
  have hA : Room k A := ⟨hr.hd, by have := hr.dp; show A.depth + _ + _ < _; have e : (A.deeper (envOfC qual scope s.heap.objs.size f cdv)).depth = A.depth + 1 := rfl; omega, by have := hr.un; have e : (A.deeper (envOfC qual scope s.heap.objs.size f cdv)).units = A.units + 3 := rfl; omega⟩
  have G : Good g (DX P w K mg base N qual scope f cdv A outer s H E) := ⟨hK, hr.units, rfl, Sc.nd⟩
  refine ⟨_, (hb cdv A outer s H E hA G hr').nox, ?_⟩
  obtain ⟨r, args, M, v, M', rfl, hl, lo, R0, e, k⟩ := h
  obtain ⟨fl, M1, e1, e⟩ := R.bind_eq e
  have es : L2.start N (args.map (mv g r)) = mS g r (args.map some ++ List.replicate (N.length - args.length) none) := by
    unfold L2.start mS
    rw [List.map_append, List.map_map, List.map_map, List.map_replicate, List.length_map]
    rfl
  rw [es]
  have lk : Lok M.length (args.map some ++ List.replicate (N.length - args.length) none) := fun w hw => by
    rcases List.mem_append.mp hw with hw | hw
    · obtain ⟨u, hu, eu⟩ := List.mem_map.mp hw
      cases eu
      exact lo _ hu
    · rw [List.mem_replicate] at hw
      cases hw.2
  refine ⟨r, _, M, fl, M1, At.of R0 lk, e1, fun r1 H1 n1 R1 => ?_⟩
  cases fl with
  | nx L1 =>
    cases e
    intro _
    exact k r1 H1 n1 R1 trivial
  | rt u =>
    cases e
    intro lu
    exact k r1 H1 n1 R1 lu
  | bk L1 => cases e
  | ct L1 => cases e
theorem fn_zero {f : Addr} {fd : FuncData} {ps : List Str} {n : Nat} : FnOk P w K mg base CX0 0 f fd ps (spI g (fun _ _ => .no) ps.length) := by
  refine ⟨fun vs H Q E h => spI_len h, fun A outer s H args us vs Q E hr e0 hb hv h => ?_⟩
  obtain ⟨r, args, M, v, M', _, _, _, _, e, _⟩ := h
  cases e
end
end Pa

/-! A whole text: its defs, its facts, its end. -/
namespace Pa
open PySem PySem.Spec
open PyProof.Rows L2
open SX (S)
def dvOf : Val → He.Dv
  | .bl b => .bl b
  | .int i => .int i
  | .str x => .str (S x)
  | _ => .non
theorem dv_mv {g : Cfg} {r : Nat → Addr} {K : PySem.W.Frag} {v : Val} (h : flat v = true) : (dvOf v).v K = mv g r v := by
  cases v <;> first | rfl | cases h
/-- a def of the text: where it stands, its statement, its parameters, its slots, what it denotes (over the config and the other defs by number) -/
structure FD where
  at_ : Str × Option Str
  name : Str
  qual : Str
  st : Stmt
  ps : List Str
  N : List Str
  den : Cfg → (Nat → Fn) → Ds
  dfl : List Val := []
def FD.D (d : FD) : He.DefD := ⟨d.at_, d.name, d.qual, defArgs d.st, defBody d.st, defScope d.st, d.dfl.map dvOf, []⟩
/-- what K holds of it -/
abbrev FD.At (d : FD) (K : PySem.W.Frag) (f : Addr) (fd : FuncData) : Prop := FunD K d.name d.qual (defArgs d.st) (defBody d.st) (defScope d.st) ((d.dfl.map dvOf).map (He.Dv.v K)) [] f fd
/-- what the defs do, by number, n calls deep -/
def cal (g : Cfg) (fds : List FD) : Nat → Nat → Fn
  | 0, _ => fun _ _ => .no
  | n + 1, i => match fds[i]? with
    | some d => runD d.N.length (d.den g (cal g fds n))
    | none => fun _ _ => .no
/-- a law's text -/
structure Lw where
  fds : List FD
  T : CTab
  I : List (String × String × Bool)
  cs : List String
  frees : List String
  clss : List String
  cons : List (String × Val)
  tups : List (Nat × String × List Val)
  makers : List (String × Nat)
  meths : List (String × String × Nat)
  cfns : List (String × String × Nat)
def Lw.con (lw : Lw) (k : Nat) : Option (Bool × List Val) := (lw.tups.find? fun p => p.1 == k).map fun p => (false, p.2.2)
def Lw.coName (lw : Lw) (k : Nat) : String := ((lw.tups.find? fun p => p.1 == k).map fun p => p.2.1).getD ""
/-- sa: where the script stands, where it is an object of the module; sc: its items then -/
def Lw.cfg (lw : Lw) (K : PySem.W.Frag) (sa : Addr) (sc : Option (List Val)) : Cfg where
  cl := fun c => He.ga K (Str.ofString c)
  ca := fun k => if k = 0 then sa else He.ga K (Str.ofString (lw.coName k))
  con := fun k => if k = 0 then sc.map fun xs => (true, xs) else lw.con k
def Lw.ad (lw : Lw) (K : PySem.W.Frag) (i : Nat) : Addr := match lw.fds[i]? with
  | some d => He.fAd K d.at_
  | none => 0
/-! ### what is checked of the written part -/
def freeB (K : PySem.W.Frag) (x : String) : Bool := decide (PySem.W.nsIn K mainGlobals (Str.ofString x) = some none)
def gloB (K : PySem.W.Frag) (x : Str) : Bool := decide (PySem.W.nsIn K mainGlobals x = some (some (.ref (He.ga K x))))
def valB (v : Val) (u : Value) : Bool := match v, u with
  | .non, .none => true
  | .bl a, .bool b => a == b
  | .int i, .int j _ => decide (i = j)
  | .str s, .str x _ => decide (x = S s)
  | _, _ => false
theorem valB_ok {v : Val} {u : Value} (h : valB v u = true) : (∀ g r, RelV (mv g r v) u) ∧ ∀ n, v.lt n := by
  unfold valB at h
  split at h
  · exact ⟨fun _ _ => rfl, fun _ => trivial⟩
  · rename_i a b
    have e := beq_iff_eq.mp h
    subst e
    exact ⟨fun _ _ => rfl, fun _ => trivial⟩
  · rename_i i j t
    have e := of_decide_eq_true h
    subst e
    exact ⟨fun _ _ => ⟨t, rfl⟩, fun _ => trivial⟩
  · rename_i s x t
    have e := of_decide_eq_true h
    subst e
    exact ⟨fun _ _ => ⟨t, rfl⟩, fun _ => trivial⟩
  · cases h
def conB (K : PySem.W.Frag) (p : String × Val) : Bool := match PySem.W.nsIn K mainGlobals (Str.ofString p.1) with
  | some (some u) => valB p.2 u
  | _ => false
def valsB : List Val → List Value → Bool
  | [], [] => true
  | v :: vs, u :: us => valB v u && valsB vs us
  | _, _ => false
theorem valsB_ok : ∀ {vs : List Val} {us : List Value}, valsB vs us = true → (∀ g r, Vals (vs.map (mv g r)) us) ∧ ∀ n, Lts n vs
  | [], [], _ => ⟨fun _ _ => .nil, fun _ => Lts.nil⟩
  | [], _ :: _, h => by cases h
  | _ :: _, [], h => by cases h
  | v :: vs, u :: us, h => by
    obtain ⟨h1, h2⟩ := Bool.and_eq_true_iff.mp h
    obtain ⟨a, b⟩ := valB_ok h1
    obtain ⟨c, d⟩ := valsB_ok h2
    exact ⟨fun g r => .cons (a g r) (c g r), fun n => Lts.cons (b n) (d n)⟩
def tupB (K : PySem.W.Frag) (p : Nat × String × List Val) : Bool := gloB K (Str.ofString p.2.1) && (p.1 != 0 && (match K.lookup (He.ga K (Str.ofString p.2.1)) with
  | some ⟨.type c, _, .seq its _, _⟩ => decide (c = "tuple") && (decide (its.size ≤ 1000000) && valsB p.2.2 its.toList)
  | _ => false))
def clsB (K : PySem.W.Frag) (C : Addr) : Bool := PySem.W.plainGet K C Str.empty && (PySem.W.hasDictIn K C && (PySem.W.plainOver K C && decide (PySem.W.findIn K (.ref C) "__setattr__" = some (some (.builtin "object.__setattr__")))))
theorem clsB_ok {K : PySem.W.Frag} {C : Addr} (h : clsB K C = true) : Cls K C := by
  simp only [clsB, Bool.and_eq_true, decide_eq_true_eq] at h
  exact ⟨h.1, h.2.1, h.2.2.1, h.2.2.2⟩
def tabB (g : Cfg) (K : PySem.W.Frag) (p : String × List String) : Bool := clsB K (g.cl p.1) && p.2.all fun f => decide (PySem.W.findIn K (.ref (g.cl p.1)) (Str.ofString f) = some none)
def isiB (g : Cfg) (K : PySem.W.Frag) (p : String × String × Bool) : Bool := decide (PySem.W.kitOne K (tyW g p.1) (tyW g p.2.1) = some p.2.2)
def ownB (g : Cfg) (K : PySem.W.Frag) (c : String) : Bool := !bts.contains c && (clsB K (g.cl c) && (decide (PySem.W.findIn K (.ref (g.cl c)) "__class__" = some (some (.builtin "object.__class__"))) && decide (PySem.W.mroIn K (g.cl c) (.type "object") = some true)))
def getB (K : PySem.W.Frag) : Bool := decide (PySem.W.specialIn K (.builtin "object.__class__") "__get__" = some (some (.builtin "getset_descriptor.__get__"))) && decide (PySem.W.takesIn K (.builtin "object.__class__") = some true)
def mkB (lw : Lw) (g : Cfg) (K : PySem.W.Frag) (p : String × Nat) : Bool := PySem.W.makesIn K (g.cl p.1) && (decide (PySem.W.findIn K (.ref (g.cl p.1)) "__init__" = some (some (.ref (lw.ad K p.2)))) && (PySem.W.isFn K (.ref (lw.ad K p.2)) && PySem.W.keepIn K (.ref (g.cl p.1))))
def methB (lw : Lw) (g : Cfg) (K : PySem.W.Frag) (p : String × String × Nat) : Bool := clsB K (g.cl p.1) && (decide (PySem.W.findIn K (.ref (g.cl p.1)) (Str.ofString p.2.1) = some (some (.ref (lw.ad K p.2.2)))) && (PySem.W.isFn K (.ref (lw.ad K p.2.2)) && PySem.W.keepIn K (.ref (lw.ad K p.2.2))))
def cfnB (lw : Lw) (g : Cfg) (K : PySem.W.Frag) (p : String × String × Nat) : Bool := (match PySem.W.findCls K (.ref (g.cl p.1)) (.type "type") (Str.ofString p.2.1) with | some (.val v) => decide (v = .ref (lw.ad K p.2.2)) | _ => false) && (PySem.W.readsIn K (g.cl p.1) (.type "type") &&
  decide (PySem.W.specialIn K (.ref (g.cl p.1)) "__getattribute__" = some (some (.builtin "type.__getattribute__"))))
def lwB (lw : Lw) (K : PySem.W.Frag) : Bool :=
  let g := lw.cfg K 0 none
  lw.frees.all (freeB K) && (lw.clss.all (fun c => gloB K (Str.ofString c)) && (lw.fds.all (fun d => match d.at_.2 with | none => gloB K d.at_.1 | some _ => true) && (lw.cons.all (conB K) && (lw.tups.all (tupB K) && (lw.T.all (tabB g K) && (lw.I.all (isiB g K) &&
    (lw.cs.all (ownB g K) && (getB K && (lw.makers.all (mkB lw g K) && (lw.meths.all (methB lw g K) && lw.cfns.all (cfnB lw g K)))))))))))
/-! ### the facts -/
structure LF (lw : Lw) (g : Cfg) (K : PySem.W.Frag) (mg : Str → Option Value) : Prop where
  con : ConOk g K
  tab : TabOk g K lw.T
  isi : IsiOk g K lw.I lw.cs
  fr : ∀ x ∈ lw.frees, mg (Str.ofString x) = none
  cons : ∀ p ∈ lw.cons, ∃ u, mg (Str.ofString p.1) = some u ∧ (∀ r, RelV (mv g r p.2) u) ∧ ∀ n, p.2.lt n
  tups : ∀ p ∈ lw.tups, mg (Str.ofString p.2.1) = some (.ref (g.ca p.1))
  cls : ∀ c ∈ lw.clss, mg (Str.ofString c) = some (.ref (g.cl c))
  glo : ∀ d ∈ lw.fds, d.at_.2 = none → mg d.at_.1 = some (.ref (He.fAd K d.at_))
  mks : ∀ p ∈ lw.makers, Mk K (g.cl p.1) (lw.ad K p.2)
  meth : ∀ p ∈ lw.meths, Cls K (g.cl p.1) ∧ Meth K (g.cl p.1) (Str.ofString p.2.1) (lw.ad K p.2.2)
  cfn : ∀ p ∈ lw.cfns, CFun K (g.cl p.1) (Str.ofString p.2.1) (lw.ad K p.2.2)
theorem find_uniq {l : List (Nat × String × List Val)} {k : Nat} {p : Nat × String × List Val} (h : l.find? (fun p => p.1 == k) = some p) : p ∈ l ∧ p.1 = k := ⟨List.mem_of_find?_eq_some h, by simpa using List.find?_some h⟩
/-- the constants' numbers are unlike -/
def Lw.ok (lw : Lw) : Bool := decide ((lw.tups.map (·.1)).Nodup)
theorem find_of_nodup : ∀ {l : List (Nat × String × List Val)}, (l.map (·.1)).Nodup → ∀ {p}, p ∈ l → l.find? (fun q => q.1 == p.1) = some p
  | [], _, p, h => by cases h
  | q :: l, hn, p, h => by
    rw [List.map_cons, List.nodup_cons] at hn
    rw [List.find?_cons]
    by_cases e : q.1 = p.1
    · have e2 : (q.1 == p.1) = true := beq_iff_eq.mpr e
      rw [e2]
      rcases List.mem_cons.mp h with rfl | h
      · rfl
      · exact absurd (List.mem_map.mpr ⟨p, h, e.symm⟩) hn.1
    · have e2 : (q.1 == p.1) = false := beq_eq_false_iff_ne.mpr e
      rw [e2]
      rcases List.mem_cons.mp h with rfl | h
      · exact absurd rfl e
      · exact find_of_nodup hn.2 h
theorem lf_of {lw : Lw} {K : PySem.W.Frag} {h : Heap} {mg : Str → Option Value} {sa : Addr} {sc : Option (List Val)} (hok : lw.ok = true) (X : K.In h) (G : h.Ns mainGlobals mg) (b : lwB lw K = true)
    (hs : ∀ xs, sc = some xs → (∀ n, Lts n xs) ∧ ∀ g r H, SqL K H sa (xs.map (mv g r))) : LF lw (lw.cfg K sa sc) K mg := by
  simp only [lwB, Bool.and_eq_true, List.all_eq_true] at b
  obtain ⟨b1, b2, b3, b4, b5, b6, b7, b8, b9, b10, b11, b12⟩ := b
  have hnd := of_decide_eq_true hok
  have glo : ∀ {x : Str}, gloB K x = true → mg x = some (.ref (He.ga K x)) := fun {x} e => PySem.W.mg_of X G (of_decide_eq_true e)
  refine ⟨fun k b xs e => ?_, fun p hp => ?_, ⟨fun s t b e => ?_, fun c hc => ?_, ?_, ?_⟩, fun x hx => PySem.W.mg_none_of X G (of_decide_eq_true (b1 x hx)), fun p hp => ?_, fun p hp => ?_, fun c hc => glo (b2 c hc), fun d hd e => ?_, fun p hp => ?_, fun p hp => ?_, fun p hp => ?_⟩
  · by_cases hk : k = 0
    · subst hk
      have e' : sc.map (fun xs => (true, xs)) = some (b, xs) := e
      obtain ⟨ys, hy, ez⟩ := Option.map_eq_some_iff.mp e'
      cases ez
      obtain ⟨h1, h2⟩ := hs _ hy
      exact ⟨h1, fun r => if_pos rfl ▸ fun H => h2 _ r H⟩
    · have e' : lw.con k = some (b, xs) := by
        have := e
        simpa only [Lw.cfg, hk, if_false] using this
      obtain ⟨p, hp, ez⟩ := Option.map_eq_some_iff.mp e'
      cases ez
      obtain ⟨hm, hpk⟩ := find_uniq hp
      have hb := b5 p hm
      simp only [tupB, Bool.and_eq_true] at hb
      obtain ⟨g1, g2, g3⟩ := hb
      cases q : K.lookup (He.ga K (Str.ofString p.2.1)) with
      | none => rw [q] at g3; cases g3
      | some o =>
        obtain ⟨oc, od, dt, sl⟩ := o
        rw [q] at g3
        cases oc with
        | type c =>
          cases dt with
          | seq its n =>
            simp only [Bool.and_eq_true, decide_eq_true_eq] at g3
            obtain ⟨rfl, hz, hv⟩ := g3
            obtain ⟨v1, v2⟩ := valsB_ok hv
            have hca : (lw.cfg K sa sc).ca k = He.ga K (Str.ofString p.2.1) := by
              have hn : lw.coName k = p.2.1 := by
                unfold Lw.coName
                rw [hp]; rfl
              show (if k = 0 then sa else He.ga K (Str.ofString (lw.coName k))) = _
              rw [if_neg hk, hn]
            refine ⟨v2, fun r => ?_⟩
            rw [if_neg (by decide), hca]
            exact fun H => .inr ⟨_, its, n, q, rfl, rfl, line6 hz, v1 _ r⟩
          | _ => cases g3
        | _ => cases g3
  · have hb := b6 p hp
    simp only [tabB, Bool.and_eq_true, List.all_eq_true, decide_eq_true_eq] at hb
    exact ⟨clsB_ok hb.1, fun f hf => hb.2 f hf⟩
  · obtain ⟨p, hp, ez⟩ := Option.map_eq_some_iff.mp e
    have hm := List.mem_of_find?_eq_some hp
    have hq := List.find?_some hp
    simp only [Bool.and_eq_true, beq_iff_eq] at hq
    have hb := of_decide_eq_true (b7 p hm)
    rw [hq.1, hq.2, ez] at hb
    exact hb
  · have hb := b8 c hc
    simp only [ownB, Bool.and_eq_true, decide_eq_true_eq, Bool.not_eq_true'] at hb
    exact ⟨hb.1, clsB_ok hb.2.1, hb.2.2.1, hb.2.2.2⟩
  · simp only [getB, Bool.and_eq_true, decide_eq_true_eq] at b9
    exact b9.1
  · simp only [getB, Bool.and_eq_true, decide_eq_true_eq] at b9
    exact b9.2
  · have hb := b4 p hp
    unfold conB at hb
    cases q : PySem.W.nsIn K mainGlobals (Str.ofString p.1) with
    | none => rw [q] at hb; cases hb
    | some o =>
      rw [q] at hb
      cases o with
      | none => cases hb
      | some u =>
        obtain ⟨v1, v2⟩ := valB_ok hb
        exact ⟨u, PySem.W.mg_of X G q, fun r => v1 _ r, v2⟩
  · have hb := b5 p hp
    simp only [tupB, Bool.and_eq_true, bne_iff_ne] at hb
    have e := glo hb.1
    have hn : lw.coName p.1 = p.2.1 := by
      unfold Lw.coName
      rw [find_of_nodup hnd hp]; rfl
    show _ = some (Value.ref (if p.1 = 0 then sa else He.ga K (Str.ofString (lw.coName p.1))))
    rw [if_neg hb.2.1, hn]
    exact e
  · have hb := b3 d hd
    rw [e] at hb
    have e2 := glo hb
    rw [e2]
    show _ = some (Value.ref (match d.at_.2 with | none => He.ga K d.at_.1 | some m => He.ma K (He.ga K d.at_.1) m))
    rw [e]
  · have hb := b10 p hp
    simp only [mkB, Bool.and_eq_true, decide_eq_true_eq] at hb
    exact ⟨hb.1, hb.2.1, hb.2.2.1, hb.2.2.2⟩
  · have hb := b11 p hp
    simp only [methB, Bool.and_eq_true, decide_eq_true_eq] at hb
    exact ⟨clsB_ok hb.1, hb.2.1, hb.2.2.1, hb.2.2.2⟩
  · have hb := b12 p hp
    simp only [cfnB, Bool.and_eq_true, decide_eq_true_eq] at hb
    obtain ⟨h1, h2, h3⟩ := hb
    cases q : PySem.W.findCls K (.ref ((lw.cfg K 0 none).cl p.1)) (.type "type") (Str.ofString p.2.1) with
    | none => rw [q] at h1; cases h1
    | some o =>
      rw [q] at h1
      cases o with
      | val v =>
        have e := of_decide_eq_true h1
        subst e
        exact ⟨q, h2, h3⟩
      | _ => cases h1
end Pa

/-! A whole text: its defs, its facts, its end. -/
/-! All defs at once; a law's end. -/
namespace Pa
open PySem PySem.Spec
open PyProof.Rows L2
open SX (S)
variable {lw : Lw} {g : Cfg} {X : Cx} {n : Nat}
/-- what a def's body may use -/
structure Env (lw : Lw) (g : Cfg) (X : Cx) (n : Nat) : Prop where
  G : Good g X
  room : Room (2 * n + 1) X.A
  lf : LF lw g X.K X.mg
  bd : ∀ (i : Nat) (d : FD), lw.fds[i]? = some d → ∀ {f : Addr} {fd : FuncData}, d.At X.K f fd → Binds X.K fd d.ps []
  bdd : ∀ (i : Nat) (d : FD), lw.fds[i]? = some d → d.dfl ≠ [] → ∀ {f : Addr} {fd : FuncData}, d.At X.K f fd → ∃ ds, Vals ((d.dfl.map dvOf).map (He.Dv.v X.K)) ds ∧ Binds X.K fd d.ps ds
  ok : ∀ (i : Nat) (d : FD), lw.fds[i]? = some d → ∃ fd, d.At X.K (lw.ad X.K i) fd ∧ FnOk X.prog X.w X.K X.mg X.base CX0 (2 * n) (lw.ad X.K i) fd d.ps (spI g (cal g lw.fds n i) d.ps.length)
structure FDok (lw : Lw) (d : FD) : Prop where
  sc : FnScope d.N d.ps (defScope d.st)
  bd : ∀ {K : PySem.W.Frag} {f : Addr} {fd : FuncData}, d.At K f fd → Binds K fd d.ps []
  bdd : d.dfl ≠ [] → ∀ {K : PySem.W.Frag} {f : Addr} {fd : FuncData}, d.At K f fd → ∃ ds, Vals ((d.dfl.map dvOf).map (He.Dv.v K)) ds ∧ Binds K fd d.ps ds
  bod : ∀ {g P w K mg base f cdv A outer s H E n}, Env lw g (DX P w K mg base d.N d.qual (defScope d.st) f cdv A outer s H E) n → SSs g (DX P w K mg base d.N d.qual (defScope d.st) f cdv A outer s H E) (defBody d.st) (d.den g (cal g lw.fds n))
theorem Env.r0 (V : Env lw g X n) : Room (2 * n) X.A := V.room.mono (Nat.le_succ _)
theorem Env.callee (V : Env lw g X n) {i : Nat} {d : FD} (h : lw.fds[i]? = some d) : Callee g X (2 * n) (lw.ad X.K i) (cal g lw.fds n i) d.ps.length [] := by
  obtain ⟨fd, F, ok⟩ := V.ok i d h
  exact ⟨⟨fd, d.ps, [], ok, V.bd i d h F, fun _ => .nil, fun _ => Lts.nil⟩, F.kp⟩
theorem Env.calleeD (V : Env lw g X n) {i : Nat} {d : FD} (h : lw.fds[i]? = some d) (hd : d.dfl ≠ [] := by exact fun h => nomatch h) (hf : d.dfl.all flat = true := by rfl) : Callee g X (2 * n) (lw.ad X.K i) (cal g lw.fds n i) d.ps.length d.dfl := by
  obtain ⟨fd, F, ok⟩ := V.ok i d h
  obtain ⟨ds, hv, hb⟩ := V.bdd i d h hd F
  have fl : ∀ v ∈ d.dfl, flat v = true := List.all_eq_true.mp hf
  refine ⟨⟨fd, d.ps, ds, ok, hb, fun r => ?_, fun n v hm => ?_⟩, F.kp⟩
  · have e : (d.dfl.map dvOf).map (He.Dv.v X.K) = d.dfl.map (mv g r) := by
      rw [List.map_map]
      exact List.map_congr_left fun v hm => dv_mv (fl v hm)
    rw [← e]
    exact hv
  · have z := fl v hm
    cases v <;> first | exact trivial | cases z
theorem Env.glo (V : Env lw g X n) {i : Nat} {d : FD} (h : lw.fds[i]? = some d) (e : d.at_.2 = none) : X.mg d.at_.1 = some (.ref (lw.ad X.K i)) := by
  have z := V.lf.glo d (List.mem_of_getElem? h) e
  rw [z]
  unfold Lw.ad
  rw [h]
theorem Env.free (V : Env lw g X n) (i : Nat) {x : String} (h : lw.frees[i]? = some x := by rfl) : X.mg (Str.ofString x) = none := V.lf.fr x (List.mem_of_getElem? h)
theorem Env.cls (V : Env lw g X n) (i : Nat) {c : String} (h : lw.clss[i]? = some c := by rfl) : X.mg (Str.ofString c) = some (.ref (g.cl c)) := V.lf.cls c (List.mem_of_getElem? h)
theorem Env.con (V : Env lw g X n) (i : Nat) {x : String} {v : Val} (h : lw.cons[i]? = some (x, v) := by rfl) : ∃ u, X.mg (Str.ofString x) = some u ∧ (∀ r, RelV (mv g r v) u) ∧ ∀ n, v.lt n := V.lf.cons (x, v) (List.mem_of_getElem? h)
theorem Env.tup (V : Env lw g X n) (i : Nat) {k : Nat} {x : String} {vs : List Val} (h : lw.tups[i]? = some (k, x, vs) := by rfl) : X.mg (Str.ofString x) = some (.ref (g.ca k)) := V.lf.tups (k, x, vs) (List.mem_of_getElem? h)
theorem Env.maker (V : Env lw g X n) (j : Nat) {c : String} {i : Nat} {d : FD} (h : lw.makers[j]? = some (c, i)) (hd : lw.fds[i]? = some d) : Maker g X (2 * n) c (cal g lw.fds n i) d.ps.length [] := by
  obtain ⟨fd, F, ok⟩ := V.ok i d hd
  exact ⟨⟨_, fd, d.ps, [], V.lf.mks (c, i) (List.mem_of_getElem? h), ok, V.bd i d hd F, fun _ => .nil, fun _ => Lts.nil⟩⟩
theorem Env.meth (V : Env lw g X n) (j : Nat) {c m : String} {i : Nat} {d : FD} (h : lw.meths[j]? = some (c, m, i)) (hd : lw.fds[i]? = some d) : MethOk g X (2 * n) d.ps.length c m (cal g lw.fds n i) := by
  obtain ⟨fd, F, ok⟩ := V.ok i d hd
  obtain ⟨h1, h2⟩ := V.lf.meth (c, m, i) (List.mem_of_getElem? h)
  exact ⟨_, fd, d.ps, h1, h2, ok, V.bd i d hd F⟩
theorem Env.cfn (V : Env lw g X n) (j : Nat) {c m : String} {i : Nat} (h : lw.cfns[j]? = some (c, m, i) := by rfl) : CFun X.K (g.cl c) (Str.ofString m) (lw.ad X.K i) := V.lf.cfn (c, m, i) (List.mem_of_getElem? h)
theorem Env.gc (V : Env lw g X n) (i : Nat) {x : String} {v : Val} (h : lw.cons[i]? = some (x, v) := by rfl) : GloC g X (Str.ofString x) v := by
  obtain ⟨u, h1, h2, h3⟩ := V.con i h
  exact ⟨⟨u, h1, h2⟩, h3⟩
theorem Env.gt (V : Env lw g X n) (i : Nat) {k : Nat} {x : String} {vs : List Val} (h : lw.tups[i]? = some (k, x, vs) := by rfl) : GloC g X (Str.ofString x) (.con k) := ⟨⟨_, V.tup i h, fun _ => rfl⟩, fun _ => trivial⟩
theorem ml_cons {k n : Nat} {c m : String} {F : Fn} {T : MTab} (h : MethOk g X k n c m F) (hT : ∀ p ∈ T, MethOk g X k n p.1 m p.2) : ∀ p ∈ (c, F) :: T, MethOk g X k n p.1 m p.2 := fun p hp => by
  rcases List.mem_cons.mp hp with rfl | hp
  · exact h
  · exact hT p hp
/-- a comprehension's inside -/
theorem Env.blk (V : Env lw g X n) {scope : Scope} {s : Shared} {H : Hp} {C : Addr} {cl : List (Str × Addr)} {fp : List Addr} : Env lw g (Bk X scope s H C cl fp) n := ⟨V.G.blk, V.room, V.lf, V.bd, V.bdd, V.ok⟩
theorem all_ok {P : Program} {w : World} {K : PySem.W.Frag} {mg : Str → Option Value} {base : Heap} (hK : LF lw g K mg) (hfd : ∀ (i : Nat) (d : FD), lw.fds[i]? = some d → FDok lw d)
    (F : ∀ (i : Nat) (d : FD), lw.fds[i]? = some d → ∃ fd, d.At K (lw.ad K i) fd) : ∀ (n i : Nat) (d : FD), lw.fds[i]? = some d → ∃ fd, d.At K (lw.ad K i) fd ∧ FnOk P w K mg base CX0 (2 * n) (lw.ad K i) fd d.ps (spI g (cal g lw.fds n i) d.ps.length)
  | 0, i, d, h => by
    obtain ⟨fd, hf⟩ := F i d h
    exact ⟨fd, hf, fn_zero (n := d.ps.length)⟩
  | n + 1, i, d, h => by
    obtain ⟨fd, hf⟩ := F i d h
    refine ⟨fd, hf, ?_⟩
    have e : cal g lw.fds (n + 1) i = runD d.N.length (d.den g (cal g lw.fds n)) := by
      simp only [cal, h]
    rw [e]
    refine fn_ok (k := 2 * n + 1) hK.con hf (hfd i d h).sc fun cdv A outer s H E hA G hr => ?_
    exact (hfd i d h).bod ⟨G, hr, hK, fun i d h => (hfd i d h).bd, fun i d h hne => (hfd i d h).bdd hne, fun i d h => all_ok hK hfd F n i d h⟩
/-- the script in memory -/
inductive Scr (g : Cfg) (ns : List Int) : Val → Mem → Prop
  | con {M : Mem} (h : g.con 0 = some (true, ns.map .int)) : Scr g ns (.con 0) M
  | ref {M : Mem} (h : M[0]? = some (.fz (.lst (ns.map .int)))) : Scr g ns (.ref 0) M
theorem Scr.lst {ns : List Int} {v : Val} {M : Mem} (h : Scr g ns v M) : lstOf g M v = some (ns.map .int) := by
  cases h with
  | con h => simp only [lstOf, h]
  | ref h => simp only [lstOf, h]
theorem Scr.lt {ns : List Int} {v : Val} {M : Mem} (h : Scr g ns v M) : v.lt M.length := by
  cases h with
  | con h => exact trivial
  | ref h => exact lt_of_get h
theorem Scr.app {ns : List Int} {v : Val} {M X : Mem} (h : Scr g ns v M) : Scr g ns v (M ++ X) := by
  cases h with
  | con h => exact .con h
  | ref h => exact .ref (by rw [List.getElem?_append_left (lt_of_get h)]; exact h)
theorem Scr.set {ns : List Int} {v : Val} {M : Mem} {i : Nat} {o o' : Ob} (h : Scr g ns v M) (hi : M[i]? = some o) (hn : ∀ z, o ≠ .fz z) : Scr g ns v (M.set i o') := by
  cases h with
  | con h => exact .con h
  | ref h =>
    refine .ref ?_
    by_cases e : i = 0
    · subst e
      rw [h] at hi
      cases hi
      exact absurd rfl (hn _)
    · rw [List.getElem?_set_ne e]; exact h
/-- a law: what is left is plain -/
theorem law_walk {l : PySem.W.OpenLaw} {m N ix : Nat} {q : Program} {loose : List Str} {XP : (Str → Option Value) → Heap → Prop} {dr : DefRec} {x : Str} {dl : FD}
    (hn : l.most = some m) (hn2 : m ≤ sizeLine) (hdf : dr.params.defaults = []) (hr : Room (2 * N) callerA)
    (hdl : lw.fds[ix]? = some dl) (hat : dl.at_ = (dr.name, none)) (hps : dl.ps = [x]) (hdf2 : dl.dfl = [])
    (hbl : ∀ (kV doc pm : Value) (an : Option Addr) (cdv ct : Value) (us : List Value), us.length = dl.ps.length → bindArgs (PySem.W.fnOf dl.name dl.qual (defArgs dl.st) (defBody dl.st) (defScope dl.st) .none kV doc pm an cdv ct) ⟨us, []⟩ = pure (dl.ps.zip us)) (hok : lw.ok = true) (hfd : ∀ (i : Nat) (d : FD), lw.fds[i]? = some d → FDok lw d)
    (hpl : ∀ (g : Cfg) (M : Mem) (sv : Val) (ns : List Int), (∀ k, k ≠ 0 → g.con k = lw.con k) → ns.length ≤ m → Scr g ns sv M → ∃ M', cal g lw.fds N ix [sv] M = .ok (.bl true) M') :
    PySem.W.WalkO q loose XP (He.hookX 4 [] (lw.fds.map FD.D) [] [] (lwB lw)).says l.row.toRowW dr [] (fun f vs => PySem.call f vs) := by
  refine L2.walk_ofE (l := l) (n := m) (k := 2 * N) (x := x) (CX := L2.CX0) hn hn2 hdf hr ?_ (fun _ _ _ _ z => z)
  intro w mg fa h Y G hmg
  obtain ⟨K, KX, c⟩ := Y
  have F : ∀ (i : Nat) (d : FD), lw.fds[i]? = some d → ∃ fd, d.At K (lw.ad K i) fd := fun i d hd => by
    obtain ⟨fd, hf⟩ := c.t.d.defs (List.mem_map_of_mem (f := FD.D) (List.mem_of_getElem? hd))
    refine ⟨fd, ?_⟩
    unfold Lw.ad
    rw [hd]
    exact hf
  have hfa : fa = lw.ad K ix := by
    have LFa := lf_of (sa := 0) (sc := none) hok KX G c.more fun xs e => by cases e
    have z := LFa.glo dl (List.mem_of_getElem? hdl) (by rw [hat])
    rw [hat] at z
    have z2 := hmg.symm.trans z
    cases z2
    unfold Lw.ad
    rw [hdl, ← hat]
  subst hfa
  obtain ⟨fd, hf⟩ := F ix dl hdl
  refine ⟨K, fd, fun vs H Q E => ∃ (g : Cfg), LF lw g K mg ∧ spI g (cal g lw.fds N ix) dl.ps.length vs H Q E, KX, fun s u => ?_, fun H a ns hl hO hS => ?_, fun base hb1 hb2 => ?_⟩
  · have hf' : FunD K dl.name dl.qual (defArgs dl.st) (defBody dl.st) (defScope dl.st) [] [] (lw.ad K ix) fd := by
      have z := hf
      unfold FD.At at z
      rw [hdf2] at z
      exact z
    have b := FunD.bindsA hf' hbl s [u] (by rw [hps]; rfl)
    rw [hps] at b
    exact b
  · have two : (∃ o, H a = some (.frz o (.lst (ns.map V.int)))) ∨ ∃ (o : Obj) (its : Array Value) (n : Nat), K.lookup a = some o ∧ o.cls = .type "list" ∧ o.dict = none ∧ o.data = .seq its n ∧ its.size ≤ sizeLine ∧ Vals (ns.map V.int) its.toList := by
      rcases hS with (h1 | ⟨o, h1⟩) | h1
      · rcases hO a with h2 | ⟨o, xs, h2⟩
        · rw [h1] at h2; cases h2
        · rw [h1] at h2; cases h2
      · exact .inl ⟨o, h1⟩
      · exact .inr h1
    rcases two with ⟨o, h1⟩ | h1
    · have LFa := lf_of (sa := 0) (sc := none) hok KX G c.more fun xs e => by cases e
      refine ⟨lw.cfg K 0 none, LFa, ?_⟩
      have sc : Scr (lw.cfg K 0 none) ns (.ref 0) [.fz (.lst (ns.map .int))] := .ref rfl
      obtain ⟨M', e⟩ := hpl (lw.cfg K 0 none) [.fz (.lst (ns.map .int))] (.ref 0) ns (fun k hk => by simp only [Lw.cfg, hk, if_false]) hl sc
      refine ⟨fun _ => a, [.ref 0], _, .bl true, M', rfl, by rw [hps]; rfl, Lts.cons (by show 0 < 1; omega) Lts.nil, ?_, e, fun _ _ _ _ _ => rfl⟩
      have em : (ns.map V.int) = (ns.map Val.int).map (mv (lw.cfg K 0 none) fun _ => a) := by rw [List.map_map]; rfl
      refine ⟨fun i ob hi => ?_, fun i j hi hj _ => ?_, fun i ob hi => ?_⟩
      · match i, hi with
        | 0, hi =>
          cases hi
          refine ⟨_, h1, ?_⟩
          rw [em]
          exact .fz .lst
      · have h1 : i < 1 := hi
        have h2 : j < 1 := hj
        omega
      · match i, hi with
        | 0, hi =>
          cases hi
          exact fun v hv => by
            obtain ⟨k, _, rfl⟩ := List.mem_map.mp hv
            exact trivial
    · have hl2 : ∀ n, Lts n (ns.map Val.int) := fun n v hv => by
        obtain ⟨k, _, rfl⟩ := List.mem_map.mp hv
        exact trivial
      have LFa := lf_of (lw := lw) (sa := a) (sc := some (ns.map .int)) hok KX G c.more fun xs e => by
        cases e
        refine ⟨hl2, fun g r H => ?_⟩
        have em : (ns.map Val.int).map (mv g r) = ns.map V.int := by rw [List.map_map]; rfl
        rw [em]
        exact Or.inr h1
      refine ⟨lw.cfg K a (some (ns.map .int)), LFa, ?_⟩
      obtain ⟨M', e⟩ := hpl (lw.cfg K a (some (ns.map .int))) [] (.con 0) ns (fun k hk => by simp only [Lw.cfg, hk, if_false]) hl (.con rfl)
      refine ⟨fun _ => 0, [.con 0], [], .bl true, M', ?_, by rw [hps]; rfl, Lts.cons trivial Lts.nil, ⟨fun i ob hi => ?_, fun i j hi => ?_, fun i ob hi => ?_⟩, e, fun _ _ _ _ _ => rfl⟩
      · rfl
      · cases hi
      · exact absurd hi (Nat.not_lt_zero _)
      · cases hi
  · have all : ∀ g, LF lw g K mg → FnOk l.prog w K mg base CX0 (2 * N) (lw.ad K ix) fd [x] (spI g (cal g lw.fds N ix) dl.ps.length) := fun g hg => by
      obtain ⟨fd2, hf2, ok2⟩ := all_ok (P := l.prog) (w := w) (base := base) hg hfd F N ix dl hdl
      have efd : fd2 = fd := by
        obtain ⟨oc, od, dV, kV, doc, pm, an, cdv, ct, osl, _, lk, _⟩ := hf.ex
        obtain ⟨oc2, od2, dV2, kV2, doc2, pm2, an2, cdv2, ct2, osl2, _, lk2, _⟩ := hf2.ex
        rw [lk] at lk2
        cases lk2
        rfl
      rw [← efd, ← hps]
      exact ok2
    exact ⟨fun vs H Q E ⟨g, hg, h⟩ => (all g hg).len vs H Q E h, fun A outer s H args us vs Q E hr he hb hv ⟨g, hg, h⟩ => (all g hg).run A outer s H args us vs Q E hr he hb hv h⟩
end Pa

/-! A law's end, where classes stand: the facts of the interpreter's own table, too. -/
namespace Pa
open PySem PySem.Spec
open PyProof.Rows L2
open SX (S)
def asS (g : Addr → Option Obj) : List Addr := cStatics :: He.asD g 4
def obS (fn : List He.DefD) (ex : PySem.W.Frag → Bool) (g : Addr → Option Obj) : He.AlD × Bool := (He.obsD [] fn (He.frT g (asS g)), ex (He.frT g (asS g)))
def hkS (fn : List He.DefD) (ex : PySem.W.Frag → Bool) : PySem.W.Hook where
  α := He.AlD × Bool
  obs s := obS fn ex s.heap.get?
  val _ := (He.valD fn, true)
  says _ h := ∃ K : PySem.W.Frag, K.In h ∧ (He.obsD [] fn K, ex K) = (He.valD fn, true)
  of _ _ e := ⟨_, He.frT_in, e⟩
  keeps _ _ _ z k := ⟨z.choose, PySem.W.Frag.In.keeps z.choose_spec.1 k, z.choose_spec.2⟩
theorem obS_eq {fn : List He.DefD} {ex : PySem.W.Frag → Bool} {g : Addr → Option Obj} {s : Shared} (h : ∀ a, g a = s.heap.get? a) : obS fn ex g = (hkS fn ex).obs s := congrArg (obS fn ex) (funext h)
variable {lw : Lw} {g : Cfg} {X : Cx} {n : Nat}
/-- a law: what is left is plain -/
theorem law_walkS {l : PySem.W.OpenLaw} {m N ix : Nat} {q : Program} {loose : List Str} {XP : (Str → Option Value) → Heap → Prop} {dr : DefRec} {x : Str} {dl : FD}
    (hn : l.most = some m) (hn2 : m ≤ sizeLine) (hdf : dr.params.defaults = []) (hr : Room (2 * N) callerA)
    (hdl : lw.fds[ix]? = some dl) (hat : dl.at_ = (dr.name, none)) (hps : dl.ps = [x]) (hdf2 : dl.dfl = [])
    (hbl : ∀ (kV doc pm : Value) (an : Option Addr) (cdv ct : Value) (us : List Value), us.length = dl.ps.length → bindArgs (PySem.W.fnOf dl.name dl.qual (defArgs dl.st) (defBody dl.st) (defScope dl.st) .none kV doc pm an cdv ct) ⟨us, []⟩ = pure (dl.ps.zip us)) (hok : lw.ok = true) (hfd : ∀ (i : Nat) (d : FD), lw.fds[i]? = some d → FDok lw d)
    (hpl : ∀ (g : Cfg) (M : Mem) (sv : Val) (ns : List Int), (∀ k, k ≠ 0 → g.con k = lw.con k) → ns.length ≤ m → Scr g ns sv M → ∃ M', cal g lw.fds N ix [sv] M = .ok (.bl true) M') :
    PySem.W.WalkO q loose XP (hkS (lw.fds.map FD.D) (lwB lw)).says l.row.toRowW dr [] (fun f vs => PySem.call f vs) := by
  refine L2.walk_ofE (l := l) (n := m) (k := 2 * N) (x := x) (CX := L2.CX0) hn hn2 hdf hr ?_ (fun _ _ _ _ z => z)
  intro w mg fa h Y G hmg
  obtain ⟨K, KX, c⟩ := Y
  have F : ∀ (i : Nat) (d : FD), lw.fds[i]? = some d → ∃ fd, d.At K (lw.ad K i) fd := fun i d hd => by
    obtain ⟨fd, hf⟩ := (show He.SaysD [] (lw.fds.map FD.D) K from congrArg (fun z : He.AlD × Bool => z.1) c).defs (List.mem_map_of_mem (f := FD.D) (List.mem_of_getElem? hd))
    refine ⟨fd, ?_⟩
    unfold Lw.ad
    rw [hd]
    exact hf
  have hfa : fa = lw.ad K ix := by
    have LFa := lf_of (sa := 0) (sc := none) hok KX G (congrArg (fun z : He.AlD × Bool => z.2) c) fun xs e => by cases e
    have z := LFa.glo dl (List.mem_of_getElem? hdl) (by rw [hat])
    rw [hat] at z
    have z2 := hmg.symm.trans z
    cases z2
    unfold Lw.ad
    rw [hdl, ← hat]
  subst hfa
  obtain ⟨fd, hf⟩ := F ix dl hdl
  refine ⟨K, fd, fun vs H Q E => ∃ (g : Cfg), LF lw g K mg ∧ spI g (cal g lw.fds N ix) dl.ps.length vs H Q E, KX, fun s u => ?_, fun H a ns hl hO hS => ?_, fun base hb1 hb2 => ?_⟩
  · have hf' : FunD K dl.name dl.qual (defArgs dl.st) (defBody dl.st) (defScope dl.st) [] [] (lw.ad K ix) fd := by
      have z := hf
      unfold FD.At at z
      rw [hdf2] at z
      exact z
    have b := FunD.bindsA hf' hbl s [u] (by rw [hps]; rfl)
    rw [hps] at b
    exact b
  · have two : (∃ o, H a = some (.frz o (.lst (ns.map V.int)))) ∨ ∃ (o : Obj) (its : Array Value) (n : Nat), K.lookup a = some o ∧ o.cls = .type "list" ∧ o.dict = none ∧ o.data = .seq its n ∧ its.size ≤ sizeLine ∧ Vals (ns.map V.int) its.toList := by
      rcases hS with (h1 | ⟨o, h1⟩) | h1
      · rcases hO a with h2 | ⟨o, xs, h2⟩
        · rw [h1] at h2; cases h2
        · rw [h1] at h2; cases h2
      · exact .inl ⟨o, h1⟩
      · exact .inr h1
    rcases two with ⟨o, h1⟩ | h1
    · have LFa := lf_of (sa := 0) (sc := none) hok KX G (congrArg (fun z : He.AlD × Bool => z.2) c) fun xs e => by cases e
      refine ⟨lw.cfg K 0 none, LFa, ?_⟩
      have sc : Scr (lw.cfg K 0 none) ns (.ref 0) [.fz (.lst (ns.map .int))] := .ref rfl
      obtain ⟨M', e⟩ := hpl (lw.cfg K 0 none) [.fz (.lst (ns.map .int))] (.ref 0) ns (fun k hk => by simp only [Lw.cfg, hk, if_false]) hl sc
      refine ⟨fun _ => a, [.ref 0], _, .bl true, M', rfl, by rw [hps]; rfl, Lts.cons (by show 0 < 1; omega) Lts.nil, ?_, e, fun _ _ _ _ _ => rfl⟩
      have em : (ns.map V.int) = (ns.map Val.int).map (mv (lw.cfg K 0 none) fun _ => a) := by rw [List.map_map]; rfl
      refine ⟨fun i ob hi => ?_, fun i j hi hj _ => ?_, fun i ob hi => ?_⟩
      · match i, hi with
        | 0, hi =>
          cases hi
          refine ⟨_, h1, ?_⟩
          rw [em]
          exact .fz .lst
      · have h1 : i < 1 := hi
        have h2 : j < 1 := hj
        omega
      · match i, hi with
        | 0, hi =>
          cases hi
          exact fun v hv => by
            obtain ⟨k, _, rfl⟩ := List.mem_map.mp hv
            exact trivial
    · have hl2 : ∀ n, Lts n (ns.map Val.int) := fun n v hv => by
        obtain ⟨k, _, rfl⟩ := List.mem_map.mp hv
        exact trivial
      have LFa := lf_of (lw := lw) (sa := a) (sc := some (ns.map .int)) hok KX G (congrArg (fun z : He.AlD × Bool => z.2) c) fun xs e => by
        cases e
        refine ⟨hl2, fun g r H => ?_⟩
        have em : (ns.map Val.int).map (mv g r) = ns.map V.int := by rw [List.map_map]; rfl
        rw [em]
        exact Or.inr h1
      refine ⟨lw.cfg K a (some (ns.map .int)), LFa, ?_⟩
      obtain ⟨M', e⟩ := hpl (lw.cfg K a (some (ns.map .int))) [] (.con 0) ns (fun k hk => by simp only [Lw.cfg, hk, if_false]) hl (.con rfl)
      refine ⟨fun _ => 0, [.con 0], [], .bl true, M', ?_, by rw [hps]; rfl, Lts.cons trivial Lts.nil, ⟨fun i ob hi => ?_, fun i j hi => ?_, fun i ob hi => ?_⟩, e, fun _ _ _ _ _ => rfl⟩
      · rfl
      · cases hi
      · exact absurd hi (Nat.not_lt_zero _)
      · cases hi
  · have all : ∀ g, LF lw g K mg → FnOk l.prog w K mg base CX0 (2 * N) (lw.ad K ix) fd [x] (spI g (cal g lw.fds N ix) dl.ps.length) := fun g hg => by
      obtain ⟨fd2, hf2, ok2⟩ := all_ok (P := l.prog) (w := w) (base := base) hg hfd F N ix dl hdl
      have efd : fd2 = fd := by
        obtain ⟨oc, od, dV, kV, doc, pm, an, cdv, ct, osl, _, lk, _⟩ := hf.ex
        obtain ⟨oc2, od2, dV2, kV2, doc2, pm2, an2, cdv2, ct2, osl2, _, lk2, _⟩ := hf2.ex
        rw [lk] at lk2
        cases lk2
        rfl
      rw [← efd, ← hps]
      exact ok2
    exact ⟨fun vs H Q E ⟨g, hg, h⟩ => (all g hg).len vs H Q E h, fun A outer s H args us vs Q E hr he hb hv ⟨g, hg, h⟩ => (all g hg).run A outer s H args us vs Q E hr he hb hv h⟩
end Pa

/-! More constructs: str * int, dicts' methods, displays of dicts. -/
namespace Pa
open PySem PySem.Spec
open PyProof.Rows L2
open SX (S)
variable {g : Cfg} {X : Cx}
/-! ### str * int -/
def sMul (x y : Val) (M : Mem) : R Val := match x, y with
  | .str s, .int k => if -1000000 ≤ k ∧ k ≤ 1000000 ∧ s.length ≤ 1000000 ∧ s.length * k.toNat ≤ 1000000 then .ok (.str ((List.replicate k.toNat s).flatten)) M else .no
  | _, _ => .no
def oMul (x y : Val) (M : Mem) : R Val := match x with
  | .str _ => sMul x y M
  | .ref _ => lMul x y M
  | _ => iMul x y M
theorem foldl_S (s : List Nat) (m : Nat) : (List.replicate m (S s).cps).foldl (· ++ ·) #[] = ((List.replicate m s).flatten).toArray := by
  have f : ∀ (m : Nat) (acc : Array Nat), (List.replicate m (S s).cps).foldl (· ++ ·) acc = acc ++ ((List.replicate m s).flatten).toArray := fun m => by
    induction m with
    | zero => intro acc; simp
    | succ m ih =>
      intro acc
      rw [List.replicate_succ, List.foldl_cons, ih, List.replicate_succ, List.flatten_cons]
      apply Array.ext'
      simp [S]
  rw [f m #[]]
  simp
theorem mul_S (s : List Nat) (k : Int) : Txt.mul (S s) k = S ((List.replicate k.toNat s).flatten) := by
  unfold Txt.mul
  by_cases h1 : k < 1
  · rw [if_pos h1]
    have : k.toNat = 0 := by omega
    rw [this]; rfl
  · rw [if_neg h1]
    by_cases h2 : (k == 1 || (S s).length == 0) = true
    · rw [if_pos h2]
      rcases Bool.or_eq_true_iff.mp h2 with h | h
      · have := beq_iff_eq.mp h
        subst this
        simp
      · have h := beq_iff_eq.mp h
        rw [SX.S_len] at h
        have := List.length_eq_zero_iff.mp h
        subst this
        simp
    · rw [if_neg h2, foldl_S]
theorem op_smul : OpR X (binaryOp .Mult) (fun x y H Q => ∃ a n, x = .str a ∧ y = .int n ∧ MulOk a n ∧ Q (.str (Txt.mul a n)) H) := by
  intro pins s σ H x y v u Q I rx ry h
  obtain ⟨a, n, rfl, rfl, hm, q⟩ := h
  obtain ⟨t, rfl⟩ := rx
  obtain ⟨t2, rfl⟩ := ry
  exact SB.mul hm fun t' k => ⟨.str _, H, I.tok _, ⟨_, rfl⟩, q⟩
theorem mulok {s : List Nat} {k : Int} (h1 : -1000000 ≤ k) (h2 : k ≤ 1000000) (h3 : s.length ≤ 1000000) (h : s.length * k.toNat ≤ 1000000) : MulOk (S s) k := by
  refine ⟨?_, fun hn _ => ?_, fun _ _ => ?_⟩
  · simp only [Bool.or_eq_false_iff, decide_eq_false_iff_not]
    omega
  · rw [SX.S_len]
    intro hc
    have e2 : ((2 : Int) ^ 63 - 1) = 9223372036854775807 := by decide
    rw [e2] at hc
    have e : (9223372036854775807 : Int) / k ≥ 9223372036854775807 / 1000000 := by
      rw [ge_iff_le, Int.le_ediv_iff_mul_le (by omega)]
      have : (9223372036854775807 / 1000000 : Int) * k ≤ 9223372036854 * 1000000 := Int.mul_le_mul (by decide) h2 (by omega) (by decide)
      omega
    omega
  · rw [SX.S_len]
    unfold Builtin.Str.tooLong
    rw [sizeLine_eq]
    simp
    omega
theorem sMul_s : OpS g sMul (fun x y H Q => ∃ a n, x = .str a ∧ y = .int n ∧ MulOk a n ∧ Q (.str (Txt.mul a n)) H) := by
  intro r M H x y v M' Q R lx ly e k
  unfold sMul at e
  split at e
  · rename_i s n
    split at e
    · rename_i h
      cases e
      refine ⟨S s, n, rfl, rfl, mulok h.1 h.2.1 h.2.2.1 h.2.2.2, ?_⟩
      rw [mul_S]
      exact stay (v := .str _) R trivial k
    · cases e
  · cases e
theorem op_lmul : OpR X (binaryOp .Mult) rRep := op_rep
theorem lMul_s : OpS g lMul rRep := by
  intro r M H x y v M' Q R lx ly e k
  unfold lMul at e
  split at e
  · rename_i a n
    split at e
    · rename_i xs hm
      split at e
      · rename_i h
        cases e
        refine ⟨r a, n, xs.map (mv g r), rfl, rfl, lst_at R hm, by omega, by omega, ?_, fun p hp => ?_⟩
        · rw [List.length_map]
          have : (1000000 : Nat) ≤ sizeLine := by rw [sizeLine_eq]; decide
          exact Nat.le_trans h.2.2 this
        · have em : (List.replicate n.toNat (xs.map (mv g r))).flatten = ((List.replicate n.toNat xs).flatten).map (mv g r) := by
            rw [List.map_flatten, List.map_replicate]
          rw [em]
          refine alloc_fin R .lst (fun v hv => ?_) k p hp
          obtain ⟨l, hl, hv⟩ := List.mem_flatten.mp hv
          rw [List.mem_replicate] at hl
          rw [hl.2] at hv
          exact R.wf a _ hm v hv
      · cases e
    · cases e
  · cases e
theorem se_mulA {a b : Expr} {da db : D} {pos : Pos} (ha : SE g X a da) (hb : SE g X b db) : SE g X (.BinOp a .Mult b pos) (dB oMul da db) :=
  se_op (op_smul.or (op_lmul.or op_mul)) (fun r M H x y v M' Q R lx ly e k => by
    cases x with
    | str s => exact .inl (sMul_s r M H (.str s) y v M' Q R lx ly e k)
    | ref i => exact .inr (.inl (lMul_s r M H (.ref i) y v M' Q R lx ly e k))
    | non => exact .inr (.inr (iMul_s r M H .non y v M' Q R lx ly e k))
    | bl b => exact .inr (.inr (iMul_s r M H (.bl b) y v M' Q R lx ly e k))
    | int i => exact .inr (.inr (iMul_s r M H (.int i) y v M' Q R lx ly e k))
    | con i => exact .inr (.inr (iMul_s r M H (.con i) y v M' Q R lx ly e k))) ha hb
/-! ### dicts -/
def isD (M : Mem) : Val → Bool
  | .ref a => (dkOf M a).isSome || (dtOf M a).isSome
  | _ => false
theorem isD_ok {r : Nat → Addr} {M : Mem} {H : Hp} {x : Val} (R : Rel g r M H) (h : isD M x = true) : ∃ i, x = .ref i ∧ IsD H (r i) := by
  cases x with
  | ref i =>
    refine ⟨i, rfl, ?_⟩
    rcases Bool.or_eq_true_iff.mp h with h | h
    · obtain ⟨kvs, e⟩ := Option.isSome_iff_exists.mp h
      exact .inl ⟨_, (dkOf_ok R e).1⟩
    · obtain ⟨kvs, e⟩ := Option.isSome_iff_exists.mp h
      exact .inr ⟨_, (dtOf_ok R e).1⟩
  | _ => cases h
def dGet1 (d k : D) : D := fun L M => (d L M).bind fun x M1 => if isD M1 x = true then (k L M1).bind fun y M2 => (match dgo M2 x y with
  | some o => .ok (o.getD .non) M2
  | none => .no) else .no
def dGet2 (d k z : D) : D := fun L M => (d L M).bind fun x M1 => if isD M1 x = true then (k L M1).bind fun y M2 => (z L M2).bind fun w M3 => (match dgo M3 x y with
  | some o => .ok (o.getD w) M3
  | none => .no) else .no
section
variable {o e f : Expr} {d k z : D} {apos cpos : Pos}
theorem se_get1 (G : Good g X) (ho : SE g X o d) (he : SE g X e k) (m : M1 X o "get" apos e cpos := by exact ⟨rfl, rfl, rfl, rfl⟩) : SE g X (.Call (.Attribute o "get" apos) [e] [] cpos) (dGet1 d k) :=
  pe_imp (pe_dget1 G.u1 ho he m) fun σ H Q ⟨r, L, M, v, M', A, e, q⟩ => by
    obtain ⟨x, M1, e1, e⟩ := R.bind_eq e
    refine tD_go A e1 fun r1 H1 n1 A1 l1 => ?_
    split at e
    · rename_i hd
      obtain ⟨y, M2, e2, e⟩ := R.bind_eq e
      obtain ⟨i, rfl, hi⟩ := isD_ok A1.rel hd
      refine ⟨r1 i, rfl, hi, tD_go A1 e2 fun r2 H2 n2 A2 l2 => ?_⟩
      split at e
      · rename_i oo hg
        cases e
        obtain ⟨p, ep, hp, hl⟩ := dgo_ok A2.rel hg
        have ei : p = r1 i := by
          have := n2.eq i l1
          cases ep
          exact this
        subst ei
        refine ⟨_, hp, ?_⟩
        cases oo with
        | none => exact q r2 H2 (n1.trans n2) A2.rel trivial
        | some w => exact q r2 H2 (n1.trans n2) A2.rel (hl w rfl)
      · cases e
    · cases e
theorem se_get2 (G : Good g X) (ho : SE g X o d) (he : SE g X e k) (hf : SE g X f z) (m : M2 X o "get" apos e f cpos := by exact ⟨rfl, rfl, rfl, rfl⟩) : SE g X (.Call (.Attribute o "get" apos) [e, f] [] cpos) (dGet2 d k z) :=
  pe_imp (pe_dget2 G.u1 ho he hf m) fun σ H Q ⟨r, L, M, v, M', A, e, q⟩ => by
    obtain ⟨x, M1, e1, e⟩ := R.bind_eq e
    refine tD_go A e1 fun r1 H1 n1 A1 l1 => ?_
    split at e
    · rename_i hd
      obtain ⟨y, M2, e2, e⟩ := R.bind_eq e
      obtain ⟨w, M3, e3, e⟩ := R.bind_eq e
      obtain ⟨i, rfl, hi⟩ := isD_ok A1.rel hd
      refine ⟨r1 i, rfl, hi, tD_go A1 e2 fun r2 H2 n2 A2 l2 => tD_go A2 e3 fun r3 H3 n3 A3 l3 => ?_⟩
      split at e
      · rename_i oo hg
        cases e
        obtain ⟨p, ep, hp, hl⟩ := dgo_ok A3.rel hg
        have ei : p = r1 i := by
          have := (n2.trans n3).eq i l1
          cases ep
          exact this
        subst ei
        rw [n3.mv l2] at hp
        refine ⟨_, hp, ?_⟩
        cases oo with
        | none => exact q r3 H3 ((n1.trans n2).trans n3) A3.rel l3
        | some w => exact q r3 H3 ((n1.trans n2).trans n3) A3.rel (hl w rfl)
      · cases e
    · cases e
end
theorem dk_at {r : Nat → Addr} {M : Mem} {H : Hp} {a : Nat} {kvs : List (DKey × Val)} (R : Rel g r M H) (e : M[a]? = some (.dk kvs)) : H (r a) = some (.dK (kvs.map (mkv g r))) := by
  obtain ⟨u, hu, x⟩ := R.obj a _ e
  cases x
  exact hu
theorem le_line {n : Nat} (h : n < 1000000) : n < sizeLine := by
  rw [sizeLine_eq]
  omega
def dSetd (d k z : D) : D := fun L M => (d L M).bind fun x M1 => if isD M1 x = true then (k L M1).bind fun y M2 => (z L M2).bind fun w M3 => (match x with
  | .ref a => (match M3[a]? with
    | some (.dk kvs) => (match keyOf y with
      | some key => if kvs.length < 1000000 then (match lkp kvs key with
        | some v => .ok v M3
        | none => .ok w (M3.set a (.dk (putk kvs key w)))) else .no
      | none => .no)
    | _ => .no)
  | _ => .no) else .no
theorem se_setd {o e f : Expr} {d k z : D} {apos cpos : Pos} (ho : SE g X o d) (he : SE g X e k) (hf : SE g X f z) (m : M2 X o "setdefault" apos e f cpos := by exact ⟨rfl, rfl, rfl, rfl⟩) : SE g X (.Call (.Attribute o "setdefault" apos) [e, f] [] cpos) (dSetd d k z) :=
  pe_imp (pe_dsetd ho he hf m) fun σ H Q ⟨r, L, M, v, M', A, e, q⟩ => by
    obtain ⟨x, M1, e1, e⟩ := R.bind_eq e
    refine tD_go A e1 fun r1 H1 n1 A1 l1 => ?_
    split at e
    · rename_i hd
      obtain ⟨y, M2, e2, e⟩ := R.bind_eq e
      obtain ⟨w, M3, e3, e⟩ := R.bind_eq e
      obtain ⟨i, rfl, hi⟩ := isD_ok A1.rel hd
      refine ⟨r1 i, rfl, hi, tD_go A1 e2 fun r2 H2 n2 A2 l2 => tD_go A2 e3 fun r3 H3 n3 A3 l3 => ?_⟩
      simp only at e
      split at e
      · rename_i kvs hm
        split at e
        · rename_i key hk
          split at e
          · rename_i hl
            have hH := dk_at A3.rel hm
            rw [(n2.trans n3).eq i l1] at hH
            refine ⟨_, mk key, hH, keyOf_ok hk, by rw [List.length_map]; exact le_line hl, fun v hv => ?_, fun hv => ?_⟩
            · rw [show valV (kvs.map (mkv g r3)) (mk key) = (lkp kvs key).map (mv g r3) from valV_map (f := mk) (h := mv g r3) (fun _ _ => mk_inj) key kvs] at hv
              obtain ⟨v0, h0, rfl⟩ := Option.map_eq_some_iff.mp hv
              rw [h0] at e
              cases e
              refine q r3 H3 ((n1.trans n2).trans n3) A3.rel ?_
              obtain ⟨p, hp, rfl⟩ := lkp_mem h0
              exact A3.rel.wf i _ hm p hp
            · rw [show valV (kvs.map (mkv g r3)) (mk key) = (lkp kvs key).map (mv g r3) from valV_map (f := mk) (h := mv g r3) (fun _ _ => mk_inj) key kvs] at hv
              have h0 := Option.map_eq_none_iff.mp hv
              rw [h0] at e
              cases e
              have R4 : Rel g r3 (M3.set i (.dk (putk kvs key v))) (upd H3 (r3 i) (.dK ((putk kvs key v).map (mkv g r3)))) := A3.rel.put (lt_of_get hm) .dk fun p hp => by
                rcases putk_mem hp with z | z
                · rw [z]; exact l3
                · exact A3.rel.wf i _ hm p z
              have ee : (putk kvs key v).map (mkv g r3) = putK (kvs.map (mkv g r3)) (mk key) (mv g r3 v) := (putK_map (f := mk) (h := mv g r3) (fun _ _ => mk_inj) key v kvs).symm
              rw [ee, (n2.trans n3).eq i l1] at R4
              exact q r3 _ (((n1.trans n2).trans n3).trans (Nxt.of_len (List.length_set ..) (by rw [← (n2.trans n3).eq i l1]; exact keep_put A3.rel hm rfl))) R4 (by rw [List.length_set]; exact l3)
          · cases e
        · cases e
      · cases e
    · cases e
/-! ### {k: v, ..} -/
def prs : List (D × D) → Loc → Mem → R (List (DKey × Val))
  | [], _, M => .ok [] M
  | p :: r, L, M => (p.1 L M).bind fun x M1 => (p.2 L M1).bind fun y M2 => (prs r L M2).bind fun ps M3 => (match keyOf x with
    | some k => .ok ((k, y) :: ps) M3
    | none => .no)
def dDisp (ps : List (D × D)) : D := fun L M => (prs ps L (M ++ [.dk []])).bind fun kvs M1 => if kvs.length ≤ 15 then (match M1[M.length]? with
  | some (.dk []) => .ok (.ref M.length) (M1.set M.length (.dk (kvs.foldl (fun acc p => putk acc p.1 p.2) [])))
  | _ => .no) else .no
def tPs (g : Cfg) (ps : List (D × D)) : List (TE × TE) := ps.map fun p => (tD g p.1, tD g p.2)
theorem prs_go : ∀ {ps : List (D × D)} {r : Nat → Addr} {L : Loc} {M M' : Mem} {σ : L2.St} {H : Hp} {kvs : List (DKey × Val)} {Q : List (V × V) → Hp → Prop}, At g r L M σ H → prs ps L M = .ok kvs M' →
    (∀ r' H', Nxt r M H r' M' H' → At g r' L M' σ H' → (∀ p ∈ kvs, p.2.lt M'.length) → Q (kvs.map fun p => (kV (mk p.1), mv g r' p.2)) H') → tPairs (tPs g ps) σ H Q
  | [], r, L, M, M', σ, H, kvs, Q, A, e, k => by
    cases e
    exact k r H Nxt.refl A fun p hp => by cases hp
  | p :: ps, r, L, M, M', σ, H, kvs, Q, A, e, k => by
    simp only [prs] at e
    obtain ⟨x, M1, e1, e⟩ := R.bind_eq e
    obtain ⟨y, M2, e2, e⟩ := R.bind_eq e
    obtain ⟨qs, M3, e3, e⟩ := R.bind_eq e
    split at e
    · rename_i key hk
      cases e
      refine tD_go A e1 fun r1 H1 n1 A1 l1 => tD_go A1 e2 fun r2 H2 n2 A2 l2 => prs_go A2 e3 fun r3 H3 n3 A3 l3 => ?_
      have z := k r3 H3 ((n1.trans n2).trans n3) A3 fun p hp => by
        rcases List.mem_cons.mp hp with rfl | hp
        · exact l2.mono n3.le
        · exact l3 p hp
      rw [List.map_cons] at z
      rw [keyOf_ok hk]
      have ey : mv g r3 y = mv g r2 y := n3.mv l2
      rw [ey] at z
      exact z
    · cases e
inductive SPs (g : Cfg) (X : Cx) (pos : Pos) : List (Option Expr) → List Expr → List (D × D) → Prop
  | nil : SPs g X pos [] [] []
  | cons {k v : Expr} {dk dv : D} {ks : List (Option Expr)} {vs : List Expr} {ps : List (D × D)} : SE g X k dk → SE g X v dv → SPs g X pos ks vs ps → SPs g X pos (some k :: ks) (v :: vs) ((dk, dv) :: ps)
theorem SPs.pps {pos : Pos} {ks : List (Option Expr)} {vs : List Expr} {ps : List (D × D)} (h : SPs g X pos ks vs ps) : PPs X pos ks vs (tPs g ps) := by
  induction h with
  | nil => exact pps_nil
  | cons h1 h2 _ ih => exact pps_cons h1 h2 ih
theorem merge_ok (r : Nat → Addr) : ∀ (kvs acc : List (DKey × Val)), mergeK (acc.map (mkv g r)) (kvs.map (mkv g r)) = (kvs.foldl (fun acc p => putk acc p.1 p.2) acc).map (mkv g r)
  | [], acc => rfl
  | p :: kvs, acc => by
    rw [List.foldl_cons, ← merge_ok r kvs (putk acc p.1 p.2)]
    have ee : (putk acc p.1 p.2).map (mkv g r) = putK (acc.map (mkv g r)) (mk p.1) (mv g r p.2) := (putK_map (f := mk) (h := mv g r) (fun _ _ => mk_inj) p.1 p.2 acc).symm
    rw [ee]; rfl
theorem fold_mem : ∀ (kvs acc : List (DKey × Val)) {n : Nat}, (∀ p ∈ kvs, p.2.lt n) → (∀ p ∈ acc, p.2.lt n) → ∀ p ∈ kvs.foldl (fun acc p => putk acc p.1 p.2) acc, p.2.lt n
  | [], acc, n, _, h2, p, hp => h2 p hp
  | q :: kvs, acc, n, h1, h2, p, hp => fold_mem kvs (putk acc q.1 q.2) (fun p hp => h1 p (List.mem_cons_of_mem _ hp)) (fun p hp => by
      rcases putk_mem hp with z | z
      · rw [z]; exact h1 q (List.mem_cons_self ..)
      · exact h2 p z) p hp
theorem se_disp {pos : Pos} {ks : List (Option Expr)} {vs : List Expr} {ps : List (D × D)} (h : SPs g X pos ks vs ps) (hall : ks.all (·.isSome) = true := by rfl) (hl : ks.length = vs.length := by rfl) (h0 : ks ≠ [] := by exact fun h => nomatch h) (h15 : ks.length ≤ 15 := by decide) : SE g X (.Dict ks vs pos) (dDisp ps) :=
  pe_imp (pe_disp h.pps hall hl h0 h15) fun σ H Q ⟨r, L, M, v, M', A, e, q⟩ p hp => by
    obtain ⟨kvs, M1, e1, e⟩ := R.bind_eq e
    have R1 : Rel g (ext r M.length p) (M ++ [.dk []]) (upd H p (.dK [])) := A.rel.alloc (o := .dk []) hp .dk fun _ h => by cases h
    refine prs_go (A.next (nxt_ext hp) R1) e1 fun r3 H3 n3 A3 l3 => ?_
    have lx : M.length < (M ++ [Ob.dk []]).length := by simp
    have e3 : r3 M.length = p := (n3.eq _ lx).trans ext_at
    split at e
    · rename_i h15
      split at e
      · rename_i hm
        cases e
        have hH := dk_at A3.rel hm
        rw [e3] at hH
        refine ⟨hH, kvs.map (mkv g r3), by rw [List.map_map]; rfl, by rw [List.length_map]; exact h15, ?_⟩
        have R4 : Rel g r3 (M1.set M.length (.dk (kvs.foldl (fun acc p => putk acc p.1 p.2) []))) (upd H3 (r3 M.length) (.dK ((kvs.foldl (fun acc p => putk acc p.1 p.2) []).map (mkv g r3)))) :=
          A3.rel.put (lt_of_get hm) .dk fun p hp => fold_mem kvs [] l3 (fun _ h => by cases h) p hp
        rw [← merge_ok r3 kvs [], e3] at R4
        have z := q r3 _ ((nxt_ext (o := .dk []) hp).trans n3 |>.trans (Nxt.of_len (List.length_set ..) (keep_upd hH))) R4 (show M.length < (M1.set M.length _).length by rw [List.length_set]; exact Nat.lt_of_lt_of_le lx n3.le)
        have e4 : mv g r3 (.ref M.length) = V.ref p := congrArg V.ref e3
        rwa [e4] at z
      · cases e
    · cases e
end Pa

/-! More built-ins: clear, reverse, index of a list; max, min of one; sorted ints. -/
namespace Pa
open PySem PySem.Spec
open PyProof.Rows L2
open SX (S)
variable {g : Cfg} {X : Cx}
theorem ml_nil {k n : Nat} {m : String} : ∀ p ∈ ([] : MTab), MethOk g X k n p.1 m p.2 := fun _ h => by cases h
def mClear (x : Val) (vs : List Val) (M : Mem) : R Val := match x, vs with
  | .ref a, [] => (match M[a]? with
    | some (.lst _) => .ok .non (M.set a (.lst []))
    | _ => .no)
  | _, _ => .no
theorem mClear_s : MtS g mClear rClear := by
  intro r M H x vs v M' Q R lx lv e k
  unfold mClear at e
  split at e
  · rename_i a
    split at e
    · rename_i xs hm
      cases e
      refine ⟨_, _, rfl, rfl, lst_at R hm, ?_⟩
      exact put_fin (v := .non) R hm (.lst (xs := [])) Lts.nil trivial k
    · cases e
  · cases e
def mReverse (x : Val) (vs : List Val) (M : Mem) : R Val := match x, vs with
  | .ref a, [] => (match M[a]? with
    | some (.lst xs) => .ok .non (M.set a (.lst xs.reverse))
    | _ => .no)
  | _, _ => .no
theorem mReverse_s : MtS g mReverse rReverse := by
  intro r M H x vs v M' Q R lx lv e k
  unfold mReverse at e
  split at e
  · rename_i a
    split at e
    · rename_i xs hm
      cases e
      have wf : Lts M.length xs := R.wf _ _ hm
      refine ⟨_, _, rfl, rfl, lst_at R hm, ?_⟩
      have z := put_fin (v := .non) R hm (.lst (xs := xs.reverse)) (Lts.sub wf fun y hy => List.mem_reverse.mp hy) trivial k
      rw [List.map_reverse] at z
      exact z
    · cases e
  · cases e
/-- the first place of an item like y -/
def ixOf (y : Val) : List Val → Nat → Option Nat
  | [], _ => none
  | z :: zs, n => if eqF z y = true then some n else ixOf y zs (n + 1)
theorem ixOf_ok (y : Val) : ∀ (xs : List Val) (n j : Nat), ixOf y xs n = some j → n ≤ j ∧ (∃ z, xs[j - n]? = some z ∧ eqF z y = true) ∧ ∀ m z, m < j - n → xs[m]? = some z → eqF z y = false
  | [], n, j, h => by cases h
  | z :: zs, n, j, h => by
    simp only [ixOf] at h
    split at h
    · rename_i hz
      cases h
      refine ⟨Nat.le_refl _, ⟨z, by simp, hz⟩, fun m _ hm => ?_⟩
      rw [Nat.sub_self] at hm
      exact absurd hm (Nat.not_lt_zero _)
    · rename_i hz
      obtain ⟨h1, ⟨w, h2, h3⟩, h4⟩ := ixOf_ok y zs (n + 1) j h
      have e : j - n = (j - (n + 1)) + 1 := by omega
      refine ⟨by omega, ⟨w, by rw [e]; exact h2, h3⟩, fun m w hm hw => ?_⟩
      cases m with
      | zero =>
        have ew : z = w := by simpa using hw
        rw [← ew]
        exact Bool.eq_false_iff.mpr hz
      | succ m => exact h4 m w (by omega) hw
def mIndex (g : Cfg) (x : Val) (vs : List Val) (M : Mem) : R Val := match vs with
  | [y] => (match lstOf g M x with
    | some xs => if flat y = true ∧ xs.all flat = true then (match ixOf y xs 0 with
      | some j => .ok (.int j) M
      | none => .no) else .no
    | none => .no)
  | _ => .no
theorem mIndex_s {K : PySem.W.Frag} (hK : ConOk g K) : MtS g (mIndex g) (rIndex K) := by
  intro r M H x vs v M' Q R lx lv e k
  unfold mIndex at e
  split at e
  · rename_i y
    split at e
    · rename_i xs hx
      split at e
      · rename_i hf
        split at e
        · rename_i j hj
          cases e
          obtain ⟨p, hp, hq, wf⟩ := lstOf_ok (K := K) hK R hx
          obtain ⟨_, ⟨z, hz, hzy⟩, hn⟩ := ixOf_ok y xs 0 j hj
          rw [Nat.sub_zero] at hz
          have fl : ∀ w ∈ xs, flat w = true := List.all_eq_true.mp hf.2
          refine ⟨p, xs.map (mv g r), mv g r y, j, mv g r z, hp, rfl, hq, flat_mv hf.1, ?_, by rw [List.getElem?_map, hz]; rfl, ?_, fun m w hm hw => ?_, stay (v := .int _) R trivial k⟩
          · rw [List.all_eq_true]
            intro w hw
            obtain ⟨u, hu, rfl⟩ := List.mem_map.mp hw
            exact flat_mv (fl u hu)
          · rw [eqF_mv (fl z (List.mem_of_getElem? hz)) hf.1]
            exact hzy
          · rw [List.getElem?_map] at hw
            obtain ⟨u, hu, rfl⟩ := Option.map_eq_some_iff.mp hw
            rw [eqF_mv (fl u (List.mem_of_getElem? hu)) hf.1]
            exact hn m u (by omega) hu
        · cases e
      · cases e
    · cases e
  · cases e
section
variable {o e : Expr} {es : List Expr} {d : D} {ds : DA} {apos cpos : Pos}
theorem se_clear (ho : SE g X o d) (hb : attributeBase o "clear" X.env (eval o X.env) = eval o X.env := by rfl) (hl : (apos.endLine == cpos.line) = true := by rfl) : SE g X (.Call (.Attribute o "clear" apos) [] [] cpos) (dM0 "list" mClear d) :=
  se_m0 PySem.F.plainAttrs_list PySem.F.slot_list_clear PySem.F.type_list_clear mt_clear mClear_s ho hb hl
theorem se_reverse (ho : SE g X o d) (hb : attributeBase o "reverse" X.env (eval o X.env) = eval o X.env := by rfl) (hl : (apos.endLine == cpos.line) = true := by rfl) : SE g X (.Call (.Attribute o "reverse" apos) [] [] cpos) (dM0 "list" mReverse d) :=
  se_m0 PySem.F.plainAttrs_list PySem.F.slot_list_reverse PySem.F.type_list_reverse mt_reverse mReverse_s ho hb hl
theorem se_index (G : Good g X) (ho : SE g X o d) (ha : SA g X (e :: es) ds) (p : PlM X o "index" apos e es cpos := by exact ⟨rfl, rfl, rfl, rfl, rfl⟩) : SE g X (.Call (.Attribute o "index" apos) (e :: es) [] cpos) (dM "list" (mIndex g) d ds) :=
  se_m PySem.F.plainAttrs_list PySem.F.slot_list_index PySem.F.type_list_index mt_index (mIndex_s G.con) ho ha p
end
/-! ### max, min of one; sorted -/
def mxs (i : Int) (is : List Int) : Int := is.foldl (fun a b => if b > a then b else a) i
def mns (i : Int) (is : List Int) : Int := is.foldl (fun a b => if b < a then b else a) i
theorem mxs_ok : ∀ (is : List Int) (i : Int), (mxs i is = i ∨ mxs i is ∈ is) ∧ i ≤ mxs i is ∧ ∀ y ∈ is, y ≤ mxs i is
  | [], i => ⟨.inl rfl, Int.le_refl _, fun y hy => by cases hy⟩
  | j :: is, i => by
    have e : mxs i (j :: is) = mxs (if j > i then j else i) is := rfl
    obtain ⟨h1, h2, h3⟩ := mxs_ok is (if j > i then j else i)
    rw [e]
    refine ⟨?_, ?_, fun y hy => ?_⟩
    · rcases h1 with h1 | h1
      · rw [h1]
        split
        · exact .inr (List.mem_cons_self ..)
        · exact .inl rfl
      · exact .inr (List.mem_cons_of_mem _ h1)
    · split at h2 <;> (split; all_goals omega)
    · rcases List.mem_cons.mp hy with rfl | hy
      · split at h2 <;> (split; all_goals omega)
      · exact h3 y hy
theorem mns_ok : ∀ (is : List Int) (i : Int), (mns i is = i ∨ mns i is ∈ is) ∧ mns i is ≤ i ∧ ∀ y ∈ is, mns i is ≤ y
  | [], i => ⟨.inl rfl, Int.le_refl _, fun y hy => by cases hy⟩
  | j :: is, i => by
    have e : mns i (j :: is) = mns (if j < i then j else i) is := rfl
    obtain ⟨h1, h2, h3⟩ := mns_ok is (if j < i then j else i)
    rw [e]
    refine ⟨?_, ?_, fun y hy => ?_⟩
    · rcases h1 with h1 | h1
      · rw [h1]
        split
        · exact .inr (List.mem_cons_self ..)
        · exact .inl rfl
      · exact .inr (List.mem_cons_of_mem _ h1)
    · split at h2 <;> (split; all_goals omega)
    · rcases List.mem_cons.mp hy with rfl | hy
      · split at h2 <;> (split; all_goals omega)
      · exact h3 y hy
def bMax1 (g : Cfg) (vs : List Val) (M : Mem) : R Val := match vs with
  | [v] => (match (lstOf g M v).bind intsOf with
    | some (i :: is) => .ok (.int (mxs i is)) M
    | _ => .no)
  | _ => .no
def bMin1 (g : Cfg) (vs : List Val) (M : Mem) : R Val := match vs with
  | [v] => (match (lstOf g M v).bind intsOf with
    | some (i :: is) => .ok (.int (mns i is)) M
    | _ => .no)
  | _ => .no
theorem bMax1_s {K : PySem.W.Frag} (hK : ConOk g K) : CaS g (bMax1 g) (rMax K) := by
  intro r M H vs v M' Q R l e k
  unfold bMax1 at e
  split at e
  · split at e
    · rename_i w i is hi
      cases e
      obtain ⟨xs, hx, hz⟩ := Option.bind_eq_some_iff.mp hi
      obtain ⟨p, hp, hq, wf⟩ := lstOf_ok (K := K) hK R hx
      rw [intsOf_ok hz] at hq
      refine ⟨p, i :: is, by rw [List.map_cons, hp]; rfl, hq, by simp, fun m hm hmx => ?_⟩
      obtain ⟨h1, h2, h3⟩ := mxs_ok is i
      have e : m = mxs i is := by
        have a1 : m ≤ mxs i is := by
          rcases List.mem_cons.mp hm with rfl | hm
          · exact h2
          · exact h3 m hm
        have a2 : mxs i is ≤ m := by
          rcases h1 with h1 | h1
          · rw [h1]; exact hmx i (List.mem_cons_self ..)
          · exact hmx _ (List.mem_cons_of_mem _ h1)
        omega
      rw [e]
      exact stay (v := .int _) R trivial k
    · cases e
  · cases e
theorem bMin1_s {K : PySem.W.Frag} (hK : ConOk g K) : CaS g (bMin1 g) (rMin K) := by
  intro r M H vs v M' Q R l e k
  unfold bMin1 at e
  split at e
  · split at e
    · rename_i w i is hi
      cases e
      obtain ⟨xs, hx, hz⟩ := Option.bind_eq_some_iff.mp hi
      obtain ⟨p, hp, hq, wf⟩ := lstOf_ok (K := K) hK R hx
      rw [intsOf_ok hz] at hq
      refine ⟨p, i :: is, by rw [List.map_cons, hp]; rfl, hq, by simp, fun m hm hmx => ?_⟩
      obtain ⟨h1, h2, h3⟩ := mns_ok is i
      have e : m = mns i is := by
        have a1 : mns i is ≤ m := by
          rcases List.mem_cons.mp hm with rfl | hm
          · exact h2
          · exact h3 m hm
        have a2 : m ≤ mns i is := by
          rcases h1 with h1 | h1
          · rw [h1]; exact hmx i (List.mem_cons_self ..)
          · exact hmx _ (List.mem_cons_of_mem _ h1)
        omega
      rw [e]
      exact stay (v := .int _) R trivial k
    · cases e
  · cases e
section
variable {e : Expr} {es : List Expr} {ds : DA} {p pos : Pos} (G : Good g X)
include G
theorem se_max1 (hm : X.mg "max" = none) (ha : SA g X (e :: es) ds) (hg : Gl X "max" := by rfl) (hp : Pl pos e es X := by exact ⟨rfl, rfl⟩) : SE g X (.Call (.Name "max" p) (e :: es) [] pos) (dF (bMax1 g) ds) :=
  se_fn (cr_max G.calm) (bMax1_s G.con) hm (by decide +kernel) ha hg (by decide) (by decide) hp.1 hp.2
theorem se_min1 (hm : X.mg "min" = none) (ha : SA g X (e :: es) ds) (hg : Gl X "min" := by rfl) (hp : Pl pos e es X := by exact ⟨rfl, rfl⟩) : SE g X (.Call (.Name "min" p) (e :: es) [] pos) (dF (bMin1 g) ds) :=
  se_fn (cr_min G.calm) (bMin1_s G.con) hm (by decide +kernel) ha hg (by decide) (by decide) hp.1 hp.2
end
end Pa

/-! What the denotations do, by their ends: for plain proofs. -/
namespace Pa
open PySem PySem.Spec
open PyProof.Rows L2
open SX (S)
def Ev {α : Type} (r : R α) (Q : α → Mem → Prop) : Prop := ∃ a M, r = .ok a M ∧ Q a M
@[simp] theorem ev_ok {α : Type} (a : α) (M : Mem) (Q : α → Mem → Prop) : Ev (R.ok a M) Q = Q a M := by
  refine propext ⟨fun ⟨_, _, e, q⟩ => ?_, fun q => ⟨_, _, rfl, q⟩⟩
  cases e
  exact q
@[simp] theorem ev_no {α : Type} (Q : α → Mem → Prop) : Ev (R.no : R α) Q = False := by
  refine propext ⟨fun ⟨_, _, e, _⟩ => ?_, fun h => h.elim⟩
  cases e
@[simp high] theorem ev_guard {α : Type} {p : Prop} [Decidable p] (r : R α) (Q : α → Mem → Prop) : Ev (if p then r else R.no) Q = (p ∧ Ev r Q) := by
  by_cases h : p <;> simp [h]
@[simp] theorem ev_ite {α : Type} {p : Prop} [Decidable p] (x y : R α) (Q : α → Mem → Prop) : Ev (if p then x else y) Q = ((p → Ev x Q) ∧ (¬p → Ev y Q)) := by
  by_cases h : p <;> simp [h]
theorem ev_bind {α β : Type} (r : R α) (f : α → Mem → R β) (Q : β → Mem → Prop) : Ev (r.bind f) Q = Ev r (fun a M => Ev (f a M) Q) := by
  cases r with
  | ok a M => simp only [R.bind_ok, ev_ok]
  | exc c fs M => exact propext ⟨fun ⟨_, _, e, _⟩ => (by cases e), fun ⟨_, _, e, _⟩ => (by cases e)⟩
  | no => simp only [R.bind_no, ev_no]
theorem Ev.mono {α : Type} {r : R α} {Q Q' : α → Mem → Prop} (h : Ev r Q) (k : ∀ a M, Q a M → Q' a M) : Ev r Q' := by
  obtain ⟨a, M, e, q⟩ := h
  exact ⟨a, M, e, k a M q⟩
theorem ev_eq {α : Type} {r : R α} {a : α} {M : Mem} (h : Ev r fun b N => b = a ∧ N = M) : r = .ok a M := by
  obtain ⟨b, N, e, rfl, rfl⟩ := h
  exact e

@[simp] theorem u_dV (i : Nat) (L : Loc) (M : Mem) (Q : Val → Mem → Prop) : Ev (dV i L M) Q = Ev (R.of (L[i]?.getD none) M) Q := by
  unfold dV
  cases h : L[i]? with
  | none => rfl
  | some o => cases o <;> rfl
@[simp] theorem u_of {α : Type} (a : α) (M : Mem) : R.of (some a) M = R.ok a M := rfl
@[simp] theorem u_ofn {α : Type} (M : Mem) : R.of (none : Option α) M = R.no := rfl
@[simp] theorem u_dC (v : Val) (L : Loc) (M : Mem) (Q : Val → Mem → Prop) : Ev (dC v L M) Q = Q v M := by
  unfold dC
  exact ev_ok _ _ _
def PB2 (f : Val → Val → Mem → R Val) (x : Val) (Q : Val → Mem → Prop) : Val → Mem → Prop := fun y M => Ev (f x y M) Q
def PB1 (f : Val → Val → Mem → R Val) (b : D) (L : Loc) (Q : Val → Mem → Prop) : Val → Mem → Prop := fun x M => Ev (b L M) (PB2 f x Q)
@[simp] theorem u_dB (f : Val → Val → Mem → R Val) (a b : D) (L : Loc) (M : Mem) (Q : Val → Mem → Prop) : Ev (dB f a b L M) Q = Ev (a L M) (PB1 f b L Q) := by
  unfold dB
  rw [ev_bind]
  refine congrArg _ (funext fun x => funext fun M => ?_)
  rw [ev_bind]; rfl
@[simp] theorem v_PB1 (f : Val → Val → Mem → R Val) (b : D) (L : Loc) (Q : Val → Mem → Prop) (x : Val) (M : Mem) : PB1 f b L Q x M = Ev (b L M) (PB2 f x Q) := rfl
@[simp] theorem v_PB2 (f : Val → Val → Mem → R Val) (x : Val) (Q : Val → Mem → Prop) (y : Val) (M : Mem) : PB2 f x Q y M = Ev (f x y M) Q := rfl
def PC3 (f' : Val → Val → Mem → R Val) (y : Val) (Q : Val → Mem → Prop) : Val → Mem → Prop := fun w M => Ev (f' y w M) Q
def PC2 (f f' : Val → Val → Mem → R Val) (x : Val) (c : D) (L : Loc) (Q : Val → Mem → Prop) : Val → Mem → Prop := fun y M => Ev (f x y M) fun (z : Val) (M3 : Mem) => match z with
  | .bl true => Ev (c L M3) (PC3 f' y Q)
  | .bl false => Q (Val.bl false) M3
  | _ => False
def PC1 (f f' : Val → Val → Mem → R Val) (b c : D) (L : Loc) (Q : Val → Mem → Prop) : Val → Mem → Prop := fun x M => Ev (b L M) (PC2 f f' x c L Q)
@[simp] theorem u_dCh (f f' : Val → Val → Mem → R Val) (a b c : D) (L : Loc) (M : Mem) (Q : Val → Mem → Prop) : Ev (dCh f f' a b c L M) Q = Ev (a L M) (PC1 f f' b c L Q) := by
  unfold dCh
  rw [ev_bind]
  refine congrArg _ (funext fun x => funext fun M => ?_)
  rw [ev_bind]
  refine congrArg _ (funext fun y => funext fun M => ?_)
  rw [ev_bind]
  refine congrArg _ (funext fun z => funext fun M => ?_)
  cases z with
  | bl b =>
    cases b
    · exact ev_ok _ _ _
    · show Ev ((c L M).bind _) Q = _
      rw [ev_bind]; rfl
  | _ => exact ev_no _
@[simp] theorem v_PC1 (f f' : Val → Val → Mem → R Val) (b c : D) (L : Loc) (Q : Val → Mem → Prop) (x : Val) (M : Mem) : PC1 f f' b c L Q x M = Ev (b L M) (PC2 f f' x c L Q) := rfl
@[simp] theorem v_PC3 (f' : Val → Val → Mem → R Val) (y : Val) (Q : Val → Mem → Prop) (w : Val) (M : Mem) : PC3 f' y Q w M = Ev (f' y w M) Q := rfl
@[simp] theorem v_PC2 (p : Int → Int → Bool) (f' : Val → Val → Mem → R Val) (i j : Int) (c : D) (L : Loc) (Q : Val → Mem → Prop) (M : Mem) : PC2 (oCmp p) f' (.int i) c L Q (.int j) M = ((p i j = true → Ev (c L M) (PC3 f' (.int j) Q)) ∧ (p i j = false → Q (.bl false) M)) := by
  show Ev (R.ok (Val.bl (p i j)) M) _ = _
  rw [ev_ok]
  cases p i j <;> simp

def PdAnd (b : D) (L : Loc) (Q : Val → Mem → Prop) : Val → Mem → Prop := fun x M => match x with
  | .bl true => Ev (b L M) Q
  | .bl false => Q (.bl false) M
  | _ => False
@[simp] theorem u_dAnd (a b : D) (L : Loc) (M : Mem) (Q : Val → Mem → Prop) : Ev (dAnd a b L M) Q = Ev (a L M) (PdAnd b L Q) := by
  unfold dAnd
  rw [ev_bind]
  refine congrArg _ (funext fun x => funext fun M => ?_)
  cases x with
  | bl k => cases k <;> first | exact ev_ok _ _ _ | rfl
  | _ => exact ev_no _
@[simp] theorem v_dAnd (b : D) (L : Loc) (Q : Val → Mem → Prop) (k : Bool) (M : Mem) : PdAnd b L Q (.bl k) M = ((k = true → Ev (b L M) Q) ∧ (k = false → Q (.bl false) M)) := by
  cases k <;> simp [PdAnd]
def PdOr (b : D) (L : Loc) (Q : Val → Mem → Prop) : Val → Mem → Prop := fun x M => match x with
  | .bl true => Q (.bl true) M
  | .bl false => Ev (b L M) Q
  | _ => False
@[simp] theorem u_dOr (a b : D) (L : Loc) (M : Mem) (Q : Val → Mem → Prop) : Ev (dOr a b L M) Q = Ev (a L M) (PdOr b L Q) := by
  unfold dOr
  rw [ev_bind]
  refine congrArg _ (funext fun x => funext fun M => ?_)
  cases x with
  | bl k => cases k <;> first | exact ev_ok _ _ _ | rfl
  | _ => exact ev_no _
@[simp] theorem v_dOr (b : D) (L : Loc) (Q : Val → Mem → Prop) (k : Bool) (M : Mem) : PdOr b L Q (.bl k) M = ((k = true → Q (.bl true) M) ∧ (k = false → Ev (b L M) Q)) := by
  cases k <;> simp [PdOr]
def PdNot (Q : Val → Mem → Prop) : Val → Mem → Prop := fun x M => match x with
  | .bl k => Q (.bl (!k)) M
  | _ => False
@[simp] theorem u_dNot (a : D) (L : Loc) (M : Mem) (Q : Val → Mem → Prop) : Ev (dNot a L M) Q = Ev (a L M) (PdNot Q) := by
  unfold dNot
  rw [ev_bind]
  refine congrArg _ (funext fun x => funext fun M => ?_)
  cases x with
  | bl k => exact ev_ok _ _ _
  | _ => exact ev_no _
@[simp] theorem v_dNot (Q : Val → Mem → Prop) (k : Bool) (M : Mem) : PdNot Q (.bl k) M = Q (.bl (!k)) M := rfl
def PdNeg (Q : Val → Mem → Prop) : Val → Mem → Prop := fun x M => match x with
  | .int k => Q (.int (-k)) M
  | _ => False
@[simp] theorem u_dNeg (a : D) (L : Loc) (M : Mem) (Q : Val → Mem → Prop) : Ev (dNeg a L M) Q = Ev (a L M) (PdNeg Q) := by
  unfold dNeg
  rw [ev_bind]
  refine congrArg _ (funext fun x => funext fun M => ?_)
  cases x with
  | int k => exact ev_ok _ _ _
  | _ => exact ev_no _
@[simp] theorem v_dNeg (Q : Val → Mem → Prop) (k : Int) (M : Mem) : PdNeg Q (.int k) M = Q (.int (-k)) M := rfl
def PdTru (Q : Val → Mem → Prop) : Val → Mem → Prop := fun x M => ∃ b, truOf M x = some b ∧ Q (.bl b) M
@[simp] theorem u_dTru (a : D) (L : Loc) (M : Mem) (Q : Val → Mem → Prop) : Ev (dTru a L M) Q = Ev (a L M) (PdTru Q) := by
  unfold dTru
  rw [ev_bind]
  refine congrArg _ (funext fun x => funext fun M => ?_)
  unfold PdTru
  cases h : truOf M x <;> simp
@[simp] theorem v_dTrub (Q : Val → Mem → Prop) (k : Bool) (M : Mem) : PdTru Q (.bl k) M = Q (.bl k) M := by simp [PdTru, truOf]
@[simp] theorem v_dTruv (Q : Val → Mem → Prop) (x : Val) (M : Mem) : PdTru Q x M = ∃ b, truOf M x = some b ∧ Q (.bl b) M := rfl
def PdIf (a b : D) (L : Loc) (Q : Val → Mem → Prop) : Val → Mem → Prop := fun x M => match x with
  | .bl true => Ev (a L M) Q
  | .bl false => Ev (b L M) Q
  | _ => False
@[simp] theorem u_dIf (c a b : D) (L : Loc) (M : Mem) (Q : Val → Mem → Prop) : Ev (dIf c a b L M) Q = Ev (c L M) (PdIf a b L Q) := by
  unfold dIf
  rw [ev_bind]
  refine congrArg _ (funext fun x => funext fun M => ?_)
  cases x with
  | bl k => cases k <;> rfl
  | _ => exact ev_no _
@[simp] theorem v_dIf (a b : D) (L : Loc) (Q : Val → Mem → Prop) (k : Bool) (M : Mem) : PdIf a b L Q (.bl k) M = ((k = true → Ev (a L M) Q) ∧ (k = false → Ev (b L M) Q)) := by
  cases k <;> simp [PdIf]
def PxIf (a b : Ds) (L : Loc) (Q : Fl → Mem → Prop) : Val → Mem → Prop := fun x M => match x with
  | .bl true => Ev (a L M) Q
  | .bl false => Ev (b L M) Q
  | _ => False
@[simp] theorem u_xIf (c : D) (a b : Ds) (L : Loc) (M : Mem) (Q : Fl → Mem → Prop) : Ev (xIf c a b L M) Q = Ev (c L M) (PxIf a b L Q) := by
  unfold xIf
  rw [ev_bind]
  refine congrArg _ (funext fun x => funext fun M => ?_)
  cases x with
  | bl k => cases k <;> rfl
  | _ => exact ev_no _
@[simp] theorem v_xIf (a b : Ds) (L : Loc) (Q : Fl → Mem → Prop) (k : Bool) (M : Mem) : PxIf a b L Q (.bl k) M = ((k = true → Ev (a L M) Q) ∧ (k = false → Ev (b L M) Q)) := by
  cases k <;> simp [PxIf]
@[simp] theorem u_aNil (L : Loc) (M : Mem) (Q : List Val → Mem → Prop) : Ev (aNil L M) Q = Q [] M := by
  unfold aNil
  exact ev_ok _ _ _
def PaC2 (v : Val) (Q : List Val → Mem → Prop) : List Val → Mem → Prop := fun vs M => Q (v :: vs) M
def PaC1 (ds : DA) (L : Loc) (Q : List Val → Mem → Prop) : Val → Mem → Prop := fun v M => Ev (ds L M) (PaC2 v Q)
@[simp] theorem u_aCons (d : D) (ds : DA) (L : Loc) (M : Mem) (Q : List Val → Mem → Prop) : Ev (aCons d ds L M) Q = Ev (d L M) (PaC1 ds L Q) := by
  unfold aCons
  rw [ev_bind]
  refine congrArg _ (funext fun x => funext fun M => ?_)
  rw [ev_bind]
  refine congrArg _ (funext fun x => funext fun M => ?_)
  exact ev_ok _ _ _
@[simp] theorem v_PaC1 (ds : DA) (L : Loc) (Q : List Val → Mem → Prop) (v : Val) (M : Mem) : PaC1 ds L Q v M = Ev (ds L M) (PaC2 v Q) := rfl
@[simp] theorem v_PaC2 (v : Val) (Q : List Val → Mem → Prop) (vs : List Val) (M : Mem) : PaC2 v Q vs M = Q (v :: vs) M := rfl

def PdF (f : List Val → Mem → R Val) (Q : Val → Mem → Prop) : List Val → Mem → Prop := fun vs M => Ev (f vs M) Q
@[simp] theorem u_dF (f : List Val → Mem → R Val) (ds : DA) (L : Loc) (M : Mem) (Q : Val → Mem → Prop) : Ev (dF f ds L M) Q = Ev (ds L M) (PdF f Q) := by
  unfold dF
  rw [ev_bind]
  refine congrArg _ (funext fun vs => funext fun M => ?_)
  first | rfl | exact ev_guard _ _ | (rw [ev_guard, ev_ok]; rfl)
@[simp] theorem v_dF (f : List Val → Mem → R Val) (Q : Val → Mem → Prop) (vs : List Val) (M : Mem) : PdF f Q vs M = (Ev (f vs M) Q) := rfl
def PdTup  (Q : Val → Mem → Prop) : List Val → Mem → Prop := fun vs M => vs.length ≤ 1000 ∧ Q (.ref M.length) (M ++ [.tup vs])
@[simp] theorem u_dTup  (ds : DA) (L : Loc) (M : Mem) (Q : Val → Mem → Prop) : Ev (dTup  ds L M) Q = Ev (ds L M) (PdTup  Q) := by
  unfold dTup
  rw [ev_bind]
  refine congrArg _ (funext fun vs => funext fun M => ?_)
  first | rfl | exact ev_guard _ _ | (rw [ev_guard, ev_ok]; rfl)
@[simp] theorem v_dTup  (Q : Val → Mem → Prop) (vs : List Val) (M : Mem) : PdTup  Q vs M = (vs.length ≤ 1000 ∧ Q (.ref M.length) (M ++ [.tup vs])) := rfl
def PdLst  (Q : Val → Mem → Prop) : List Val → Mem → Prop := fun vs M => vs.length ≤ 1000 ∧ Q (.ref M.length) (M ++ [.lst vs])
@[simp] theorem u_dLst  (ds : DA) (L : Loc) (M : Mem) (Q : Val → Mem → Prop) : Ev (dLst  ds L M) Q = Ev (ds L M) (PdLst  Q) := by
  unfold dLst
  rw [ev_bind]
  refine congrArg _ (funext fun vs => funext fun M => ?_)
  first | rfl | exact ev_guard _ _ | (rw [ev_guard, ev_ok]; rfl)
@[simp] theorem v_dLst  (Q : Val → Mem → Prop) (vs : List Val) (M : Mem) : PdLst  Q vs M = (vs.length ≤ 1000 ∧ Q (.ref M.length) (M ++ [.lst vs])) := rfl
def PdArg (n : Nat) (dfl : List Val) (F : Fn) (Q : Val → Mem → Prop) : List Val → Mem → Prop := fun vs M => (vs ++ dfl).length = n ∧ Ev (F (vs ++ dfl) M) Q
@[simp] theorem u_dArg (n : Nat) (dfl : List Val) (F : Fn) (ds : DA) (L : Loc) (M : Mem) (Q : Val → Mem → Prop) : Ev (dArg n dfl F ds L M) Q = Ev (ds L M) (PdArg n dfl F Q) := by
  unfold dArg
  rw [ev_bind]
  refine congrArg _ (funext fun vs => funext fun M => ?_)
  first | rfl | exact ev_guard _ _ | (rw [ev_guard, ev_ok]; rfl)
@[simp] theorem v_dArg (n : Nat) (dfl : List Val) (F : Fn) (Q : Val → Mem → Prop) (vs : List Val) (M : Mem) : PdArg n dfl F Q vs M = ((vs ++ dfl).length = n ∧ Ev (F (vs ++ dfl) M) Q) := rfl
@[simp] theorem u_dDk (L : Loc) (M : Mem) (Q : Val → Mem → Prop) : Ev (dDk L M) Q = Q (.ref M.length) (M ++ [.dk []]) := by
  unfold dDk
  exact ev_ok _ _ _
@[simp] theorem u_dDt (L : Loc) (M : Mem) (Q : Val → Mem → Prop) : Ev (dDt L M) Q = Q (.ref M.length) (M ++ [.dt []]) := by
  unfold dDt
  exact ev_ok _ _ _
@[simp] theorem u_oNone (L : Loc) (M : Mem) (Q : Option Int → Mem → Prop) : Ev (oNone L M) Q = Q none M := by
  unfold oNone
  exact ev_ok _ _ _
def PoSome (Q : Option Int → Mem → Prop) : Val → Mem → Prop := fun x M => match x with
  | .int k => Q (some k) M
  | _ => False
@[simp] theorem u_oSome (a : D) (L : Loc) (M : Mem) (Q : Option Int → Mem → Prop) : Ev (oSome a L M) Q = Ev (a L M) (PoSome Q) := by
  unfold oSome
  rw [ev_bind]
  refine congrArg _ (funext fun x => funext fun M => ?_)
  cases x with
  | int k => exact ev_ok _ _ _
  | _ => exact ev_no _
@[simp] theorem v_oSome (Q : Option Int → Mem → Prop) (k : Int) (M : Mem) : PoSome Q (.int k) M = Q (some k) M := rfl
def PSl3 (g : Cfg) (x : Val) (l : Option Int) (Q : Val → Mem → Prop) : Option Int → Mem → Prop := fun h M => Ev (vSl g x l h M) Q
def PSl2 (g : Cfg) (x : Val) (hi : DO) (L : Loc) (Q : Val → Mem → Prop) : Option Int → Mem → Prop := fun l M => Ev (hi L M) (PSl3 g x l Q)
def PSl1 (g : Cfg) (lo hi : DO) (L : Loc) (Q : Val → Mem → Prop) : Val → Mem → Prop := fun x M => Ev (lo L M) (PSl2 g x hi L Q)
@[simp] theorem u_dSl (g : Cfg) (d : D) (lo hi : DO) (L : Loc) (M : Mem) (Q : Val → Mem → Prop) : Ev (dSl g d lo hi L M) Q = Ev (d L M) (PSl1 g lo hi L Q) := by
  unfold dSl
  rw [ev_bind]
  refine congrArg _ (funext fun x => funext fun M => ?_)
  rw [ev_bind]
  refine congrArg _ (funext fun x => funext fun M => ?_)
  rw [ev_bind]; rfl
@[simp] theorem v_PSl1 (g : Cfg) (lo hi : DO) (L : Loc) (Q : Val → Mem → Prop) (x : Val) (M : Mem) : PSl1 g lo hi L Q x M = Ev (lo L M) (PSl2 g x hi L Q) := rfl
@[simp] theorem v_PSl2 (g : Cfg) (x : Val) (hi : DO) (L : Loc) (Q : Val → Mem → Prop) (l : Option Int) (M : Mem) : PSl2 g x hi L Q l M = Ev (hi L M) (PSl3 g x l Q) := rfl
@[simp] theorem v_PSl3 (g : Cfg) (x : Val) (l : Option Int) (Q : Val → Mem → Prop) (h : Option Int) (M : Mem) : PSl3 g x l Q h M = Ev (vSl g x l h M) Q := rfl
@[simp] theorem w_vSls (g : Cfg) (s : List Nat) (l h : Option Int) (M : Mem) : vSl g (.str s) l h M = if s.length ≤ 1000000 then .ok (.str (cut s l h)) M else .no := rfl
theorem w_vSll {g : Cfg} {v : Val} {xs : List Val} {M : Mem} (hx : lstOf g M v = some xs) (l h : Option Int) : vSl g v l h M = .ok (.ref M.length) (M ++ [.lst (cut xs l h)]) := by
  cases v with
  | str s => cases hx
  | _ => simp only [vSl, lSl, hx]
/-! fields, classes -/
def fldR (T : CTab) (f : String) (x : Val) (M : Mem) : R Val := match x with
  | .ref a => (match M[a]? with
    | some (.ins c fs) => if hasF T c f = true then R.of (getf fs f) M else .no
    | _ => .no)
  | _ => .no
def PFld (T : CTab) (f : String) (Q : Val → Mem → Prop) : Val → Mem → Prop := fun x M => Ev (fldR T f x M) Q
@[simp] theorem u_dFld (T : CTab) (d : D) (f : String) (L : Loc) (M : Mem) (Q : Val → Mem → Prop) : Ev (dFld T d f L M) Q = Ev (d L M) (PFld T f Q) := by
  unfold dFld
  rw [ev_bind]
  rfl
theorem w_fld {T : CTab} {f : String} {M : Mem} {a : Nat} {c : String} {fs : List (String × Val)} {v : Val} (h : M[a]? = some (.ins c fs)) (h2 : hasF T c f = true) (h3 : getf fs f = some v) (Q : Val → Mem → Prop) : PFld T f Q (.ref a) M = Q v M := by
  simp only [PFld, fldR, h, h2, h3, if_true, u_of, ev_ok]
def IsiR (g : Cfg) (T : ITab) (cs : List String) (t : String) (x : Val) (M : Mem) : R Val := match tyOf g cs M x with
  | some s => (match isiT T s t with
    | some b => .ok (.bl b) M
    | none => .no)
  | none => .no
def PIsi (g : Cfg) (T : ITab) (cs : List String) (t : String) (Q : Val → Mem → Prop) : Val → Mem → Prop := fun x M => Ev (IsiR g T cs t x M) Q
@[simp] theorem u_dIsi (g : Cfg) (T : ITab) (cs : List String) (d : D) (t : String) (L : Loc) (M : Mem) (Q : Val → Mem → Prop) : Ev (dIsi g T cs d t L M) Q = Ev (d L M) (PIsi g T cs t Q) := by
  unfold dIsi
  rw [ev_bind]
  rfl
theorem w_Isi {g : Cfg} {T : ITab} {cs : List String} {t : String} {M : Mem} {x : Val} {s : String} {b : Bool} (h : tyOf g cs M x = some s) (h2 : isiT T s t = some b) (Q : Val → Mem → Prop) : PIsi g T cs t Q x M = Q (.bl b) M := by
  simp only [PIsi, IsiR, h, h2, ev_ok]
def IsiTR (g : Cfg) (T : ITab) (cs : List String) (t : List String) (x : Val) (M : Mem) : R Val := match tyOf g cs M x with
  | some s => (match tsI T s t with
    | some b => .ok (.bl b) M
    | none => .no)
  | none => .no
def PIsiT (g : Cfg) (T : ITab) (cs : List String) (t : List String) (Q : Val → Mem → Prop) : Val → Mem → Prop := fun x M => Ev (IsiTR g T cs t x M) Q
@[simp] theorem u_dIsiT (g : Cfg) (T : ITab) (cs : List String) (d : D) (t : List String) (L : Loc) (M : Mem) (Q : Val → Mem → Prop) : Ev (dIsiT g T cs d t L M) Q = Ev (d L M) (PIsiT g T cs t Q) := by
  unfold dIsiT
  rw [ev_bind]
  rfl
theorem w_IsiT {g : Cfg} {T : ITab} {cs : List String} {t : List String} {M : Mem} {x : Val} {s : String} {b : Bool} (h : tyOf g cs M x = some s) (h2 : tsI T s t = some b) (Q : Val → Mem → Prop) : PIsiT g T cs t Q x M = Q (.bl b) M := by
  simp only [PIsiT, IsiTR, h, h2, ev_ok]
def PNew2 (x : Val) (Q : Val → Mem → Prop) : Val → Mem → Prop := fun w M => w = .non ∧ Q x M
def PNew (n : Nat) (dfl : List Val) (c : String) (F : Fn) (Q : Val → Mem → Prop) : List Val → Mem → Prop := fun vs M => (vs ++ dfl).length + 1 = n ∧ Ev (F (.ref M.length :: (vs ++ dfl)) (M ++ [.ins c []])) (PNew2 (.ref M.length) Q)
@[simp] theorem u_dNew (n : Nat) (dfl : List Val) (c : String) (F : Fn) (ds : DA) (L : Loc) (M : Mem) (Q : Val → Mem → Prop) : Ev (dNew n dfl c F ds L M) Q = Ev (ds L M) (PNew n dfl c F Q) := by
  unfold dNew
  rw [ev_bind]
  refine congrArg _ (funext fun vs => funext fun M => ?_)
  rw [ev_guard, ev_bind]
  show _ = (_ ∧ _)
  refine congrArg _ (congrArg _ (funext fun w => funext fun M => ?_))
  cases w with
  | non => simp [PNew2]
  | _ => simp [PNew2]
@[simp] theorem v_PNew (n : Nat) (dfl : List Val) (c : String) (F : Fn) (Q : Val → Mem → Prop) (vs : List Val) (M : Mem) : PNew n dfl c F Q vs M = ((vs ++ dfl).length + 1 = n ∧ Ev (F (.ref M.length :: (vs ++ dfl)) (M ++ [.ins c []])) (PNew2 (.ref M.length) Q)) := rfl
@[simp] theorem v_PNew2 (x : Val) (Q : Val → Mem → Prop) (w : Val) (M : Mem) : PNew2 x Q w M = (w = .non ∧ Q x M) := rfl
def PMth2 (n : Nat) (a : Nat) (F : Fn) (Q : Val → Mem → Prop) : List Val → Mem → Prop := fun vs M => vs.length + 1 = n ∧ Ev (F (.ref a :: vs) M) Q
def mthR (T : MTab) (m : String) (n : Nat) (ds : DA) (L : Loc) (x : Val) (M1 : Mem) : R Val := match x with
  | .ref a => (match M1[a]? with
    | some (.ins c fs) => (match mfind T c, getf fs m with
      | some F, none => (ds L M1).bind fun vs M2 => if vs.length + 1 = n then F (.ref a :: vs) M2 else .no
      | _, _ => .no)
    | _ => .no)
  | _ => .no
def PMth (T : MTab) (m : String) (n : Nat) (ds : DA) (L : Loc) (Q : Val → Mem → Prop) : Val → Mem → Prop := fun x M => Ev (mthR T m n ds L x M) Q
@[simp] theorem u_dMeth (T : MTab) (m : String) (n : Nat) (d : D) (ds : DA) (L : Loc) (M : Mem) (Q : Val → Mem → Prop) : Ev (dMeth T m n d ds L M) Q = Ev (d L M) (PMth T m n ds L Q) := by
  unfold dMeth
  rw [ev_bind]
  rfl
theorem w_mth {T : MTab} {m : String} {n : Nat} {ds : DA} {L : Loc} {M : Mem} {a : Nat} {c : String} {fs : List (String × Val)} {F : Fn} (h : M[a]? = some (.ins c fs)) (h1 : mfind T c = some F) (h2 : getf fs m = none) (Q : Val → Mem → Prop) : PMth T m n ds L Q (.ref a) M = Ev (ds L M) (PMth2 n a F Q) := by
  simp only [PMth, mthR, h, h1, h2]
  rw [ev_bind]
  refine congrArg _ (funext fun vs => funext fun M => ?_)
  exact ev_guard _ _
@[simp] theorem v_PMth2 (n : Nat) (a : Nat) (F : Fn) (Q : Val → Mem → Prop) (vs : List Val) (M : Mem) : PMth2 n a F Q vs M = (vs.length + 1 = n ∧ Ev (F (.ref a :: vs) M) Q) := rfl
def PdM2 (f : Val → List Val → Mem → R Val) (x : Val) (Q : Val → Mem → Prop) : List Val → Mem → Prop := fun vs M => Ev (f x vs M) Q
def PdM (T : String) (f : Val → List Val → Mem → R Val) (ds : DA) (L : Loc) (Q : Val → Mem → Prop) : Val → Mem → Prop := fun x M => isTy T M x = true ∧ Ev (ds L M) (PdM2 f x Q)
@[simp] theorem u_dM (T : String) (f : Val → List Val → Mem → R Val) (d : D) (ds : DA) (L : Loc) (M : Mem) (Q : Val → Mem → Prop) : Ev (dM T f d ds L M) Q = Ev (d L M) (PdM T f ds L Q) := by
  unfold dM
  rw [ev_bind]
  refine congrArg _ (funext fun x => funext fun M => ?_)
  rw [ev_guard, ev_bind]
  rfl
@[simp] theorem v_PdM (T : String) (f : Val → List Val → Mem → R Val) (ds : DA) (L : Loc) (Q : Val → Mem → Prop) (x : Val) (M : Mem) : PdM T f ds L Q x M = (isTy T M x = true ∧ Ev (ds L M) (PdM2 f x Q)) := rfl
@[simp] theorem v_PdM2 (f : Val → List Val → Mem → R Val) (x : Val) (Q : Val → Mem → Prop) (vs : List Val) (M : Mem) : PdM2 f x Q vs M = Ev (f x vs M) Q := rfl
def PdM0 (T : String) (f : Val → List Val → Mem → R Val) (Q : Val → Mem → Prop) : Val → Mem → Prop := fun x M => isTy T M x = true ∧ Ev (f x [] M) Q
@[simp] theorem u_dM0 (T : String) (f : Val → List Val → Mem → R Val) (d : D) (L : Loc) (M : Mem) (Q : Val → Mem → Prop) : Ev (dM0 T f d L M) Q = Ev (d L M) (PdM0 T f Q) := by
  unfold dM0
  rw [ev_bind]
  refine congrArg _ (funext fun x => funext fun M => ?_)
  exact ev_guard _ _
@[simp] theorem v_PdM0 (T : String) (f : Val → List Val → Mem → R Val) (Q : Val → Mem → Prop) (x : Val) (M : Mem) : PdM0 T f Q x M = (isTy T M x = true ∧ Ev (f x [] M) Q) := rfl
/-! statements -/
@[simp] theorem u_xSkip (L : Loc) (M : Mem) (Q : Fl → Mem → Prop) : Ev (xSkip L M) Q = Q (.nx L) M := by
  unfold xSkip
  exact ev_ok _ _ _
@[simp] theorem u_xRetN (L : Loc) (M : Mem) (Q : Fl → Mem → Prop) : Ev (xRetN L M) Q = Q (.rt .non) M := by
  unfold xRetN
  exact ev_ok _ _ _
@[simp] theorem u_xBrk (L : Loc) (M : Mem) (Q : Fl → Mem → Prop) : Ev (xBrk L M) Q = Q (.bk L) M := by
  unfold xBrk
  exact ev_ok _ _ _
@[simp] theorem u_xCont (L : Loc) (M : Mem) (Q : Fl → Mem → Prop) : Ev (xCont L M) Q = Q (.ct L) M := by
  unfold xCont
  exact ev_ok _ _ _
def PSeq (b : Ds) (Q : Fl → Mem → Prop) : Fl → Mem → Prop := fun f M => match f with
  | .nx L => Ev (b L M) Q
  | .rt v => Q (.rt v) M
  | .bk L => Q (.bk L) M
  | .ct L => Q (.ct L) M
@[simp] theorem u_xSeq (a b : Ds) (L : Loc) (M : Mem) (Q : Fl → Mem → Prop) : Ev (xSeq a b L M) Q = Ev (a L M) (PSeq b Q) := by
  unfold xSeq
  rw [ev_bind]
  refine congrArg _ (funext fun x => funext fun M => ?_)
  cases x <;> first | rfl | exact ev_ok _ _ _
@[simp] theorem v_PSeqn (b : Ds) (Q : Fl → Mem → Prop) (L : Loc) (M : Mem) : PSeq b Q (.nx L) M = Ev (b L M) Q := rfl
@[simp] theorem v_PSeqr (b : Ds) (Q : Fl → Mem → Prop) (v : Val) (M : Mem) : PSeq b Q (.rt v) M = Q (.rt v) M := rfl
@[simp] theorem v_PSeqb (b : Ds) (Q : Fl → Mem → Prop) (L : Loc) (M : Mem) : PSeq b Q (.bk L) M = Q (.bk L) M := rfl
@[simp] theorem v_PSeqc (b : Ds) (Q : Fl → Mem → Prop) (L : Loc) (M : Mem) : PSeq b Q (.ct L) M = Q (.ct L) M := rfl
def PRet (Q : Fl → Mem → Prop) : Val → Mem → Prop := fun v M => Q (.rt v) M
@[simp] theorem u_xRet (d : D) (L : Loc) (M : Mem) (Q : Fl → Mem → Prop) : Ev (xRet d L M) Q = Ev (d L M) (PRet Q) := by
  unfold xRet
  rw [ev_bind]
  refine congrArg _ (funext fun x => funext fun M => ?_)
  exact ev_ok _ _ _
@[simp] theorem v_PRet (Q : Fl → Mem → Prop) (v : Val) (M : Mem) : PRet Q v M = Q (.rt v) M := rfl
def PExp (L : Loc) (Q : Fl → Mem → Prop) : Val → Mem → Prop := fun _ M => Q (.nx L) M
@[simp] theorem u_xExpr (d : D) (L : Loc) (M : Mem) (Q : Fl → Mem → Prop) : Ev (xExpr d L M) Q = Ev (d L M) (PExp L Q) := by
  unfold xExpr
  rw [ev_bind]
  refine congrArg _ (funext fun x => funext fun M => ?_)
  exact ev_ok _ _ _
@[simp] theorem v_PExp (L : Loc) (Q : Fl → Mem → Prop) (v : Val) (M : Mem) : PExp L Q v M = Q (.nx L) M := rfl
def PSet (i : Nat) (L : Loc) (Q : Fl → Mem → Prop) : Val → Mem → Prop := fun v M => Q (.nx (L.set i (some v))) M
@[simp] theorem u_xSet (i : Nat) (d : D) (L : Loc) (M : Mem) (Q : Fl → Mem → Prop) : Ev (xSet i d L M) Q = Ev (d L M) (PSet i L Q) := by
  unfold xSet
  rw [ev_bind]
  refine congrArg _ (funext fun x => funext fun M => ?_)
  exact ev_ok _ _ _
@[simp] theorem v_PSet (i : Nat) (L : Loc) (Q : Fl → Mem → Prop) (v : Val) (M : Mem) : PSet i L Q v M = Q (.nx (L.set i (some v))) M := rfl
def PAsg2 (Q : Fl → Mem → Prop) : Loc → Mem → Prop := fun L M => Q (.nx L) M
def PAsg (t : DT) (L : Loc) (Q : Fl → Mem → Prop) : Val → Mem → Prop := fun v M => Ev (t v L M) (PAsg2 Q)
@[simp] theorem u_xAsg (d : D) (t : DT) (L : Loc) (M : Mem) (Q : Fl → Mem → Prop) : Ev (xAsg d t L M) Q = Ev (d L M) (PAsg t L Q) := by
  unfold xAsg
  rw [ev_bind]
  refine congrArg _ (funext fun x => funext fun M => ?_)
  rw [ev_bind]
  refine congrArg _ (funext fun x => funext fun M => ?_)
  exact ev_ok _ _ _
@[simp] theorem v_PAsg (t : DT) (L : Loc) (Q : Fl → Mem → Prop) (v : Val) (M : Mem) : PAsg t L Q v M = Ev (t v L M) (PAsg2 Q) := rfl
@[simp] theorem v_PAsg2 (Q : Fl → Mem → Prop) (L : Loc) (M : Mem) : PAsg2 Q L M = Q (.nx L) M := rfl
@[simp] theorem u_tNm (i : Nat) (v : Val) (L : Loc) (M : Mem) : tNm i v L M = .ok (L.set i (some v)) M := rfl
def setF (T : CTab) (f : String) (v : Val) (L : Loc) (x : Val) (M2 : Mem) : R Fl := match x with
  | .ref a => (match M2[a]? with
    | some (.ins c fs) => if hasF T c f = true ∧ fs.length < 100 then .ok (.nx L) (M2.set a (.ins c (putf f v fs))) else .no
    | _ => .no)
  | _ => .no
def PFd2 (T : CTab) (f : String) (v : Val) (L : Loc) (Q : Fl → Mem → Prop) : Val → Mem → Prop := fun x M => Ev (setF T f v L x M) Q
def PFd1 (T : CTab) (o : D) (f : String) (L : Loc) (Q : Fl → Mem → Prop) : Val → Mem → Prop := fun v M => Ev (o L M) (PFd2 T f v L Q)
@[simp] theorem u_xFld (T : CTab) (o : D) (f : String) (d : D) (L : Loc) (M : Mem) (Q : Fl → Mem → Prop) : Ev (xFld T o f d L M) Q = Ev (d L M) (PFd1 T o f L Q) := by
  unfold xFld
  rw [ev_bind]
  refine congrArg _ (funext fun v => funext fun M => ?_)
  rw [ev_bind]
  rfl
@[simp] theorem v_PFd1 (T : CTab) (o : D) (f : String) (L : Loc) (Q : Fl → Mem → Prop) (v : Val) (M : Mem) : PFd1 T o f L Q v M = Ev (o L M) (PFd2 T f v L Q) := rfl
theorem w_fd2 {T : CTab} {f : String} {v : Val} {L : Loc} {M : Mem} {a : Nat} {c : String} {fs : List (String × Val)} (h : M[a]? = some (.ins c fs)) (h2 : hasF T c f = true) (h3 : fs.length < 100) (Q : Fl → Mem → Prop) : PFd2 T f v L Q (.ref a) M = Q (.nx L) (M.set a (.ins c (putf f v fs))) := by
  simp only [PFd2, setF, h, h2, h3, and_self, if_true, ev_ok]
def PSb3 (x v : Val) (L : Loc) (Q : Fl → Mem → Prop) : Val → Mem → Prop := fun y M => Ev (setIx x y v M) fun _ M4 => Q (.nx L) M4
def PSb2 (i : D) (v : Val) (L : Loc) (Q : Fl → Mem → Prop) : Val → Mem → Prop := fun x M => Ev (i L M) (PSb3 x v L Q)
def PSb1 (o i : D) (L : Loc) (Q : Fl → Mem → Prop) : Val → Mem → Prop := fun v M => Ev (o L M) (PSb2 i v L Q)
@[simp] theorem u_xSub (o i d : D) (L : Loc) (M : Mem) (Q : Fl → Mem → Prop) : Ev (xSub o i d L M) Q = Ev (d L M) (PSb1 o i L Q) := by
  unfold xSub
  rw [ev_bind]
  refine congrArg _ (funext fun x => funext fun M => ?_)
  rw [ev_bind]
  refine congrArg _ (funext fun x => funext fun M => ?_)
  rw [ev_bind]
  refine congrArg _ (funext fun x => funext fun M => ?_)
  rw [ev_bind]
  refine congrArg _ (funext fun x => funext fun M => ?_)
  exact ev_ok _ _ _
@[simp] theorem v_PSb1 (o i : D) (L : Loc) (Q : Fl → Mem → Prop) (v : Val) (M : Mem) : PSb1 o i L Q v M = Ev (o L M) (PSb2 i v L Q) := rfl
@[simp] theorem v_PSb2 (i : D) (v : Val) (L : Loc) (Q : Fl → Mem → Prop) (x : Val) (M : Mem) : PSb2 i v L Q x M = Ev (i L M) (PSb3 x v L Q) := rfl
@[simp] theorem v_PSb3 (x v : Val) (L : Loc) (Q : Fl → Mem → Prop) (y : Val) (M : Mem) : PSb3 x v L Q y M = Ev (setIx x y v M) fun _ M4 => Q (.nx L) M4 := rfl
/-! a def's call -/
def PRun (Q : Val → Mem → Prop) : Fl → Mem → Prop := fun f M => match f with
  | .nx _ => Q .non M
  | .rt v => Q v M
  | _ => False
@[simp] theorem u_runD (n : Nat) (d : Ds) (args : List Val) (M : Mem) (Q : Val → Mem → Prop) : Ev (runD n d args M) Q = Ev (d (args.map some ++ List.replicate (n - args.length) none) M) (PRun Q) := by
  unfold runD
  rw [ev_bind]
  refine congrArg _ (funext fun x => funext fun M => ?_)
  cases x <;> first | exact ev_ok _ _ _ | exact ev_no _
@[simp] theorem v_PRunn (Q : Val → Mem → Prop) (L : Loc) (M : Mem) : PRun Q (.nx L) M = Q .non M := rfl
@[simp] theorem v_PRunr (Q : Val → Mem → Prop) (v : Val) (M : Mem) : PRun Q (.rt v) M = Q v M := rfl
/-! for -/
def PFor (g : Cfg) (tg : DT) (body : Ds) (L : Loc) (Q : Fl → Mem → Prop) : Itb → Mem → Prop := fun b M => Ev (forL g b tg body b.num 0 L M) Q
@[simp] theorem u_xFor (g : Cfg) (it : DI) (tg : DT) (body : Ds) (L : Loc) (M : Mem) (Q : Fl → Mem → Prop) : Ev (xFor g it tg body L M) Q = Ev (it L M) (PFor g tg body L Q) := by
  unfold xFor
  rw [ev_bind]; rfl
@[simp] theorem v_PFor (g : Cfg) (tg : DT) (body : Ds) (L : Loc) (Q : Fl → Mem → Prop) (b : Itb) (M : Mem) : PFor g tg body L Q b M = Ev (forL g b tg body b.num 0 L M) Q := rfl
def PStep (I : Nat → Loc → Mem → Prop) (j : Nat) (Q : Fl → Mem → Prop) : Fl → Mem → Prop := fun f M => match f with
  | .nx L => I (j + 1) L M
  | .ct L => I (j + 1) L M
  | .bk L => Q (.nx L) M
  | .rt v => Q (.rt v) M
@[simp] theorem v_PStepn (I : Nat → Loc → Mem → Prop) (j : Nat) (Q : Fl → Mem → Prop) (L : Loc) (M : Mem) : PStep I j Q (.nx L) M = I (j + 1) L M := rfl
@[simp] theorem v_PStepc (I : Nat → Loc → Mem → Prop) (j : Nat) (Q : Fl → Mem → Prop) (L : Loc) (M : Mem) : PStep I j Q (.ct L) M = I (j + 1) L M := rfl
@[simp] theorem v_PStepb (I : Nat → Loc → Mem → Prop) (j : Nat) (Q : Fl → Mem → Prop) (L : Loc) (M : Mem) : PStep I j Q (.bk L) M = Q (.nx L) M := rfl
@[simp] theorem v_PStepr (I : Nat → Loc → Mem → Prop) (j : Nat) (Q : Fl → Mem → Prop) (v : Val) (M : Mem) : PStep I j Q (.rt v) M = Q (.rt v) M := rfl
def PTgt (body : Ds) (Q : Fl → Mem → Prop) : Loc → Mem → Prop := fun L M => Ev (body L M) Q
@[simp] theorem v_PTgt (body : Ds) (Q : Fl → Mem → Prop) (L : Loc) (M : Mem) : PTgt body Q L M = Ev (body L M) Q := rfl
theorem forL_ev {g : Cfg} {it : Itb} {tg : DT} {body : Ds} {Q : Fl → Mem → Prop} (I : Nat → Loc → Mem → Prop) : ∀ {n i : Nat} {L : Loc} {M : Mem}, I i L M →
    (∀ j L M, i ≤ j → j < i + n → I j L M → Ev (yld g it j M) fun v M1 => Ev (tg v L M1) (PTgt body (PStep I j Q))) →
    (∀ L M, I (i + n) L M → fin g it (i + n) M = true ∧ Q (.nx L) M) → Ev (forL g it tg body n i L M) Q
  | 0, i, L, M, h, _, he => by
    obtain ⟨h1, h2⟩ := he L M h
    have h1' : fin g it i M = true := h1
    simp only [forL, h1', if_true, ev_ok]
    exact h2
  | n + 1, i, L, M, h, hs, he => by
    have z := hs i L M (Nat.le_refl _) (by omega) h
    simp only [forL]
    rw [ev_bind]
    refine z.mono fun v M1 z => ?_
    rw [ev_bind]
    refine z.mono fun L1 M2 z => ?_
    rw [ev_bind]
    refine Ev.mono z fun f M3 z => ?_
    cases f with
    | nx L2 => exact forL_ev I z (fun j L M h1 h2 => hs j L M (by omega) (by omega)) (fun L M h => by
        have e : i + (n + 1) = i + 1 + n := by omega
        rw [e] at he
        exact he L M h)
    | ct L2 => exact forL_ev I z (fun j L M h1 h2 => hs j L M (by omega) (by omega)) (fun L M h => by
        have e : i + (n + 1) = i + 1 + n := by omega
        rw [e] at he
        exact he L M h)
    | bk L2 => simp only [ev_ok]; exact z
    | rt v => simp only [ev_ok]; exact z

/-! ### memory -/
def Xt (M M' : Mem) : Prop := ∃ X, M' = M ++ X
theorem Xt.refl {M : Mem} : Xt M M := ⟨[], (List.append_nil M).symm⟩
theorem Xt.trans {M M1 M2 : Mem} (a : Xt M M1) (b : Xt M1 M2) : Xt M M2 := by
  obtain ⟨X, rfl⟩ := a
  obtain ⟨Y, rfl⟩ := b
  exact ⟨X ++ Y, List.append_assoc ..⟩
theorem Xt.app {M X : Mem} : Xt M (M ++ X) := ⟨X, rfl⟩
theorem Xt.get {M M' : Mem} (a : Xt M M') {i : Nat} {o : Ob} (h : M[i]? = some o) : M'[i]? = some o := by
  obtain ⟨X, rfl⟩ := a
  rw [List.getElem?_append_left (lt_of_get h)]; exact h
theorem Xt.len {M M' : Mem} (a : Xt M M') : M.length ≤ M'.length := by
  obtain ⟨X, rfl⟩ := a
  simp
theorem Xt.lst {g : Cfg} {M M' : Mem} (a : Xt M M') {v : Val} {xs : List Val} (h : lstOf g M v = some xs) : lstOf g M' v = some xs := by
  cases v with
  | ref i =>
    simp only [lstOf] at h ⊢
    cases hm : M[i]? with
    | none => rw [hm] at h; cases h
    | some o => rw [a.get hm]; rw [hm] at h; exact h
  | con k => exact h
  | _ => cases h
theorem Xt.tup {g : Cfg} {M M' : Mem} (a : Xt M M') {v : Val} {xs : List Val} (h : tupOf g M v = some xs) : tupOf g M' v = some xs := by
  cases v with
  | ref i =>
    simp only [tupOf] at h ⊢
    cases hm : M[i]? with
    | none => rw [hm] at h; cases h
    | some o => rw [a.get hm]; rw [hm] at h; exact h
  | con k => exact h
  | _ => cases h
theorem Xt.scr {g : Cfg} {M M' : Mem} (a : Xt M M') {ns : List Int} {v : Val} (h : Scr g ns v M) : Scr g ns v M' := by
  obtain ⟨X, rfl⟩ := a
  exact h.app
theorem get_app {M X : Mem} {i : Nat} {o : Ob} (h : M[i]? = some o) : (M ++ X)[i]? = some o := Xt.app.get h
theorem lst_app {g : Cfg} {M X : Mem} {v : Val} {xs : List Val} (h : lstOf g M v = some xs) : lstOf g (M ++ X) v = some xs := Xt.app.lst h
theorem tup_app {g : Cfg} {M X : Mem} {v : Val} {xs : List Val} (h : tupOf g M v = some xs) : tupOf g (M ++ X) v = some xs := Xt.app.tup h
@[simp] theorem get_at (M X : Mem) (k : Nat) : (M ++ X)[M.length + k]? = X[k]? := by
  rw [List.getElem?_append_right (Nat.le_add_right ..), Nat.add_sub_cancel_left]
@[simp] theorem get_at0 (M X : Mem) : (M ++ X)[M.length]? = X[0]? := get_at M X 0
@[simp] theorem set_at (M X : Mem) (k : Nat) (o : Ob) : (M ++ X).set (M.length + k) o = M ++ X.set k o := by
  rw [List.set_append_right _ _ (Nat.le_add_right ..), Nat.add_sub_cancel_left]
@[simp] theorem set_at0 (M X : Mem) (o : Ob) : (M ++ X).set M.length o = M ++ X.set 0 o := set_at M X 0 o
theorem lst_ref {g : Cfg} {M : Mem} {i : Nat} {xs : List Val} (h : M[i]? = some (.lst xs)) : lstOf g M (.ref i) = some xs := by simp only [lstOf, h]
theorem tup_ref {g : Cfg} {M : Mem} {i : Nat} {xs : List Val} (h : M[i]? = some (.tup xs)) : tupOf g M (.ref i) = some xs := by simp only [tupOf, h]
@[simp] theorem lst_at0 (g : Cfg) (M X : Mem) (xs : List Val) : lstOf g (M ++ .lst xs :: X) (.ref M.length) = some xs := lst_ref (by simp)
/-! ### operations -/
@[simp] theorem w_eqi (g : Cfg) (a b : Int) (M : Mem) : oEq g (.int a) (.int b) M = .ok (.bl (decide (a = b))) M := by
  show R.ok (Val.bl (a == b)) M = _
  by_cases h : a = b <;> simp [h]
@[simp] theorem w_eqs (g : Cfg) (a b : List Nat) (M : Mem) : oEq g (.str a) (.str b) M = .ok (.bl (decide (a = b))) M := by
  show R.ok (Val.bl (a == b)) M = _
  by_cases h : a = b <;> simp [h]
@[simp] theorem w_eqb (g : Cfg) (a b : Bool) (M : Mem) : oEq g (.bl a) (.bl b) M = .ok (.bl (decide (a = b))) M := by
  show R.ok (Val.bl (a == b)) M = _
  cases a <;> cases b <;> rfl
@[simp] theorem w_eqin (g : Cfg) (a : Int) (M : Mem) : oEq g (.int a) .non M = .ok (.bl false) M := rfl
@[simp] theorem w_eqni (g : Cfg) (a : Int) (M : Mem) : oEq g .non (.int a) M = .ok (.bl false) M := rfl
@[simp] theorem w_eqsn (g : Cfg) (a : List Nat) (M : Mem) : oEq g (.str a) .non M = .ok (.bl false) M := rfl
@[simp] theorem w_eqis (g : Cfg) (a : Int) (b : List Nat) (M : Mem) : oEq g (.int a) (.str b) M = .ok (.bl false) M := rfl
@[simp] theorem w_eqsi (g : Cfg) (a : Int) (b : List Nat) (M : Mem) : oEq g (.str b) (.int a) M = .ok (.bl false) M := rfl
@[simp] theorem w_nei (g : Cfg) (a b : Int) (M : Mem) : oNe g (.int a) (.int b) M = .ok (.bl (decide (a ≠ b))) M := by
  show R.ok (Val.bl (!(a == b))) M = _
  by_cases h : a = b <;> simp [h]
@[simp] theorem w_nes (g : Cfg) (a b : List Nat) (M : Mem) : oNe g (.str a) (.str b) M = .ok (.bl (decide (a ≠ b))) M := by
  show R.ok (Val.bl (!(a == b))) M = _
  by_cases h : a = b <;> simp [h]
@[simp] theorem w_neb (g : Cfg) (a b : Bool) (M : Mem) : oNe g (.bl a) (.bl b) M = .ok (.bl (decide (a ≠ b))) M := by
  show R.ok (Val.bl (!(a == b))) M = _
  cases a <;> cases b <;> rfl
@[simp] theorem w_cmp (p : Int → Int → Bool) (a b : Int) (M : Mem) : oCmp p (.int a) (.int b) M = .ok (.bl (p a b)) M := rfl
@[simp] theorem w_addi (a b : Int) (M : Mem) : oAdd (.int a) (.int b) M = .ok (.int (a + b)) M := rfl
@[simp] theorem w_adds (a b : List Nat) (M : Mem) : oAdd (.str a) (.str b) M = if a.length + b.length ≤ 1000000 then .ok (.str (a ++ b)) M else .no := rfl
@[simp] theorem w_sub (a b : Int) (M : Mem) : oSub (.int a) (.int b) M = .ok (.int (a - b)) M := rfl
@[simp] theorem w_mul (i j : Int) (M : Mem) : iMul (.int i) (.int j) M = if (-18446744073709551616 < i ∧ i < 18446744073709551616) ∨ (-18446744073709551616 < j ∧ j < 18446744073709551616) then .ok (.int (i * j)) M else .no := rfl
@[simp] theorem w_div (i j : Int) (M : Mem) : oDiv (.int i) (.int j) M = if 0 < j ∧ j < 18446744073709551616 then .ok (.int (i / j)) M else .no := rfl
@[simp] theorem w_mod (i j : Int) (M : Mem) : oMod (.int i) (.int j) M = if 0 < j then .ok (.int (i % j)) M else .no := rfl
@[simp] theorem w_pow (i j : Int) (M : Mem) : oPow (.int i) (.int j) M = if 0 ≤ j ∧ j ≤ 1000 ∧ -1000000 < i ∧ i < 1000000 then .ok (.int (i ^ j.toNat)) M else .no := rfl
@[simp] theorem w_shl (i j : Int) (M : Mem) : oShl (.int i) (.int j) M = if 0 ≤ j ∧ j ≤ 1000 ∧ -1000000 < i ∧ i < 1000000 then .ok (.int (i * 2 ^ j.toNat)) M else .no := rfl
@[simp] theorem w_shr (i j : Int) (M : Mem) : oShr (.int i) (.int j) M = if 0 ≤ j then .ok (.int (i / 2 ^ j.toNat)) M else .no := rfl
@[simp] theorem w_and (i j : Int) (M : Mem) : oAnd (.int i) (.int j) M = .ok (.int (Builtin.bitAnd i j)) M := rfl
@[simp] theorem w_or (i j : Int) (M : Mem) : oOr (.int i) (.int j) M = .ok (.int (Builtin.bitOr i j)) M := rfl
@[simp] theorem w_isn (x : Val) (M : Mem) : oIs false x .non M = .ok (.bl (decide (x = .non))) M := rfl
@[simp] theorem w_isnn (x : Val) (M : Mem) : oIs true x .non M = .ok (.bl (!decide (x = .non))) M := rfl
@[simp] theorem w_inti (i : Int) (M : Mem) : bInt [.int i] M = .ok (.int i) M := rfl
@[simp] theorem w_intb (b : Bool) (M : Mem) : bInt [.bl b] M = .ok (.int (if b = true then 1 else 0)) M := rfl
@[simp] theorem w_max (i j : Int) (M : Mem) : bMax [.int i, .int j] M = .ok (.int (if j > i then j else i)) M := rfl
@[simp] theorem w_min (i j : Int) (M : Mem) : bMin [.int i, .int j] M = .ok (.int (if j < i then j else i)) M := rfl
theorem w_len {g : Cfg} {M : Mem} {v : Val} {xs : List Val} (h : lstOf g M v = some xs) : bLen g [v] M = .ok (.int xs.length) M := by
  cases v with
  | str s => cases h
  | _ => simp only [bLen, seqOf, h]
theorem w_lent {g : Cfg} {M : Mem} {v : Val} {xs : List Val} (h0 : lstOf g M v = none) (h : tupOf g M v = some xs) : bLen g [v] M = .ok (.int xs.length) M := by
  cases v with
  | str s => cases h
  | _ => simp only [bLen, seqOf, h0, h]
@[simp] theorem w_lens (g : Cfg) (s : List Nat) (M : Mem) : bLen g [.str s] M = if s.length ≤ 1000000 then .ok (.int s.length) M else .no := rfl
theorem w_ix {g : Cfg} {M : Mem} {v : Val} {xs : List Val} {i : Int} {x : Val} (h : lstOf g M v = some xs) (h2 : atI xs i = some x) : oIx g v (.int i) M = .ok x M := by
  cases v with
  | str s => cases h
  | _ => simp only [oIx, qIx, seqOf, h, h2, u_of]
theorem w_ixt {g : Cfg} {M : Mem} {v : Val} {xs : List Val} {i : Int} {x : Val} (h0 : lstOf g M v = none) (h : tupOf g M v = some xs) (h2 : atI xs i = some x) : oIx g v (.int i) M = .ok x M := by
  cases v with
  | str s => cases h
  | _ => simp only [oIx, qIx, seqOf, h0, h, h2, u_of]
theorem w_ixs {g : Cfg} {M : Mem} {s : List Nat} {i : Int} {c : Nat} (h : s.length ≤ 1000000) (h2 : atI s i = some c) : oIx g (.str s) (.int i) M = .ok (.str [c]) M := by
  simp only [oIx, sIx, h, h2, if_true]
theorem at_nat {α : Type} {xs : List α} {k : Nat} {x : α} (h : xs[k]? = some x) : atI xs (k : Int) = some x := by
  have l : k < xs.length := (List.getElem?_eq_some_iff.mp h).1
  have e : ixN xs.length (k : Int) = some k := by
    unfold ixN
    rw [if_pos (by omega), if_pos (by omega)]
    simp
  unfold atI
  rw [e]; exact h
theorem at_int {α : Type} {xs : List α} {i : Int} {x : α} (h0 : 0 ≤ i) (h : xs[i.toNat]? = some x) : atI xs i = some x := by
  have := at_nat h
  rwa [Int.toNat_of_nonneg h0] at this
theorem w_list {g : Cfg} {M : Mem} {v : Val} {xs : List Val} (h : lstOf g M v = some xs) : bList g [v] M = .ok (.ref M.length) (M ++ [.lst xs]) := by
  simp only [bList, seqOf, h]
theorem bls_map {α : Type} (f : α → Bool) : ∀ xs : List α, blsOf (xs.map fun x => .bl (f x)) = some (xs.map f)
  | [] => rfl
  | x :: xs => by
    simp only [List.map_cons, blsOf, bls_map f xs, Option.map_some]
theorem ints_map {α : Type} (f : α → Int) : ∀ xs : List α, intsOf (xs.map fun x => .int (f x)) = some (xs.map f)
  | [] => rfl
  | x :: xs => by
    simp only [List.map_cons, intsOf, ints_map f xs, Option.map_some]
theorem w_all {g : Cfg} {M : Mem} {v : Val} {xs : List Val} {bs : List Bool} (h : lstOf g M v = some xs) (h2 : blsOf xs = some bs) : bAll g [v] M = .ok (.bl (bs.all id)) M := by
  simp only [bAll, h, Option.bind_some, h2]
theorem w_any {g : Cfg} {M : Mem} {v : Val} {xs : List Val} {bs : List Bool} (h : lstOf g M v = some xs) (h2 : blsOf xs = some bs) : bAny g [v] M = .ok (.bl (bs.any id)) M := by
  simp only [bAny, h, Option.bind_some, h2]
theorem w_sum {g : Cfg} {M : Mem} {v : Val} {xs : List Val} {bs : List Int} (h : lstOf g M v = some xs) (h2 : intsOf xs = some bs) : bSum g [v] M = .ok (.int bs.sum) M := by
  simp only [bSum, h, Option.bind_some, h2]
theorem w_app {M : Mem} {a : Nat} {xs : List Val} {v : Val} (h : M[a]? = some (.lst xs)) (hl : xs.length < 1000000) : mAppend (.ref a) [v] M = .ok .non (M.set a (.lst (xs ++ [v]))) := by
  simp only [mAppend, h, hl, if_true]
theorem w_isl {M : Mem} {a : Nat} {xs : List Val} (h : M[a]? = some (.lst xs)) : isTy "list" M (.ref a) = true := by
  simp only [isTy, h]; rfl
@[simp] theorem w_isS (s : List Nat) (M : Mem) : isTy "str" M (.str s) = true := rfl
@[simp] theorem w_tyi (g : Cfg) (cs : List String) (M : Mem) (i : Int) : tyOf g cs M (.int i) = some "int" := rfl
@[simp] theorem w_tyb (g : Cfg) (cs : List String) (M : Mem) (i : Bool) : tyOf g cs M (.bl i) = some "bool" := rfl
@[simp] theorem w_tys (g : Cfg) (cs : List String) (M : Mem) (i : List Nat) : tyOf g cs M (.str i) = some "str" := rfl
@[simp] theorem w_tyn (g : Cfg) (cs : List String) (M : Mem) : tyOf g cs M .non = some "NoneType" := rfl
theorem w_tyl {g : Cfg} {cs : List String} {M : Mem} {v : Val} {xs : List Val} (h : lstOf g M v = some xs) : tyOf g cs M v = some "list" := by
  cases v with
  | ref a =>
    simp only [lstOf] at h
    simp only [tyOf]
    split at h
    · rename_i hm; rw [hm]
    · rename_i hm; rw [hm]
    · cases h
  | con k =>
    simp only [lstOf] at h
    simp only [tyOf]
    split at h
    · rename_i hm; rw [hm]; rfl
    · cases h
  | _ => cases h
@[simp] theorem w_trb (M : Mem) (b : Bool) : truOf M (.bl b) = some b := rfl
@[simp] theorem w_tri (M : Mem) (i : Int) : truOf M (.int i) = some (i != 0) := rfl
@[simp] theorem w_trn (M : Mem) : truOf M .non = some false := rfl
theorem w_trl {M : Mem} {a : Nat} {xs : List Val} (h : M[a]? = some (.lst xs)) : truOf M (.ref a) = some (!xs.isEmpty) := by simp only [truOf, h]
/-! ### what is walked -/
@[simp] theorem w_yr (g : Cfg) (lo c : Int) (n i : Nat) (M : Mem) : yld g (.rng lo c n) i M = .ok (.int (lo + (i : Int) * c)) M := rfl
@[simp] theorem w_fr (g : Cfg) (lo c : Int) (n i : Nat) (M : Mem) : fin g (.rng lo c n) i M = decide (n ≤ i) := rfl
@[simp] theorem w_ys (g : Cfg) (s : List Nat) (i : Nat) (M : Mem) : Ev (yld g (.str s) i M) = fun Q => ∃ c, s[i]? = some c ∧ Q (.str [c]) M := by
  funext Q
  simp only [yld]
  cases h : s[i]? <;> simp
@[simp] theorem w_fs (g : Cfg) (s : List Nat) (i : Nat) (M : Mem) : fin g (.str s) i M = decide (s.length ≤ i) := rfl
theorem w_yl {g : Cfg} {M : Mem} {v : Val} {xs : List Val} {n i : Nat} {x : Val} (h : lstOf g M v = some xs) (h2 : xs[i]? = some x) : yld g (.lst v n) i M = .ok x M := by
  simp only [yld, h, h2, u_of]
theorem w_fl {g : Cfg} {M : Mem} {v : Val} {xs : List Val} {n i : Nat} (h : lstOf g M v = some xs) (h2 : xs.length ≤ i) : fin g (.lst v n) i M = true := by
  simp only [fin, h, h2, decide_true]
theorem w_yt {g : Cfg} {M : Mem} {v : Val} {xs : List Val} {n i : Nat} {x : Val} (h : tupOf g M v = some xs) (h2 : xs[i]? = some x) : yld g (.tup v n) i M = .ok x M := by
  simp only [yld, h, h2, u_of]
theorem w_ft {g : Cfg} {M : Mem} {v : Val} {xs : List Val} {n i : Nat} (h : tupOf g M v = some xs) (h2 : xs.length ≤ i) : fin g (.tup v n) i M = true := by
  simp only [fin, h, h2, decide_true]
def PSeqI (g : Cfg) (Q : Itb → Mem → Prop) : Val → Mem → Prop := fun v M => Ev (iSeq g (fun _ M => .ok v M) [] M) Q
@[simp] theorem u_iSeq (g : Cfg) (d : D) (L : Loc) (M : Mem) (Q : Itb → Mem → Prop) : Ev (iSeq g d L M) Q = Ev (d L M) (PSeqI g Q) := by
  unfold PSeqI iSeq
  rw [ev_bind]
  rfl
@[simp] theorem v_iSeqs (g : Cfg) (Q : Itb → Mem → Prop) (s : List Nat) (M : Mem) : PSeqI g Q (.str s) M = Q (.str s) M := by
  simp [PSeqI, iSeq, R.bind_ok]
theorem v_iSeql {g : Cfg} {v : Val} {xs : List Val} {M : Mem} (h : lstOf g M v = some xs) (Q : Itb → Mem → Prop) : PSeqI g Q v M = Q (.lst v xs.length) M := by
  cases v with
  | str s => cases h
  | _ => simp [PSeqI, iSeq, R.bind_ok, h]
theorem v_iSeqt {g : Cfg} {v : Val} {xs : List Val} {M : Mem} (h0 : lstOf g M v = none) (h : tupOf g M v = some xs) (Q : Itb → Mem → Prop) : PSeqI g Q v M = Q (.tup v xs.length) M := by
  cases v with
  | str s => cases h
  | _ => simp [PSeqI, iSeq, R.bind_ok, h, h0]
def PR1 (Q : Itb → Mem → Prop) : List Val → Mem → Prop := fun vs M => Ev (iR1 (fun _ M => .ok vs M) [] M) Q
@[simp] theorem u_iR1 (d : DA) (L : Loc) (M : Mem) (Q : Itb → Mem → Prop) : Ev (iR1 d L M) Q = Ev (d L M) (PR1 Q) := by
  unfold PR1 iR1
  rw [ev_bind]
  rfl
@[simp] theorem v_iR1 (Q : Itb → Mem → Prop) (j : Int) (M : Mem) : PR1 Q [.int j] M = ((-1000000 ≤ j ∧ j ≤ 1000000) ∧ Q (.rng 0 1 j.toNat) M) := by
  simp only [PR1, iR1, R.bind_ok, ev_guard, ev_ok]
def PR2 (Q : Itb → Mem → Prop) : List Val → Mem → Prop := fun vs M => Ev (iR2 (fun _ M => .ok vs M) [] M) Q
@[simp] theorem u_iR2 (d : DA) (L : Loc) (M : Mem) (Q : Itb → Mem → Prop) : Ev (iR2 d L M) Q = Ev (d L M) (PR2 Q) := by
  unfold PR2 iR2
  rw [ev_bind]
  rfl
@[simp] theorem v_iR2 (Q : Itb → Mem → Prop) (i j : Int) (M : Mem) : PR2 Q [.int i, .int j] M = ((-1000000 ≤ j ∧ j ≤ 1000000 ∧ -1000000 ≤ i ∧ i ≤ 1000000) ∧ Q (.rng i 1 (j - i).toNat) M) := by
  simp only [PR2, iR2, R.bind_ok, ev_guard, ev_ok]
/-! ### comprehensions -/
def PTt (te : D) (L : Loc) (S : Option Val → Mem → Prop) : Val → Mem → Prop := fun t M => match t with
  | .bl true => Ev (te L M) fun y M => S (some y) M
  | .bl false => S none M
  | _ => False
def PTs2 (S : Option Val → Mem → Prop) : Val → Mem → Prop := fun y M => S (some y) M
@[simp] theorem v_PTs2 (S : Option Val → Mem → Prop) (y : Val) (M : Mem) : PTs2 S y M = S (some y) M := rfl
@[simp] theorem v_PTt (te : D) (L : Loc) (S : Option Val → Mem → Prop) (k : Bool) (M : Mem) : PTt te L S (.bl k) M = ((k = true → Ev (te L M) (PTs2 S)) ∧ (k = false → S none M)) := by
  cases k <;> simp [PTt]; rfl
def PTg (tt te : D) (S : Option Val → Mem → Prop) : Loc → Mem → Prop := fun L M => Ev (tt L M) (PTt te L S)
@[simp] theorem v_PTg (tt te : D) (S : Option Val → Mem → Prop) (L : Loc) (M : Mem) : PTg tt te S L M = Ev (tt L M) (PTt te L S) := rfl
@[simp] theorem u_cYes (L : Loc) (M : Mem) (Q : Val → Mem → Prop) : Ev (cYes L M) Q = Q (.bl true) M := by
  unfold cYes
  exact ev_ok _ _ _
def PYl (tg : DT) (tt te : D) (L : Loc) (S : Option Val → Mem → Prop) : Val → Mem → Prop := fun v M => Ev (tg v L M) (PTg tt te S)
@[simp] theorem v_PYl (tg : DT) (tt te : D) (L : Loc) (S : Option Val → Mem → Prop) (v : Val) (M : Mem) : PYl tg tt te L S v M = Ev (tg v L M) (PTg tt te S) := rfl
def PXt (M : Mem) (o : Option Val) : Option Val → Mem → Prop := fun o' M' => o' = o ∧ Xt M M'
@[simp] theorem v_PXt (M : Mem) (o o' : Option Val) (M' : Mem) : PXt M o o' M' = (o' = o ∧ Xt M M') := rfl
theorem compL_ev {g : Cfg} {it : Itb} {tg : DT} {tt te : D} {D0 : Nat} {L0 : Loc} {M0 : Mem} {F : Nat → Option Val} (hD : D0 = M0.length) : ∀ {n i : Nat} {acc : List Val} {M : Mem}, Xt M0 M → M[D0]? = some (.lst acc) → acc.length + n ≤ 1000000 →
    (∀ j M, i ≤ j → j < i + n → Xt M0 M → Ev (yld g it j M) (PYl tg tt te L0 (PXt M (F j)))) → (∀ M, Xt M0 M → fin g it (i + n) M = true) →
    Ev (compL g it tg tt te D0 L0 n i M) fun _ M' => ∃ X, M' = M0 ++ .lst (acc ++ (List.range' i n).filterMap F) :: X
  | 0, i, acc, M, x, h, _, _, hf => by
    have h1 := hf M x
    rw [Nat.add_zero] at h1
    simp only [compL, h1, if_true, ev_ok]
    obtain ⟨X, rfl⟩ := x
    subst hD
    rw [get_at0] at h
    cases X with
    | nil => cases h
    | cons o X =>
      cases h
      exact ⟨X, by simp⟩
  | n + 1, i, acc, M, x, h, hl, hs, hf => by
    have z := hs i M (Nat.le_refl _) (by omega) x
    simp only [compL]
    rw [ev_bind]
    refine z.mono fun v M1 z => ?_
    rw [ev_bind]
    refine Ev.mono z fun L1 M2 z => ?_
    rw [ev_bind]
    refine Ev.mono z fun b M3 z => ?_
    have hs' : ∀ j M, i + 1 ≤ j → j < i + 1 + n → Xt M0 M → Ev (yld g it j M) (PYl tg tt te L0 (PXt M (F j))) := fun j M h1 h2 => hs j M (by omega) (by omega)
    have hf' : ∀ M, Xt M0 M → fin g it (i + 1 + n) M = true := fun M x => by
      have e : i + 1 + n = i + (n + 1) := by omega
      rw [e]; exact hf M x
    have e : List.range' i (n + 1) = i :: List.range' (i + 1) n := by rw [List.range'_succ]
    cases b with
    | bl k =>
      cases k with
      | true =>
        simp only
        rw [ev_bind]
        refine Ev.mono z fun y M4 z => ?_
        obtain ⟨z1, z2⟩ := z
        have h4 : M4[D0]? = some (.lst acc) := z2.get h
        rw [h4]
        have hlt : acc.length < 1000000 := by omega
        simp only [hlt, if_true]
        have x4 : Xt M0 (M4.set D0 (.lst (acc ++ [y]))) := by
          obtain ⟨X, rfl⟩ := x.trans z2
          subst hD
          rw [set_at0]
          exact ⟨_, rfl⟩
        have g4 : (M4.set D0 (.lst (acc ++ [y])))[D0]? = some (.lst (acc ++ [y])) := by
          rw [List.getElem?_set_self (lt_of_get h4)]
        refine (compL_ev hD (n := n) (i := i + 1) x4 g4 (by rw [List.length_append, List.length_singleton]; omega) hs' hf').mono fun _ M' ⟨X, q⟩ => ⟨X, ?_⟩
        rw [q, e, List.filterMap_cons, ← z1]
        simp
      | false =>
        obtain ⟨z1, z2⟩ := z
        simp only
        refine (compL_ev hD (n := n) (i := i + 1) (x.trans z2) (z2.get h) (by omega) hs' hf').mono fun _ M' ⟨X, q⟩ => ⟨X, ?_⟩
        rw [q, e, List.filterMap_cons, ← z1]
    | _ => exact z.elim
def PCmp (g : Cfg) (tg : DT) (tt te : D) (vs : List Nat) (L : Loc) (Q : Val → Mem → Prop) : Itb → Mem → Prop := fun b M => Ev (compL g b tg tt te M.length (wipeL L vs) b.num 0 (M ++ [.lst []])) fun _ M2 => Q (.ref M.length) M2
@[simp] theorem u_dComp (g : Cfg) (it : DI) (tg : DT) (tt te : D) (vs : List Nat) (L : Loc) (M : Mem) (Q : Val → Mem → Prop) : Ev (dComp g it tg tt te vs L M) Q = Ev (it L M) (PCmp g tg tt te vs L Q) := by
  unfold dComp
  rw [ev_bind]
  refine congrArg _ (funext fun b => funext fun M => ?_)
  rw [ev_bind]
  refine congrArg _ (funext fun b => funext fun M => ?_)
  exact ev_ok _ _ _
/-- a comprehension whose items change nothing -/
theorem comp_ev {g : Cfg} {b : Itb} {tg : DT} {tt te : D} {vs : List Nat} {L : Loc} {M : Mem} {Q : Val → Mem → Prop} (F : Nat → Option Val) (hn : b.num ≤ 1000000) (hs : ∀ j M', j < b.num → Xt M M' → Ev (yld g b j M') (PYl tg tt te (wipeL L vs) (PXt M' (F j)))) (hf : ∀ M', Xt M M' → fin g b b.num M' = true)
    (k : ∀ X, Q (.ref M.length) (M ++ .lst ((List.range b.num).filterMap F) :: X)) : PCmp g tg tt te vs L Q b M := by
  refine (compL_ev (M0 := M) (F := F) rfl (n := b.num) (i := 0) (acc := []) Xt.app (by simp) (by simpa using hn) (fun j M' _ h2 x => hs j M' (by omega) x) (fun M' x => by rw [Nat.zero_add]; exact hf M' x)).mono fun _ M' ⟨X, q⟩ => ?_
  rw [q, List.nil_append, ← List.range_eq_range']
  exact k X
theorem comp_rng {g : Cfg} {n : Nat} {tg : DT} {tt te : D} {vs : List Nat} {L : Loc} {M : Mem} {Q : Val → Mem → Prop} (F : Nat → Option Val) (hn : n ≤ 1000000) (hs : ∀ j M', j < n → Xt M M' → PYl tg tt te (wipeL L vs) (PXt M' (F j)) (.int j) M')
    (k : ∀ X, Q (.ref M.length) (M ++ .lst ((List.range n).filterMap F) :: X)) : PCmp g tg tt te vs L Q (.rng 0 1 n) M :=
  comp_ev F hn (fun j M' h x => by simpa using hs j M' h x) (fun M' _ => by simp [Itb.num]) k
theorem comp_rng2 {g : Cfg} {n : Nat} {lo : Int} {tg : DT} {tt te : D} {vs : List Nat} {L : Loc} {M : Mem} {Q : Val → Mem → Prop} (F : Nat → Option Val) (hn : n ≤ 1000000) (hs : ∀ j M', j < n → Xt M M' → PYl tg tt te (wipeL L vs) (PXt M' (F j)) (.int (lo + j)) M')
    (k : ∀ X, Q (.ref M.length) (M ++ .lst ((List.range n).filterMap F) :: X)) : PCmp g tg tt te vs L Q (.rng lo 1 n) M :=
  comp_ev F hn (fun j M' h x => by simpa using hs j M' h x) (fun M' _ => by simp [Itb.num]) k
theorem fm_list {α β : Type} (xs : List α) (f : α → Option β) : (List.range xs.length).filterMap (fun j => (xs[j]?).bind f) = xs.filterMap f := by
  induction xs with
  | nil => rfl
  | cons x xs ih =>
    rw [List.length_cons, List.range_succ_eq_map, List.filterMap_cons, List.filterMap_map]
    have e : (fun j => (x :: xs)[j]?.bind f) ∘ Nat.succ = fun j => (xs[j]?).bind f := by
      funext j; simp
    rw [e, ih, List.filterMap_cons]
    simp
theorem comp_lst {g : Cfg} {v : Val} {xs : List Val} {tg : DT} {tt te : D} {vs : List Nat} {L : Loc} {M : Mem} {Q : Val → Mem → Prop} (F : Val → Option Val) (h : lstOf g M v = some xs) (hn : xs.length ≤ 1000000) (hs : ∀ x M', x ∈ xs → Xt M M' → PYl tg tt te (wipeL L vs) (PXt M' (F x)) x M')
    (k : ∀ X, Q (.ref M.length) (M ++ .lst (xs.filterMap F) :: X)) : PCmp g tg tt te vs L Q (.lst v xs.length) M := by
  refine comp_ev (fun j => (xs[j]?).bind F) hn (fun j M' hj x => ?_) (fun M' x => w_fl (x.lst h) (Nat.le_refl _)) fun X => ?_
  · have e : xs[j]? = some xs[j] := List.getElem?_eq_getElem hj
    rw [w_yl (x.lst h) e, ev_ok, e]
    exact hs _ _ (List.getElem_mem hj) x
  · have e : (Itb.lst v xs.length).num = xs.length := rfl
    rw [e, fm_list]
    exact k X
theorem comp_str {g : Cfg} {s : List Nat} {tg : DT} {tt te : D} {vs : List Nat} {L : Loc} {M : Mem} {Q : Val → Mem → Prop} (F : Nat → Option Val) (hn : s.length ≤ 1000000) (hs : ∀ x M', x ∈ s → Xt M M' → PYl tg tt te (wipeL L vs) (PXt M' (F x)) (.str [x]) M')
    (k : ∀ X, Q (.ref M.length) (M ++ .lst (s.filterMap F) :: X)) : PCmp g tg tt te vs L Q (.str s) M := by
  refine comp_ev (fun j => (s[j]?).bind F) hn (fun j M' hj x => ?_) (fun M' x => by simp [Itb.num]) fun X => ?_
  · have e : s[j]? = some s[j] := List.getElem?_eq_getElem hj
    simp only [w_ys]
    refine ⟨_, e, ?_⟩
    rw [e]
    exact hs _ _ (List.getElem_mem hj) x
  · have e : (Itb.str s).num = s.length := rfl
    rw [e, fm_list]
    exact k X
theorem fm_map {α β : Type} (f : α → β) (xs : List α) : xs.filterMap (fun x => some (f x)) = xs.map f := by
  induction xs with
  | nil => rfl
  | cons x xs ih => rw [List.filterMap_cons, List.map_cons, ih]
theorem fm_filter {α β : Type} (p : α → Bool) (f : α → β) (xs : List α) : xs.filterMap (fun x => if p x = true then some (f x) else none) = (xs.filter p).map f := by
  induction xs with
  | nil => rfl
  | cons x xs ih =>
    rw [List.filterMap_cons, List.filter_cons]
    cases h : p x <;> simp [ih]
/-! ### loops unrolled; lists compared -/
def PUn2 (g : Cfg) (it : Itb) (tg : DT) (body : Ds) (n i : Nat) (Q : Fl → Mem → Prop) : Fl → Mem → Prop := fun f M => match f with
  | .nx L => Ev (forL g it tg body n (i + 1) L M) Q
  | .ct L => Ev (forL g it tg body n (i + 1) L M) Q
  | .bk L => Q (.nx L) M
  | .rt v => Q (.rt v) M
@[simp] theorem v_PUn2n (g : Cfg) (it : Itb) (tg : DT) (body : Ds) (n i : Nat) (Q : Fl → Mem → Prop) (L : Loc) (M : Mem) : PUn2 g it tg body n i Q (.nx L) M = Ev (forL g it tg body n (i + 1) L M) Q := rfl
@[simp] theorem v_PUn2c (g : Cfg) (it : Itb) (tg : DT) (body : Ds) (n i : Nat) (Q : Fl → Mem → Prop) (L : Loc) (M : Mem) : PUn2 g it tg body n i Q (.ct L) M = Ev (forL g it tg body n (i + 1) L M) Q := rfl
@[simp] theorem v_PUn2b (g : Cfg) (it : Itb) (tg : DT) (body : Ds) (n i : Nat) (Q : Fl → Mem → Prop) (L : Loc) (M : Mem) : PUn2 g it tg body n i Q (.bk L) M = Q (.nx L) M := rfl
@[simp] theorem v_PUn2r (g : Cfg) (it : Itb) (tg : DT) (body : Ds) (n i : Nat) (Q : Fl → Mem → Prop) (v : Val) (M : Mem) : PUn2 g it tg body n i Q (.rt v) M = Q (.rt v) M := rfl
def PUn1 (g : Cfg) (it : Itb) (tg : DT) (body : Ds) (n i : Nat) (L : Loc) (Q : Fl → Mem → Prop) : Val → Mem → Prop := fun v M => Ev (tg v L M) (PTgt body (PUn2 g it tg body n i Q))
@[simp] theorem v_PUn1 (g : Cfg) (it : Itb) (tg : DT) (body : Ds) (n i : Nat) (L : Loc) (Q : Fl → Mem → Prop) (v : Val) (M : Mem) : PUn1 g it tg body n i L Q v M = Ev (tg v L M) (PTgt body (PUn2 g it tg body n i Q)) := rfl
theorem un_S (g : Cfg) (it : Itb) (tg : DT) (body : Ds) (n i : Nat) (L : Loc) (M : Mem) (Q : Fl → Mem → Prop) : Ev (forL g it tg body (n + 1) i L M) Q = Ev (yld g it i M) (PUn1 g it tg body n i L Q) := by
  simp only [forL]
  rw [ev_bind]
  refine congrArg _ (funext fun v => funext fun M => ?_)
  rw [ev_bind]
  refine congrArg _ (funext fun L => funext fun M => ?_)
  rw [ev_bind]
  refine congrArg _ (funext fun f => funext fun M => ?_)
  cases f <;> first | rfl | exact ev_ok _ _ _
theorem un_Z (g : Cfg) (it : Itb) (tg : DT) (body : Ds) (i : Nat) (L : Loc) (M : Mem) (Q : Fl → Mem → Prop) : Ev (forL g it tg body 0 i L M) Q = (fin g it i M = true ∧ Q (.nx L) M) := by
  simp only [forL]
  rw [ev_guard, ev_ok]
@[simp] theorem num_rng (a b : Int) (n : Nat) : (Itb.rng a b n).num = n := rfl
@[simp] theorem num_lst (v : Val) (n : Nat) : (Itb.lst v n).num = n := rfl
@[simp] theorem num_tup (v : Val) (n : Nat) : (Itb.tup v n).num = n := rfl
@[simp] theorem num_str (s : List Nat) : (Itb.str s).num = s.length := rfl
theorem range3 : List.range 3 = [0, 1, 2] := rfl
theorem mapO_ints (g : Cfg) (M : Mem) (n : Nat) : ∀ {xs : List Val} {is : List Int}, intsOf xs = some is → mapO (deep g M n) xs = some (is.map .int)
  | [], is, h => by cases h; rfl
  | .int i :: xs, is, h => by
    simp only [intsOf] at h
    obtain ⟨js, h1, rfl⟩ := Option.map_eq_some_iff.mp h
    simp only [mapO, deep, mapO_ints g M n h1, List.map_cons]
  | .non :: _, _, h => by cases h
  | .bl _ :: _, _, h => by cases h
  | .str _ :: _, _, h => by cases h
  | .ref _ :: _, _, h => by cases h
  | .con _ :: _, _, h => by cases h
theorem eqDs_ints : ∀ is js : List Int, eqDs (is.map .int) (js.map .int) = decide (is = js)
  | [], [] => rfl
  | [], _ :: _ => rfl
  | _ :: _, [] => rfl
  | i :: is, j :: js => by
    simp only [List.map_cons, eqDs, eqD, eqDs_ints is js]
    by_cases h : i = j <;> simp [h]
theorem lst_flat {g : Cfg} {M : Mem} {v : Val} {xs : List Val} (h : lstOf g M v = some xs) : flat v = false := by
  cases v with
  | ref _ => rfl
  | con _ => rfl
  | _ => cases h
theorem scal_l {x y : Val} (h : flat x = false) : scalF x y = false := by
  cases x <;> cases y <;> first | rfl | (simp only [scalF, flat] at *; done) | (simp [scalF, flat] at *)
theorem deep_lst {g : Cfg} {M : Mem} {v : Val} {xs : List Val} {ds : List Dat} {n : Nat} (h : lstOf g M v = some xs) (h2 : mapO (deep g M n) xs = some ds) : deep g M (n + 1) v = some (.lst ds) := by
  cases v with
  | ref a => simp only [deep, h, h2, Option.map_some]
  | con k => simp only [deep, h, h2, Option.map_some]
  | _ => cases h
theorem deep_tup {g : Cfg} {M : Mem} {v : Val} {xs : List Val} {ds : List Dat} {n : Nat} (h0 : lstOf g M v = none) (h : tupOf g M v = some xs) (h2 : mapO (deep g M n) xs = some ds) : deep g M (n + 1) v = some (.tup ds) := by
  cases v with
  | ref a => simp only [deep, h0, h, h2, Option.map_some]
  | con k => simp only [deep, h0, h, h2, Option.map_some]
  | _ => cases h
theorem w_eqd {g : Cfg} {M : Mem} {x y : Val} {d e : Dat} (hf : flat x = false) (h1 : deep g M 60 x = some d) (h2 : deep g M 60 y = some e) : oEq g x y M = .ok (.bl (eqD d e)) M := by
  simp only [oEq, scal_l hf, Bool.false_eq_true, if_false, oEqD, h1, h2]
theorem w_ned {g : Cfg} {M : Mem} {x y : Val} {d e : Dat} (hf : flat x = false) (h1 : deep g M 60 x = some d) (h2 : deep g M 60 y = some e) : oNe g x y M = .ok (.bl (!eqD d e)) M := by
  simp only [oNe, scal_l hf, Bool.false_eq_true, if_false, oEqD, h1, h2, if_true]
theorem w_eqL {g : Cfg} {M : Mem} {x y : Val} {xs ys : List Val} {is js : List Int} (h1 : lstOf g M x = some xs) (h2 : lstOf g M y = some ys) (h3 : intsOf xs = some is) (h4 : intsOf ys = some js) : oEq g x y M = .ok (.bl (decide (is = js))) M := by
  rw [w_eqd (lst_flat h1) (deep_lst h1 (mapO_ints g M 59 h3)) (deep_lst h2 (mapO_ints g M 59 h4))]
  simp only [eqD, eqDs_ints]
theorem w_neL {g : Cfg} {M : Mem} {x y : Val} {xs ys : List Val} {is js : List Int} (h1 : lstOf g M x = some xs) (h2 : lstOf g M y = some ys) (h3 : intsOf xs = some is) (h4 : intsOf ys = some js) : oNe g x y M = .ok (.bl (!decide (is = js))) M := by
  rw [w_ned (lst_flat h1) (deep_lst h1 (mapO_ints g M 59 h3)) (deep_lst h2 (mapO_ints g M 59 h4))]
  simp only [eqD, eqDs_ints]
@[simp] theorem ints_nil : intsOf [] = some [] := rfl
@[simp] theorem ints_cons (i : Int) (xs : List Val) : intsOf (.int i :: xs) = (intsOf xs).map (i :: ·) := rfl
@[simp] theorem bls_nil : blsOf [] = some [] := rfl
@[simp] theorem bls_cons (i : Bool) (xs : List Val) : blsOf (.bl i :: xs) = (blsOf xs).map (i :: ·) := rfl
/-! ### objects made here -/
def isL : Option Ob → Bool
  | some (.lst _) => true
  | _ => false
def isT : Option Ob → Bool
  | some (.tup _) => true
  | _ => false
def isI : Option Ob → Bool
  | some (.ins _ _) => true
  | _ => false
def obL : Option Ob → List Val
  | some (.lst xs) => xs
  | some (.tup xs) => xs
  | _ => []
def obC : Option Ob → String
  | some (.ins c _) => c
  | _ => ""
def obF : Option Ob → List (String × Val)
  | some (.ins _ fs) => fs
  | _ => []
@[simp] theorem isL_l (xs : List Val) : isL (some (.lst xs)) = true := by simp only [isL]
@[simp] theorem isT_t (xs : List Val) : isT (some (.tup xs)) = true := by simp only [isT]
@[simp] theorem isI_i (c : String) (fs : List (String × Val)) : isI (some (.ins c fs)) = true := by simp only [isI]
@[simp] theorem obL_l (xs : List Val) : obL (some (.lst xs)) = xs := rfl
@[simp] theorem obL_t (xs : List Val) : obL (some (.tup xs)) = xs := rfl
@[simp] theorem obC_i (c : String) (fs : List (String × Val)) : obC (some (.ins c fs)) = c := rfl
@[simp] theorem obF_i (c : String) (fs : List (String × Val)) : obF (some (.ins c fs)) = fs := rfl
theorem isL_eq {o : Option Ob} (h : isL o = true) : o = some (.lst (obL o)) := by
  unfold isL at h
  split at h
  · rfl
  · cases h
theorem isT_eq {o : Option Ob} (h : isT o = true) : o = some (.tup (obL o)) := by
  unfold isT at h
  split at h
  · rfl
  · cases h
theorem isI_eq {o : Option Ob} (h : isI o = true) : o = some (.ins (obC o) (obF o)) := by
  unfold isI at h
  split at h
  · rfl
  · cases h
theorem lst_obL {g : Cfg} {M : Mem} {a : Nat} (h : isL M[a]? = true) : lstOf g M (.ref a) = some (obL M[a]?) := by
  rw [lst_ref (isL_eq h)]
theorem tup_obL {g : Cfg} {M : Mem} {a : Nat} (h : isT M[a]? = true) : lstOf g M (.ref a) = none ∧ tupOf g M (.ref a) = some (obL M[a]?) := by
  obtain ⟨xs, e⟩ : ∃ xs, M[a]? = some (.tup xs) := ⟨_, isT_eq h⟩
  exact ⟨by simp only [lstOf, e], by rw [tup_ref e, e]; rfl⟩
@[simp] theorem n_ix (g : Cfg) (M : Mem) (a : Nat) (i : Int) (h : isL M[a]? = true) : oIx g (.ref a) (.int i) M = R.of (atI (obL M[a]?) i) M := by
  have e := lst_obL (g := g) h
  cases h2 : atI (obL M[a]?) i with
  | none => simp only [oIx, qIx, seqOf, e, h2, u_ofn]
  | some x => rw [w_ix e h2]; rfl
@[simp] theorem n_ixt (g : Cfg) (M : Mem) (a : Nat) (i : Int) (h : isT M[a]? = true) : oIx g (.ref a) (.int i) M = R.of (atI (obL M[a]?) i) M := by
  obtain ⟨e0, e⟩ := tup_obL (g := g) h
  cases h2 : atI (obL M[a]?) i with
  | none => simp only [oIx, qIx, seqOf, e0, e, h2, u_ofn]
  | some x => rw [w_ixt e0 e h2]; rfl
@[simp] theorem n_len (g : Cfg) (M : Mem) (a : Nat) (h : isL M[a]? = true) : bLen g [.ref a] M = .ok (.int (obL M[a]?).length) M := w_len (lst_obL h)
@[simp] theorem n_lent (g : Cfg) (M : Mem) (a : Nat) (h : isT M[a]? = true) : bLen g [.ref a] M = .ok (.int (obL M[a]?).length) M := w_lent (tup_obL h).1 (tup_obL h).2
@[simp] theorem n_seq (g : Cfg) (M : Mem) (a : Nat) (Q : Itb → Mem → Prop) (h : isL M[a]? = true) : PSeqI g Q (.ref a) M = Q (.lst (.ref a) (obL M[a]?).length) M := v_iSeql (lst_obL h) Q
@[simp] theorem n_seqt (g : Cfg) (M : Mem) (a : Nat) (Q : Itb → Mem → Prop) (h : isT M[a]? = true) : PSeqI g Q (.ref a) M = Q (.tup (.ref a) (obL M[a]?).length) M := v_iSeqt (tup_obL h).1 (tup_obL h).2 Q
@[simp] theorem n_yl (g : Cfg) (M : Mem) (a n i : Nat) (h : isL M[a]? = true) : yld g (.lst (.ref a) n) i M = R.of (obL M[a]?)[i]? M := by
  simp only [yld, lst_obL h]
@[simp] theorem n_yt (g : Cfg) (M : Mem) (a n i : Nat) (h : isT M[a]? = true) : yld g (.tup (.ref a) n) i M = R.of (obL M[a]?)[i]? M := by
  simp only [yld, (tup_obL (g := g) h).2]
@[simp] theorem n_fl (g : Cfg) (M : Mem) (a n i : Nat) (h : isL M[a]? = true) : fin g (.lst (.ref a) n) i M = decide ((obL M[a]?).length ≤ i) := by
  simp only [fin, lst_obL h]
@[simp] theorem n_ft (g : Cfg) (M : Mem) (a n i : Nat) (h : isT M[a]? = true) : fin g (.tup (.ref a) n) i M = decide ((obL M[a]?).length ≤ i) := by
  simp only [fin, (tup_obL (g := g) h).2]
@[simp] theorem n_app (M : Mem) (a : Nat) (v : Val) (h : isL M[a]? = true) : mAppend (.ref a) [v] M = if (obL M[a]?).length < 1000000 then .ok .non (M.set a (.lst (obL M[a]? ++ [v]))) else .no := by
  have e := isL_eq h
  simp only [mAppend]
  split
  · rename_i xs hx
    rw [hx]; rfl
  · rename_i hx
    exact absurd e (hx _)
@[simp] theorem n_isl (M : Mem) (a : Nat) (h : isL M[a]? = true) : isTy "list" M (.ref a) = true := w_isl (isL_eq h)
@[simp] theorem n_tru (M : Mem) (a : Nat) (h : isL M[a]? = true) : truOf M (.ref a) = some (!(obL M[a]?).isEmpty) := w_trl (isL_eq h)
@[simp] theorem n_list (g : Cfg) (M : Mem) (a : Nat) (h : isL M[a]? = true) : bList g [.ref a] M = .ok (.ref M.length) (M ++ [.lst (obL M[a]?)]) := w_list (lst_obL h)
@[simp] theorem n_sl (g : Cfg) (M : Mem) (a : Nat) (l h' : Option Int) (h : isL M[a]? = true) : vSl g (.ref a) l h' M = .ok (.ref M.length) (M ++ [.lst (cut (obL M[a]?) l h')]) := w_vSll (lst_obL h) l h'
@[simp] theorem n_tTp (g : Cfg) (is : List Nat) (a : Nat) (L : Loc) (M : Mem) (h : isT M[a]? = true) : tTp g is (.ref a) L M = if (obL M[a]?).length = is.length then .ok (setAll L is (obL M[a]?)) M else .no := by
  simp only [tTp, (tup_obL (g := g) h).2]
@[simp] theorem n_all (g : Cfg) (M : Mem) (a : Nat) (h : isL M[a]? = true) : bAll g [.ref a] M = (match blsOf (obL M[a]?) with | some bs => .ok (.bl (bs.all id)) M | none => .no) := by
  simp only [bAll, lst_obL h, Option.bind_some] <;> rfl
@[simp] theorem n_any (g : Cfg) (M : Mem) (a : Nat) (h : isL M[a]? = true) : bAny g [.ref a] M = (match blsOf (obL M[a]?) with | some bs => .ok (.bl (bs.any id)) M | none => .no) := by
  simp only [bAny, lst_obL h, Option.bind_some] <;> rfl
@[simp] theorem n_sum (g : Cfg) (M : Mem) (a : Nat) (h : isL M[a]? = true) : bSum g [.ref a] M = (match intsOf (obL M[a]?) with | some bs => .ok (.int bs.sum) M | none => .no) := by
  simp only [bSum, lst_obL h, Option.bind_some] <;> rfl
@[simp] theorem n_ty (g : Cfg) (cs : List String) (M : Mem) (a : Nat) (h : isL M[a]? = true) : tyOf g cs M (.ref a) = some "list" := w_tyl (lst_obL h)
@[simp] theorem n_tyt (g : Cfg) (cs : List String) (M : Mem) (a : Nat) (h : isT M[a]? = true) : tyOf g cs M (.ref a) = some "tuple" := by
  obtain ⟨xs, e⟩ : ∃ xs, M[a]? = some (.tup xs) := ⟨_, isT_eq h⟩
  simp only [tyOf, e]
@[simp] theorem n_fld (T : CTab) (f : String) (M : Mem) (a : Nat) (Q : Val → Mem → Prop) (h : isI M[a]? = true) (h2 : hasF T (obC M[a]?) f = true) : PFld T f Q (.ref a) M = Ev (R.of (getf (obF M[a]?) f) M) Q := by
  cases h3 : getf (obF M[a]?) f with
  | none =>
    have e := isI_eq h
    simp only [PFld, fldR]
    rw [e]
    simp only [h2, if_true, h3, u_ofn, ev_no]
  | some v =>
    rw [w_fld (isI_eq h) h2 h3]; simp
@[simp] theorem n_setF (T : CTab) (f : String) (v : Val) (L : Loc) (M : Mem) (a : Nat) (Q : Fl → Mem → Prop) (h : isI M[a]? = true) (h2 : hasF T (obC M[a]?) f = true) (h3 : (obF M[a]?).length < 100) : PFd2 T f v L Q (.ref a) M = Q (.nx L) (M.set a (.ins (obC M[a]?) (putf f v (obF M[a]?)))) := w_fd2 (isI_eq h) h2 h3 Q
@[simp] theorem n_mth (T : MTab) (m : String) (n : Nat) (ds : DA) (L : Loc) (M : Mem) (a : Nat) (Q : Val → Mem → Prop) (h : isI M[a]? = true) (h2 : getf (obF M[a]?) m = none) (h1 : (mfind T (obC M[a]?)).isSome = true) : PMth T m n ds L Q (.ref a) M = Ev (ds L M) (PMth2 n a ((mfind T (obC M[a]?)).getD fun _ _ => .no) Q) := by
  obtain ⟨F, hF⟩ := Option.isSome_iff_exists.mp h1
  rw [w_mth (isI_eq h) hF h2, hF]; rfl
/-- an object's list, stored anew -/
theorem n_setL {M : Mem} {a : Nat} {xs : List Val} {i : Int} {j : Nat} {v : Val} (h : M[a]? = some (.lst xs)) (h2 : ixN xs.length i = some j) : setIx (.ref a) (.int i) v M = .ok () (M.set a (.lst (xs.set j v))) := by
  simp only [setIx, h, h2]
theorem n_setD {M : Mem} {a : Nat} {kvs : List (DKey × Val)} {y : Val} {k : DKey} {v : Val} (h : M[a]? = some (.dk kvs)) (h2 : keyOf y = some k) (h3 : kvs.length < 1000000) : setIx (.ref a) y v M = .ok () (M.set a (.dk (putk kvs k v))) := by
  simp only [setIx, h, h2, h3, if_true]
theorem n_neL {g : Cfg} {M : Mem} {x y : Nat} (h1 : isL M[x]? = true) (h2 : isL M[y]? = true) {is js : List Int} (h3 : intsOf (obL M[x]?) = some is) (h4 : intsOf (obL M[y]?) = some js) : oNe g (.ref x) (.ref y) M = .ok (.bl (!decide (is = js))) M := w_neL (lst_obL h1) (lst_obL h2) h3 h4
theorem n_eqL {g : Cfg} {M : Mem} {x y : Nat} (h1 : isL M[x]? = true) (h2 : isL M[y]? = true) {is js : List Int} (h3 : intsOf (obL M[x]?) = some is) (h4 : intsOf (obL M[y]?) = some js) : oEq g (.ref x) (.ref y) M = .ok (.bl (decide (is = js))) M := w_eqL (lst_obL h1) (lst_obL h2) h3 h4
@[simp] theorem at_lit0 {α : Type} (a : α) (xs : List α) : atI (a :: xs) 0 = some a := at_nat (k := 0) rfl
@[simp] theorem at_lit1 {α : Type} (a b : α) (xs : List α) : atI (a :: b :: xs) 1 = some b := at_nat (k := 1) rfl
@[simp] theorem at_lit2 {α : Type} (a b c : α) (xs : List α) : atI (a :: b :: c :: xs) 2 = some c := at_nat (k := 2) rfl
@[simp] theorem at_lit3 {α : Type} (a b c d : α) (xs : List α) : atI (a :: b :: c :: d :: xs) 3 = some d := at_nat (k := 3) rfl
/-! ### texts in lists; steps of ranges -/
@[simp] theorem strs_nil : strsOf [] = some [] := rfl
@[simp] theorem strs_cons (i : List Nat) (xs : List Val) : strsOf (.str i :: xs) = (strsOf xs).map (i :: ·) := rfl
theorem strs_map {α : Type} (f : α → List Nat) : ∀ xs : List α, strsOf (xs.map fun x => .str (f x)) = some (xs.map f)
  | [] => rfl
  | x :: xs => by
    simp only [List.map_cons, strsOf, strs_map f xs, Option.map_some]
theorem mapO_strs (g : Cfg) (M : Mem) (n : Nat) : ∀ {xs : List Val} {ss : List (List Nat)}, strsOf xs = some ss → (∀ s ∈ ss, ∀ c ∈ s, c < 1114112) → mapO (deep g M n) xs = some (ss.map .str)
  | [], ss, h, _ => by cases h; rfl
  | .str s :: xs, ss, h, hc => by
    simp only [strsOf] at h
    obtain ⟨js, h1, rfl⟩ := Option.map_eq_some_iff.mp h
    have e1 := mapO_strs g M n h1 fun t ht => hc t (List.mem_cons_of_mem _ ht)
    have e2 : s.all (fun c => decide (c < 1114112)) = true := List.all_eq_true.mpr fun c hm => decide_eq_true (hc s (List.mem_cons_self ..) c hm)
    simp only [mapO, deep, e1, e2, if_true, List.map_cons]
  | .non :: _, _, h, _ => by cases h
  | .bl _ :: _, _, h, _ => by cases h
  | .int _ :: _, _, h, _ => by cases h
  | .ref _ :: _, _, h, _ => by cases h
  | .con _ :: _, _, h, _ => by cases h
theorem eqDs_strs : ∀ is js : List (List Nat), eqDs (is.map .str) (js.map .str) = decide (is = js)
  | [], [] => rfl
  | [], _ :: _ => rfl
  | _ :: _, [] => rfl
  | i :: is, j :: js => by
    simp only [List.map_cons, eqDs, eqD, eqDs_strs is js]
    by_cases h : i = j <;> simp [h]
theorem w_eqS {g : Cfg} {M : Mem} {x y : Val} {xs ys : List Val} {is js : List (List Nat)} (h1 : lstOf g M x = some xs) (h2 : lstOf g M y = some ys) (h3 : strsOf xs = some is) (h4 : strsOf ys = some js) (c3 : ∀ s ∈ is, ∀ c ∈ s, c < 1114112) (c4 : ∀ s ∈ js, ∀ c ∈ s, c < 1114112) : oEq g x y M = .ok (.bl (decide (is = js))) M := by
  rw [w_eqd (lst_flat h1) (deep_lst h1 (mapO_strs g M 59 h3 c3)) (deep_lst h2 (mapO_strs g M 59 h4 c4))]
  simp only [eqD, eqDs_strs]
theorem w_neS {g : Cfg} {M : Mem} {x y : Val} {xs ys : List Val} {is js : List (List Nat)} (h1 : lstOf g M x = some xs) (h2 : lstOf g M y = some ys) (h3 : strsOf xs = some is) (h4 : strsOf ys = some js) (c3 : ∀ s ∈ is, ∀ c ∈ s, c < 1114112) (c4 : ∀ s ∈ js, ∀ c ∈ s, c < 1114112) : oNe g x y M = .ok (.bl (!decide (is = js))) M := by
  rw [w_ned (lst_flat h1) (deep_lst h1 (mapO_strs g M 59 h3 c3)) (deep_lst h2 (mapO_strs g M 59 h4 c4))]
  simp only [eqD, eqDs_strs]
theorem w_join {g : Cfg} {M : Mem} {v : Val} {xs : List Val} {ys : List (List Nat)} (a : List Nat) (h : seqOf g M v = some xs) (h2 : strsOf xs = some ys) (h3 : (ys.map (·.length)).sum + ys.length * a.length ≤ 1000000) : mJoin g (.str a) [v] M = .ok (.str (TL.joinL a ys)) M := by
  simp only [mJoin, h, Option.bind_some, h2, h3, if_true]
theorem seq_lst {g : Cfg} {M : Mem} {v : Val} {xs : List Val} (h : lstOf g M v = some xs) : seqOf g M v = some xs := by simp only [seqOf, h]
theorem seq_tup {g : Cfg} {M : Mem} {v : Val} {xs : List Val} (h0 : lstOf g M v = none) (h : tupOf g M v = some xs) : seqOf g M v = some xs := by simp only [seqOf, h0, h]
theorem w_in {g : Cfg} {M : Mem} {v x : Val} {xs : List Val} {neg : Bool} (h : seqOf g M v = some xs) (h2 : flat x = true) (h3 : xs.all flat = true) : oIn g neg x v M = .ok (.bl (if neg then !(xs.any fun z => eqF z x) else xs.any fun z => eqF z x)) M := by
  cases v with
  | str s => cases h
  | _ => simp only [oIn, lIn, h, h2, h3, and_self, if_true]
@[simp] theorem n_in (g : Cfg) (neg : Bool) (x : Val) (M : Mem) (a : Nat) (h : isL M[a]? = true) (h2 : flat x = true) (h3 : (obL M[a]?).all flat = true) : oIn g neg x (.ref a) M = .ok (.bl (if neg then !((obL M[a]?).any fun z => eqF z x) else (obL M[a]?).any fun z => eqF z x)) M := w_in (seq_lst (lst_obL h)) h2 h3
@[simp] theorem n_int (g : Cfg) (neg : Bool) (x : Val) (M : Mem) (a : Nat) (h : isT M[a]? = true) (h2 : flat x = true) (h3 : (obL M[a]?).all flat = true) : oIn g neg x (.ref a) M = .ok (.bl (if neg then !((obL M[a]?).any fun z => eqF z x) else (obL M[a]?).any fun z => eqF z x)) M := w_in (seq_tup (tup_obL h).1 (tup_obL h).2) h2 h3
@[simp] theorem w_ins (g : Cfg) (neg : Bool) (c : Nat) (s : List Nat) (M : Mem) : oIn g neg (.str [c]) (.str s) M = .ok (.bl (if neg then !decide (c ∈ s) else decide (c ∈ s))) M := rfl
@[simp] theorem flat_i (i : Int) : flat (.int i) = true := by simp only [flat]
@[simp] theorem flat_s (i : List Nat) : flat (.str i) = true := by simp only [flat]
@[simp] theorem flat_b (i : Bool) : flat (.bl i) = true := by simp only [flat]
@[simp] theorem flat_n : flat .non = true := by simp only [flat]
@[simp] theorem eqF_ss (a b : List Nat) : eqF (.str a) (.str b) = decide (a = b) := by
  show (a == b) = _
  by_cases h : a = b <;> simp [h]
@[simp] theorem eqF_ii (a b : Int) : eqF (.int a) (.int b) = decide (a = b) := by
  show (a == b) = _
  by_cases h : a = b <;> simp [h]
@[simp] theorem eqF_is (a : Int) (b : List Nat) : eqF (.int a) (.str b) = false := rfl
@[simp] theorem eqF_si (a : Int) (b : List Nat) : eqF (.str b) (.int a) = false := rfl
@[simp] theorem w_neis (g : Cfg) (a : Int) (b : List Nat) (M : Mem) : oNe g (.int a) (.str b) M = .ok (.bl true) M := rfl
@[simp] theorem w_nesi (g : Cfg) (a : Int) (b : List Nat) (M : Mem) : oNe g (.str b) (.int a) M = .ok (.bl true) M := rfl
@[simp] theorem w_nesn (g : Cfg) (b : List Nat) (M : Mem) : oNe g (.str b) .non M = .ok (.bl true) M := rfl
@[simp] theorem w_nein (g : Cfg) (b : Int) (M : Mem) : oNe g (.int b) .non M = .ok (.bl true) M := rfl
def PR3 (Q : Itb → Mem → Prop) : List Val → Mem → Prop := fun vs M => Ev (iR3 (fun _ M => .ok vs M) [] M) Q
@[simp] theorem u_iR3 (d : DA) (L : Loc) (M : Mem) (Q : Itb → Mem → Prop) : Ev (iR3 d L M) Q = Ev (d L M) (PR3 Q) := by
  unfold PR3 iR3
  rw [ev_bind]
  rfl
@[simp] theorem v_iR3 (Q : Itb → Mem → Prop) (i j c : Int) (M : Mem) : PR3 Q [.int i, .int j, .int c] M = ((-1000000 ≤ j ∧ j ≤ 1000000 ∧ -1000000 ≤ i ∧ i ≤ 1000000 ∧ 0 < c ∧ c ≤ 1000) ∧ Q (.rng i c (rcount i j c)) M) := by
  simp only [PR3, iR3, R.bind_ok, ev_guard, ev_ok]
theorem atI_ex {α : Type} {xs : List α} {i : Int} (h0 : 0 ≤ i) (h1 : i < xs.length) : ∃ x, atI xs i = some x ∧ x ∈ xs := by
  have hl : i.toNat < xs.length := by omega
  exact ⟨xs[i.toNat], at_int h0 (List.getElem?_eq_getElem hl), List.getElem_mem hl⟩
theorem cut_len {α : Type} (xs : List α) (lo hi : Option Int) : (cut xs lo hi).length ≤ xs.length := by
  unfold cut
  simp
  omega
theorem comp_tup {g : Cfg} {v : Val} {xs : List Val} {tg : DT} {tt te : D} {vs : List Nat} {L : Loc} {M : Mem} {Q : Val → Mem → Prop} (F : Val → Option Val) (h : tupOf g M v = some xs) (hn : xs.length ≤ 1000000) (hs : ∀ x M', x ∈ xs → Xt M M' → PYl tg tt te (wipeL L vs) (PXt M' (F x)) x M')
    (k : ∀ X, Q (.ref M.length) (M ++ .lst (xs.filterMap F) :: X)) : PCmp g tg tt te vs L Q (.tup v xs.length) M := by
  refine comp_ev (fun j => (xs[j]?).bind F) hn (fun j M' hj x => ?_) (fun M' x => w_ft (x.tup h) (Nat.le_refl _)) fun X => ?_
  · have e : xs[j]? = some xs[j] := List.getElem?_eq_getElem hj
    rw [w_yt (x.tup h) e, ev_ok, e]
    exact hs _ _ (List.getElem_mem hj) x
  · have e : (Itb.tup v xs.length).num = xs.length := rfl
    rw [e, fm_list]
    exact k X
theorem comp_rng3 {g : Cfg} {n : Nat} {lo c : Int} {tg : DT} {tt te : D} {vs : List Nat} {L : Loc} {M : Mem} {Q : Val → Mem → Prop} (F : Nat → Option Val) (hn : n ≤ 1000000) (hs : ∀ j M', j < n → Xt M M' → PYl tg tt te (wipeL L vs) (PXt M' (F j)) (.int (lo + j * c)) M')
    (k : ∀ X, Q (.ref M.length) (M ++ .lst ((List.range n).filterMap F) :: X)) : PCmp g tg tt te vs L Q (.rng lo c n) M :=
  comp_ev F hn (fun j M' h x => by
    simp only [w_yr, ev_ok]
    exact hs j M' h x) (fun M' _ => by simp [Itb.num]) k
end Pa

/-! What Pc's and Pd's constructs do, by their ends. -/
namespace Pa
open PySem PySem.Spec
open PyProof.Rows L2
open SX (S)
@[simp] theorem w_mulA (i j : Int) (M : Mem) : oMul (.int i) (.int j) M = if (-18446744073709551616 < i ∧ i < 18446744073709551616) ∨ (-18446744073709551616 < j ∧ j < 18446744073709551616) then .ok (.int (i * j)) M else .no := rfl
@[simp] theorem w_mulS (s : List Nat) (k : Int) (M : Mem) : oMul (.str s) (.int k) M = if -1000000 ≤ k ∧ k ≤ 1000000 ∧ s.length ≤ 1000000 ∧ s.length * k.toNat ≤ 1000000 then .ok (.str ((List.replicate k.toNat s).flatten)) M else .no := rfl
theorem w_mulL {M : Mem} {a : Nat} {xs : List Val} (k : Int) (h : M[a]? = some (.lst xs)) (hk : k ≤ 1000000 ∧ -1000000 ≤ k ∧ xs.length * k.toNat ≤ 1000000) : oMul (.ref a) (.int k) M = .ok (.ref M.length) (M ++ [.lst ((List.replicate k.toNat xs).flatten)]) := by
  simp only [oMul, lMul, h, hk, and_self, if_true]
theorem w_addL {M : Mem} {a b : Nat} {xs ys : List Val} (h1 : M[a]? = some (.lst xs)) (h2 : M[b]? = some (.lst ys)) (hl : xs.length + ys.length ≤ 1000000) : oAdd (.ref a) (.ref b) M = .ok (.ref M.length) (M ++ [.lst (xs ++ ys)]) := by
  simp only [oAdd, lAdd, h1, h2, hl, if_true]
theorem w_ext {M : Mem} {a b : Nat} {xs ys : List Val} (h1 : M[a]? = some (.lst xs)) (h2 : M[b]? = some (.lst ys)) (hl : xs.length + ys.length ≤ 1000000) : mExtend (.ref a) [.ref b] M = .ok .non (M.set a (.lst (xs ++ ys))) := by
  simp only [mExtend, h1, h2, hl, if_true]
/-! dicts -/
def isK : Option Ob → Bool
  | some (.dk _) => true
  | _ => false
def obK : Option Ob → List (DKey × Val)
  | some (.dk kvs) => kvs
  | _ => []
@[simp] theorem isK_k (kvs : List (DKey × Val)) : isK (some (.dk kvs)) = true := by simp only [isK]
@[simp] theorem obK_k (kvs : List (DKey × Val)) : obK (some (.dk kvs)) = kvs := rfl
theorem isK_eq {o : Option Ob} (h : isK o = true) : ∃ kvs, o = some (.dk kvs) ∧ obK o = kvs := by
  unfold isK at h
  split at h
  · exact ⟨_, rfl, rfl⟩
  · cases h
theorem dgo_k {M : Mem} {a : Nat} {kvs : List (DKey × Val)} {y : Val} {k : DKey} (h : M[a]? = some (.dk kvs)) (hy : keyOf y = some k) : dgo M (.ref a) y = some (lkp kvs k) := by
  simp only [dgo, dkOf, h, hy, Option.map_some]
theorem isD_k {M : Mem} {a : Nat} {kvs : List (DKey × Val)} (h : M[a]? = some (.dk kvs)) : isD M (.ref a) = true := by
  simp only [isD, dkOf, h, Option.isSome_some, Bool.true_or]
@[simp] theorem key_i (i : Int) : keyOf (.int i) = some (.inl i) := rfl
@[simp] theorem key_s (s : List Nat) : keyOf (.str s) = some (.inr s) := rfl
theorem w_dix {g : Cfg} {M : Mem} {a : Nat} {kvs : List (DKey × Val)} {y v : Val} {k : DKey} (h : M[a]? = some (.dk kvs)) (hy : keyOf y = some k) (hv : lkp kvs k = some v) : oIx g (.ref a) y M = .ok v M := by
  have e : seqOf g M (.ref a) = none := by simp only [seqOf, lstOf, tupOf, h]
  have e2 : dgo M (.ref a) y = some (some v) := by rw [dgo_k h hy, hv]
  simp only [oIx, qIx, e, e2]
theorem w_din {g : Cfg} {neg : Bool} {M : Mem} {a : Nat} {kvs : List (DKey × Val)} {y : Val} {k : DKey} (h : M[a]? = some (.dk kvs)) (hy : keyOf y = some k) : oIn g neg y (.ref a) M = .ok (.bl (if neg then !(lkp kvs k).isSome else (lkp kvs k).isSome)) M := by
  have e : seqOf g M (.ref a) = none := by simp only [seqOf, lstOf, tupOf, h]
  simp only [oIn, lIn, e, dgo_k h hy]
theorem w_dlen {g : Cfg} {M : Mem} {a : Nat} {kvs : List (DKey × Val)} (h : M[a]? = some (.dk kvs)) : bLen g [.ref a] M = .ok (.int kvs.length) M := by
  have e : seqOf g M (.ref a) = none := by simp only [seqOf, lstOf, tupOf, h]
  simp only [bLen, e, dkOf, h]
def PG1b (x : Val) (Q : Val → Mem → Prop) : Val → Mem → Prop := fun y M => ∃ o, dgo M x y = some o ∧ Q (o.getD .non) M
def PG1a (k : D) (L : Loc) (Q : Val → Mem → Prop) : Val → Mem → Prop := fun x M => isD M x = true ∧ Ev (k L M) (PG1b x Q)
@[simp] theorem u_dGet1 (d k : D) (L : Loc) (M : Mem) (Q : Val → Mem → Prop) : Ev (dGet1 d k L M) Q = Ev (d L M) (PG1a k L Q) := by
  unfold dGet1
  rw [ev_bind]
  refine congrArg _ (funext fun x => funext fun M => ?_)
  rw [ev_guard, ev_bind]
  show _ = (_ ∧ _)
  refine congrArg _ (congrArg _ (funext fun y => funext fun M => ?_))
  unfold PG1b
  cases h : dgo M x y <;> simp
@[simp] theorem v_PG1a (k : D) (L : Loc) (Q : Val → Mem → Prop) (x : Val) (M : Mem) : PG1a k L Q x M = (isD M x = true ∧ Ev (k L M) (PG1b x Q)) := rfl
theorem v_PG1b {M : Mem} {a : Nat} {kvs : List (DKey × Val)} {y : Val} {k : DKey} (h : M[a]? = some (.dk kvs)) (hy : keyOf y = some k) (Q : Val → Mem → Prop) : PG1b (.ref a) Q y M = Q ((lkp kvs k).getD .non) M := by
  simp only [PG1b, dgo_k h hy, Option.some.injEq, exists_eq_left']
def PG2c (x y : Val) (Q : Val → Mem → Prop) : Val → Mem → Prop := fun w M => ∃ o, dgo M x y = some o ∧ Q (o.getD w) M
def PG2b (z : D) (L : Loc) (x : Val) (Q : Val → Mem → Prop) : Val → Mem → Prop := fun y M => Ev (z L M) (PG2c x y Q)
def PG2a (k z : D) (L : Loc) (Q : Val → Mem → Prop) : Val → Mem → Prop := fun x M => isD M x = true ∧ Ev (k L M) (PG2b z L x Q)
@[simp] theorem u_dGet2 (d k z : D) (L : Loc) (M : Mem) (Q : Val → Mem → Prop) : Ev (dGet2 d k z L M) Q = Ev (d L M) (PG2a k z L Q) := by
  unfold dGet2
  rw [ev_bind]
  refine congrArg _ (funext fun x => funext fun M => ?_)
  rw [ev_guard, ev_bind]
  show _ = (_ ∧ _)
  refine congrArg _ (congrArg _ (funext fun y => funext fun M => ?_))
  rw [ev_bind]
  refine congrArg _ (funext fun w => funext fun M => ?_)
  unfold PG2c
  cases h : dgo M x y <;> simp
@[simp] theorem v_PG2a (k z : D) (L : Loc) (Q : Val → Mem → Prop) (x : Val) (M : Mem) : PG2a k z L Q x M = (isD M x = true ∧ Ev (k L M) (PG2b z L x Q)) := rfl
@[simp] theorem v_PG2b (z : D) (L : Loc) (x : Val) (Q : Val → Mem → Prop) (y : Val) (M : Mem) : PG2b z L x Q y M = Ev (z L M) (PG2c x y Q) := rfl
theorem v_PG2c {M : Mem} {a : Nat} {kvs : List (DKey × Val)} {y w : Val} {k : DKey} (h : M[a]? = some (.dk kvs)) (hy : keyOf y = some k) (Q : Val → Mem → Prop) : PG2c (.ref a) y Q w M = Q ((lkp kvs k).getD w) M := by
  simp only [PG2c, dgo_k h hy, Option.some.injEq, exists_eq_left']
/-! lists -/
theorem w_clear {M : Mem} {a : Nat} {xs : List Val} (h : M[a]? = some (.lst xs)) : mClear (.ref a) [] M = .ok .non (M.set a (.lst [])) := by
  simp only [mClear, h]
theorem w_reverse {M : Mem} {a : Nat} {xs : List Val} (h : M[a]? = some (.lst xs)) : mReverse (.ref a) [] M = .ok .non (M.set a (.lst xs.reverse)) := by
  simp only [mReverse, h]
theorem w_index {g : Cfg} {M : Mem} {x y : Val} {xs : List Val} {j : Nat} (h : lstOf g M x = some xs) (h2 : flat y = true) (h3 : xs.all flat = true) (h4 : ixOf y xs 0 = some j) : mIndex g x [y] M = .ok (.int j) M := by
  simp only [mIndex, h, h2, h3, and_self, if_true, h4]
theorem w_max1 {g : Cfg} {M : Mem} {v : Val} {xs : List Val} {i : Int} {is : List Int} (h : lstOf g M v = some xs) (h2 : intsOf xs = some (i :: is)) : bMax1 g [v] M = .ok (.int (mxs i is)) M := by
  simp only [bMax1, h, Option.bind_some, h2]
theorem w_min1 {g : Cfg} {M : Mem} {v : Val} {xs : List Val} {i : Int} {is : List Int} (h : lstOf g M v = some xs) (h2 : intsOf xs = some (i :: is)) : bMin1 g [v] M = .ok (.int (mns i is)) M := by
  simp only [bMin1, h, Option.bind_some, h2]
/-! displays of dicts -/
def PDs (n : Nat) (Q : Val → Mem → Prop) : List (DKey × Val) → Mem → Prop := fun kvs M1 => kvs.length ≤ 15 ∧ M1[n]? = some (.dk []) ∧ Q (.ref n) (M1.set n (.dk (kvs.foldl (fun acc p => putk acc p.1 p.2) [])))
@[simp] theorem u_dDisp (ps : List (D × D)) (L : Loc) (M : Mem) (Q : Val → Mem → Prop) : Ev (dDisp ps L M) Q = Ev (prs ps L (M ++ [.dk []])) (PDs M.length Q) := by
  unfold dDisp
  rw [ev_bind]
  refine congrArg _ (funext fun kvs => funext fun M1 => ?_)
  rw [ev_guard]
  show _ = (_ ∧ _)
  refine congrArg _ ?_
  split
  · rename_i h
    simp [h]
  · rename_i h
    simp only [ev_no]
    exact propext ⟨fun z => z.elim, fun ⟨z, _⟩ => absurd z h⟩
@[simp] theorem v_PDs (n : Nat) (Q : Val → Mem → Prop) (kvs : List (DKey × Val)) (M1 : Mem) : PDs n Q kvs M1 = (kvs.length ≤ 15 ∧ M1[n]? = some (.dk []) ∧ Q (.ref n) (M1.set n (.dk (kvs.foldl (fun acc p => putk acc p.1 p.2) [])))) := rfl
@[simp] theorem u_prs0 (L : Loc) (M : Mem) (Q : List (DKey × Val) → Mem → Prop) : Ev (prs [] L M) Q = Q [] M := by
  unfold prs
  exact ev_ok _ _ _
def PPr3 (x y : Val) (Q : List (DKey × Val) → Mem → Prop) : List (DKey × Val) → Mem → Prop := fun ps M => ∃ k, keyOf x = some k ∧ Q ((k, y) :: ps) M
def PPr2 (r : List (D × D)) (L : Loc) (x : Val) (Q : List (DKey × Val) → Mem → Prop) : Val → Mem → Prop := fun y M => Ev (prs r L M) (PPr3 x y Q)
def PPr1 (v : D) (r : List (D × D)) (L : Loc) (Q : List (DKey × Val) → Mem → Prop) : Val → Mem → Prop := fun x M => Ev (v L M) (PPr2 r L x Q)
@[simp] theorem u_prsS (k v : D) (r : List (D × D)) (L : Loc) (M : Mem) (Q : List (DKey × Val) → Mem → Prop) : Ev (prs ((k, v) :: r) L M) Q = Ev (k L M) (PPr1 v r L Q) := by
  simp only [prs]
  rw [ev_bind]
  refine congrArg _ (funext fun x => funext fun M => ?_)
  rw [ev_bind]
  refine congrArg _ (funext fun y => funext fun M => ?_)
  rw [ev_bind]
  refine congrArg _ (funext fun ps => funext fun M => ?_)
  unfold PPr3
  cases h : keyOf x <;> simp
@[simp] theorem v_PPr1 (v : D) (r : List (D × D)) (L : Loc) (Q : List (DKey × Val) → Mem → Prop) (x : Val) (M : Mem) : PPr1 v r L Q x M = Ev (v L M) (PPr2 r L x Q) := rfl
@[simp] theorem v_PPr2 (r : List (D × D)) (L : Loc) (x : Val) (Q : List (DKey × Val) → Mem → Prop) (y : Val) (M : Mem) : PPr2 r L x Q y M = Ev (prs r L M) (PPr3 x y Q) := rfl
@[simp] theorem v_PPr3 (x y : Val) (Q : List (DKey × Val) → Mem → Prop) (ps : List (DKey × Val)) (M : Mem) : PPr3 x y Q ps M = ∃ k, keyOf x = some k ∧ Q ((k, y) :: ps) M := rfl
end Pa

/-! Trees of data and the memory that holds them; what is kept; while. -/
namespace Pa
open PySem PySem.Spec
open PyProof.Rows L2
open SX (S)
inductive T where
  | non | bl (b : Bool) | int (i : Int) | str (s : List Nat) | lst (xs : List T) | tup (xs : List T)
  | ins (c : String) (ns : List String) (xs : List T) | dk (ks : List DKey) (xs : List T)
section
variable (g : Cfg) (P : Nat → Prop) (M : Mem)
mutual
def Rp : T → Val → Prop
  | .non, v => v = .non
  | .bl b, v => v = .bl b
  | .int i, v => v = .int i
  | .str s, v => v = .str s
  | .lst xs, v => ∃ a vs, v = .ref a ∧ P a ∧ M[a]? = some (.lst vs) ∧ Rps xs vs
  | .tup xs, v => ∃ vs, ((∃ a, v = .ref a ∧ P a ∧ M[a]? = some (.tup vs)) ∨ ∃ k, v = .con k ∧ g.con k = some (false, vs)) ∧ Rps xs vs
  | .ins c ns xs, v => ∃ a vs, v = .ref a ∧ P a ∧ M[a]? = some (.ins c (ns.zip vs)) ∧ Rps xs vs
  | .dk ks xs, v => ∃ a vs, v = .ref a ∧ P a ∧ M[a]? = some (.dk (ks.zip vs)) ∧ Rps xs vs
def Rps : List T → List Val → Prop
  | [], vs => vs = []
  | t :: ts, vs => ∃ w ws, vs = w :: ws ∧ Rp t w ∧ Rps ts ws
end
end
section
variable {g : Cfg} {P P' : Nat → Prop} {M M' : Mem}
mutual
theorem Rp.mono (h : ∀ a o, P a → M[a]? = some o → P' a ∧ M'[a]? = some o) : ∀ (t : T) (v : Val), Rp g P M t v → Rp g P' M' t v
  | .non, v, r => by simpa only [Rp] using r
  | .bl b, v, r => by simpa only [Rp] using r
  | .int i, v, r => by simpa only [Rp] using r
  | .str s, v, r => by simpa only [Rp] using r
  | .lst xs, v, r => by
    simp only [Rp] at r ⊢
    obtain ⟨a, vs, e, p, m, r⟩ := r
    obtain ⟨p', m'⟩ := h a _ p m
    exact ⟨a, vs, e, p', m', Rps.mono h xs vs r⟩
  | .tup xs, v, r => by
    simp only [Rp] at r ⊢
    obtain ⟨vs, q, r⟩ := r
    refine ⟨vs, ?_, Rps.mono h xs vs r⟩
    rcases q with ⟨a, e, p, m⟩ | q
    · obtain ⟨p', m'⟩ := h a _ p m
      exact .inl ⟨a, e, p', m'⟩
    · exact .inr q
  | .ins c ns xs, v, r => by
    simp only [Rp] at r ⊢
    obtain ⟨a, vs, e, p, m, r⟩ := r
    obtain ⟨p', m'⟩ := h a _ p m
    exact ⟨a, vs, e, p', m', Rps.mono h xs vs r⟩
  | .dk ks xs, v, r => by
    simp only [Rp] at r ⊢
    obtain ⟨a, vs, e, p, m, r⟩ := r
    obtain ⟨p', m'⟩ := h a _ p m
    exact ⟨a, vs, e, p', m', Rps.mono h xs vs r⟩
theorem Rps.mono (h : ∀ a o, P a → M[a]? = some o → P' a ∧ M'[a]? = some o) : ∀ (ts : List T) (vs : List Val), Rps g P M ts vs → Rps g P' M' ts vs
  | [], vs, r => by simpa only [Rps] using r
  | t :: ts, vs, r => by
    simp only [Rps] at r ⊢
    obtain ⟨w, ws, e, a, b⟩ := r
    exact ⟨w, ws, e, Rp.mono h t w a, Rps.mono h ts ws b⟩
end
@[simp] theorem rp_non {v : Val} : Rp g P M .non v = (v = .non) := by simp only [Rp]
@[simp] theorem rp_bl {b : Bool} {v : Val} : Rp g P M (.bl b) v = (v = .bl b) := by simp only [Rp]
@[simp] theorem rp_int {i : Int} {v : Val} : Rp g P M (.int i) v = (v = .int i) := by simp only [Rp]
@[simp] theorem rp_str {s : List Nat} {v : Val} : Rp g P M (.str s) v = (v = .str s) := by simp only [Rp]
@[simp] theorem rps_nil {vs : List Val} : Rps g P M [] vs = (vs = []) := by simp only [Rps]
@[simp] theorem rps_cons {t : T} {ts : List T} {vs : List Val} : Rps g P M (t :: ts) vs = ∃ w ws, vs = w :: ws ∧ Rp g P M t w ∧ Rps g P M ts ws := by simp only [Rps]
theorem rp_lst {xs : List T} {v : Val} : Rp g P M (.lst xs) v = ∃ a vs, v = .ref a ∧ P a ∧ M[a]? = some (.lst vs) ∧ Rps g P M xs vs := by simp only [Rp]
theorem rp_tup {xs : List T} {v : Val} : Rp g P M (.tup xs) v = ∃ vs, ((∃ a, v = .ref a ∧ P a ∧ M[a]? = some (.tup vs)) ∨ ∃ k, v = .con k ∧ g.con k = some (false, vs)) ∧ Rps g P M xs vs := by simp only [Rp]
theorem rp_ins {c : String} {ns : List String} {xs : List T} {v : Val} : Rp g P M (.ins c ns xs) v = ∃ a vs, v = .ref a ∧ P a ∧ M[a]? = some (.ins c (ns.zip vs)) ∧ Rps g P M xs vs := by simp only [Rp]
theorem rp_dk {ks : List DKey} {xs : List T} {v : Val} : Rp g P M (.dk ks xs) v = ∃ a vs, v = .ref a ∧ P a ∧ M[a]? = some (.dk (ks.zip vs)) ∧ Rps g P M xs vs := by simp only [Rp]
theorem Rps.len : ∀ {ts : List T} {vs : List Val}, Rps g P M ts vs → vs.length = ts.length
  | [], vs, r => by
    simp only [Rps] at r
    subst r; rfl
  | t :: ts, vs, r => by
    simp only [Rps] at r
    obtain ⟨w, ws, rfl, _, r⟩ := r
    simp [Rps.len r]
theorem Rps.get : ∀ {ts : List T} {vs : List Val} {i : Nat} {t : T}, Rps g P M ts vs → ts[i]? = some t → ∃ w, vs[i]? = some w ∧ Rp g P M t w
  | t :: ts, vs, i, u, r, e => by
    simp only [Rps] at r
    obtain ⟨w, ws, rfl, a, r⟩ := r
    cases i with
    | zero => simp at e; subst e; exact ⟨w, by simp, a⟩
    | succ i =>
      obtain ⟨w', e', r'⟩ := Rps.get r (by simpa using e)
      exact ⟨w', by simpa using e', r'⟩
theorem Rps.app : ∀ {ts ts' : List T} {vs vs' : List Val}, Rps g P M ts vs → Rps g P M ts' vs' → Rps g P M (ts ++ ts') (vs ++ vs')
  | [], ts', vs, vs', r, r' => by
    simp only [Rps] at r
    subst r; exact r'
  | t :: ts, ts', vs, vs', r, r' => by
    simp only [Rps] at r
    obtain ⟨w, ws, rfl, a, r⟩ := r
    rw [List.cons_append, List.cons_append]
    simp only [Rps]
    exact ⟨w, _, rfl, a, Rps.app r r'⟩
theorem Rps.one {t : T} {v : Val} (h : Rp g P M t v) : Rps g P M [t] [v] := by simp [h]
theorem Rps.snoc {ts : List T} {vs : List Val} {t : T} {v : Val} (r : Rps g P M ts vs) (h : Rp g P M t v) : Rps g P M (ts ++ [t]) (vs ++ [v]) := r.app (Rps.one h)
theorem Rps.nil : Rps g P M [] [] := by simp
theorem Rps.cons {t : T} {ts : List T} {v : Val} {vs : List Val} (h : Rp g P M t v) (r : Rps g P M ts vs) : Rps g P M (t :: ts) (v :: vs) := by
  rw [rps_cons]
  exact ⟨v, vs, rfl, h, r⟩
theorem Rps.inv {t : T} {ts : List T} {v : Val} {vs : List Val} (r : Rps g P M (t :: ts) (v :: vs)) : Rp g P M t v ∧ Rps g P M ts vs := by
  rw [rps_cons] at r
  obtain ⟨w, ws, e, a, b⟩ := r
  cases e
  exact ⟨a, b⟩
theorem rps_ints : ∀ (xs : List Int), Rps g P M (xs.map .int) (xs.map .int)
  | [] => by simp
  | x :: xs => Rps.cons (by simp) (rps_ints xs)
theorem rps_strs : ∀ (xs : List (List Nat)), Rps g P M (xs.map .str) (xs.map .str)
  | [] => by simp
  | x :: xs => Rps.cons (by simp) (rps_strs xs)
theorem rps_ints_eq : ∀ {xs : List Int} {vs : List Val}, Rps g P M (xs.map .int) vs → vs = xs.map .int
  | [], vs, r => by simpa using r
  | x :: xs, vs, r => by
    simp at r
    obtain ⟨w, ws, rfl, rfl, r⟩ := r
    simp [rps_ints_eq r]
theorem rps_strs_eq : ∀ {xs : List (List Nat)} {vs : List Val}, Rps g P M (xs.map .str) vs → vs = xs.map .str
  | [], vs, r => by simpa using r
  | x :: xs, vs, r => by
    simp at r
    obtain ⟨w, ws, rfl, rfl, r⟩ := r
    simp [rps_strs_eq r]
theorem Rp.tup_ok {xs : List T} {v : Val} (h : Rp g P M (.tup xs) v) : ∃ vs, lstOf g M v = none ∧ tupOf g M v = some vs ∧ Rps g P M xs vs := by
  rw [rp_tup] at h
  obtain ⟨vs, q, r⟩ := h
  rcases q with ⟨a, rfl, _, m⟩ | ⟨k, rfl, m⟩
  · exact ⟨vs, by simp only [lstOf, m], by simp only [tupOf, m], r⟩
  · exact ⟨vs, by simp only [lstOf, m], by simp only [tupOf, m], r⟩
theorem Rp.lst_ok {xs : List T} {v : Val} (h : Rp g P M (.lst xs) v) : ∃ vs, lstOf g M v = some vs ∧ Rps g P M xs vs := by
  rw [rp_lst] at h
  obtain ⟨a, vs, rfl, _, m, r⟩ := h
  exact ⟨vs, lst_ref m, r⟩
/-! ### what is kept: all but the objects of a list -/
abbrev No (A : List Nat) : Nat → Prop := fun a => a ∉ A
structure Kp (A : List Nat) (M M' : Mem) : Prop where
  le : M.length ≤ M'.length
  eq : ∀ a, a < M.length → a ∉ A → M'[a]? = M[a]?
variable {A B : List Nat} {M1 M2 : Mem}
theorem Kp.refl : Kp A M M := ⟨Nat.le_refl _, fun _ _ _ => rfl⟩
theorem Kp.trans (a : Kp A M M1) (b : Kp A M1 M2) : Kp A M M2 := ⟨Nat.le_trans a.le b.le, fun i h n => (b.eq i (Nat.lt_of_lt_of_le h a.le) n).trans (a.eq i h n)⟩
theorem Kp.app {X : Mem} : Kp A M (M ++ X) := ⟨by simp, fun i h _ => List.getElem?_append_left h⟩
theorem Kp.set {a : Nat} {o : Ob} (h : a ∈ A) : Kp A M (M.set a o) := ⟨by simp, fun i _ n => List.getElem?_set_ne fun e => by subst e; exact n h⟩
theorem Kp.xt (x : Xt M M1) : Kp A M M1 := by
  obtain ⟨X, rfl⟩ := x
  exact Kp.app
theorem Kp.wk (k : Kp B M M1) (h : ∀ a ∈ B, a ∈ A ∨ M.length ≤ a) : Kp A M M1 := ⟨k.le, fun i l n => k.eq i l fun hb => (h i hb).elim n fun z => absurd l (by omega)⟩
theorem Kp.sub (k : Kp B M M1) (h : ∀ a ∈ B, a ∈ A) : Kp A M M1 := k.wk fun a ha => .inl (h a ha)
theorem Kp.get (k : Kp A M M1) {a : Nat} {o : Ob} (n : a ∉ A) (h : M[a]? = some o) : M1[a]? = some o := by
  rw [k.eq a (List.getElem?_eq_some_iff.mp h).1 n, h]
theorem Kp.lst {v : Val} {xs : List Val} (k : Kp [] M M1) (h : lstOf g M v = some xs) : lstOf g M1 v = some xs := by
  cases v with
  | ref a =>
    simp only [lstOf] at h ⊢
    cases e : M[a]? with
    | none => rw [e] at h; cases h
    | some o =>
      rw [e] at h
      rw [k.get (by simp) e]
      exact h
  | con c => exact h
  | _ => cases h
theorem Kp.scr {ns : List Int} {v : Val} (k : Kp [] M M1) (h : Scr g ns v M) : Scr g ns v M1 := by
  cases h with
  | ref h => exact .ref (k.get (by simp) h)
  | con h => exact .con h
theorem Rp.kp {t : T} {v : Val} (h : Rp g (No A) M t v) (k : Kp A M M1) : Rp g (No A) M1 t v := Rp.mono (fun _ _ n m => ⟨n, k.get n m⟩) t v h
theorem Rps.kp {t : List T} {v : List Val} (h : Rps g (No A) M t v) (k : Kp A M M1) : Rps g (No A) M1 t v := Rps.mono (fun _ _ n m => ⟨n, k.get n m⟩) t v h
theorem Rp.to {t : T} {v : Val} (h : Rp g P M t v) (hp : ∀ a, P a → a < M.length → P' a) : Rp g P' M t v := Rp.mono (fun a _ n m => ⟨hp a n (List.getElem?_eq_some_iff.mp m).1, m⟩) t v h
theorem Rps.to {t : List T} {v : List Val} (h : Rps g P M t v) (hp : ∀ a, P a → a < M.length → P' a) : Rps g P' M t v := Rps.mono (fun a _ n m => ⟨hp a n (List.getElem?_eq_some_iff.mp m).1, m⟩) t v h
theorem Rp.any {t : T} {v : Val} (h : Rp g P M t v) : Rp g (No []) M t v := h.to fun _ _ _ z => by cases z
theorem Rps.any {t : List T} {v : List Val} (h : Rps g P M t v) : Rps g (No []) M t v := h.to fun _ _ _ z => by cases z
theorem Rp.new {t : T} {v : Val} (h : Rp g (No A) M t v) (hb : ∀ a ∈ B, a ∈ A ∨ M.length ≤ a) : Rp g (No B) M t v := h.to fun a n l z => (hb a z).elim n fun q => by omega
theorem Rps.new {t : List T} {v : List Val} (h : Rps g (No A) M t v) (hb : ∀ a ∈ B, a ∈ A ∨ M.length ≤ a) : Rps g (No B) M t v := h.to fun a n l z => (hb a z).elim n fun q => by omega
end
/-! ### while, by a measure -/
theorem wh_ev {c : D} {body : Ds} {Q : Fl → Mem → Prop} (I : Nat → Loc → Mem → Prop)
    (h : ∀ j L M, I j L M → Ev (c L M) fun v M1 => (v = .bl true ∧ Ev (body L M1) fun f M2 => match f with
      | .nx L2 => ∃ i, i < j ∧ I i L2 M2
      | .ct L2 => ∃ i, i < j ∧ I i L2 M2
      | .bk L2 => Q (.nx L2) M2
      | .rt v => Q (.rt v) M2) ∨ (v = .bl false ∧ Q (.nx L) M1)) : ∀ {n j : Nat} {L : Loc} {M : Mem}, I j L M → j < n → Ev (whL c body n L M) Q
  | 0, j, L, M, _, hn => by omega
  | n + 1, j, L, M, hi, hn => by
    simp only [whL]
    rw [ev_bind]
    refine (h j L M hi).mono fun v M1 z => ?_
    rcases z with ⟨rfl, z⟩ | ⟨rfl, z⟩
    · simp only
      rw [ev_bind]
      refine Ev.mono z fun f M2 z => ?_
      cases f with
      | nx L2 =>
        obtain ⟨i, hi, q⟩ := z
        exact wh_ev I h q (by omega)
      | ct L2 =>
        obtain ⟨i, hi, q⟩ := z
        exact wh_ev I h q (by omega)
      | bk L2 => simp only [ev_ok]; exact z
      | rt v => simp only [ev_ok]; exact z
    · simp only [ev_ok]
      exact z
@[simp] theorem u_xWhile (n : Nat) (c : D) (body : Ds) (L : Loc) (M : Mem) (Q : Fl → Mem → Prop) : Ev (xWhile n c body L M) Q = Ev (whL c body n L M) Q := rfl
/-! ### equality of trees -/
mutual
def datT : T → Option Dat
  | .non => some .non
  | .bl b => some (.bl b)
  | .int i => some (.int i)
  | .str s => if s.all (· < 1114112) then some (.str s) else none
  | .lst xs => (datTs xs).map .lst
  | .tup xs => (datTs xs).map .tup
  | _ => none
def datTs : List T → Option (List Dat)
  | [] => some []
  | x :: xs => match datT x, datTs xs with
    | some d, some ds => some (d :: ds)
    | _, _ => none
end
section
variable {g : Cfg} {P : Nat → Prop} {M : Mem}
mutual
theorem rp_deep : ∀ {t : T} {v : Val} {d : Dat} {n : Nat}, Rp g P M t v → datT t = some d → dep d ≤ n → deep g M n v = some d
  | .non, v, d, n, r, e, _ => by
    simp at r; subst r; simp only [datT] at e; cases e; cases n <;> simp only [deep]
  | .bl b, v, d, n, r, e, _ => by
    simp at r; subst r; simp only [datT] at e; cases e; cases n <;> simp only [deep]
  | .int b, v, d, n, r, e, _ => by
    simp at r; subst r; simp only [datT] at e; cases e; cases n <;> simp only [deep]
  | .str s, v, d, n, r, e, _ => by
    simp at r; subst r; simp only [datT] at e; cases n <;> simp only [deep] <;> exact e
  | .lst xs, v, d, n, r, e, hn => by
    obtain ⟨vs, h, r⟩ := r.lst_ok
    simp only [datT] at e
    obtain ⟨ds, e1, rfl⟩ := Option.map_eq_some_iff.mp e
    simp only [dep] at hn
    obtain ⟨n, rfl⟩ : ∃ m, n = m + 1 := ⟨n - 1, by omega⟩
    exact deep_lst h (rps_deep r e1 (by omega))
  | .tup xs, v, d, n, r, e, hn => by
    obtain ⟨vs, h0, h, r⟩ := r.tup_ok
    simp only [datT] at e
    obtain ⟨ds, e1, rfl⟩ := Option.map_eq_some_iff.mp e
    simp only [dep] at hn
    obtain ⟨n, rfl⟩ : ∃ m, n = m + 1 := ⟨n - 1, by omega⟩
    exact deep_tup h0 h (rps_deep r e1 (by omega))
  | .ins _ _ _, v, d, n, r, e, _ => by simp only [datT] at e; cases e
  | .dk _ _, v, d, n, r, e, _ => by simp only [datT] at e; cases e
theorem rps_deep : ∀ {ts : List T} {vs : List Val} {ds : List Dat} {n : Nat}, Rps g P M ts vs → datTs ts = some ds → deps ds ≤ n → mapO (deep g M n) vs = some ds
  | [], vs, ds, n, r, e, _ => by
    simp at r; subst r; simp only [datTs] at e; cases e; rfl
  | t :: ts, vs, ds, n, r, e, hn => by
    simp only [Rps] at r
    obtain ⟨w, ws, rfl, a, r⟩ := r
    simp only [datTs] at e
    split at e
    · rename_i d ds' e1 e2
      cases e
      simp only [deps] at hn
      simp only [mapO, rp_deep a e1 (by omega : dep d ≤ n), rps_deep r e2 (by omega : deps ds' ≤ n)]
    · cases e
end
theorem rp_eq {t u : T} {x y : Val} {d e : Dat} (hf : flat x = false) (r : Rp g P M t x) (r' : Rp g P M u y) (h1 : datT t = some d) (h2 : datT u = some e) (l1 : dep d ≤ 60) (l2 : dep e ≤ 60) : oEq g x y M = .ok (.bl (eqD d e)) M := w_eqd hf (rp_deep r h1 l1) (rp_deep r' h2 l2)
theorem rp_ne {t u : T} {x y : Val} {d e : Dat} (hf : flat x = false) (r : Rp g P M t x) (r' : Rp g P M u y) (h1 : datT t = some d) (h2 : datT u = some e) (l1 : dep d ≤ 60) (l2 : dep e ≤ 60) : oNe g x y M = .ok (.bl (!eqD d e)) M := w_ned hf (rp_deep r h1 l1) (rp_deep r' h2 l2)
theorem Rp.flat_lst {xs : List T} {v : Val} (h : Rp g P M (.lst xs) v) : flat v = false := by
  rw [rp_lst] at h
  obtain ⟨a, vs, rfl, _⟩ := h
  rfl
theorem Rp.flat_tup {xs : List T} {v : Val} (h : Rp g P M (.tup xs) v) : flat v = false := by
  rw [rp_tup] at h
  obtain ⟨vs, ⟨a, rfl, _⟩ | ⟨k, rfl, _⟩, _⟩ := h <;> rfl
end
/-! ### reading what was written -/
theorem gS {M : Mem} {i : Nat} {o : Ob} (h : (M[i]?).isSome = true) : (M.set i o)[i]? = some o := by
  rw [List.getElem?_set_self]
  rw [Option.isSome_iff_exists] at h
  obtain ⟨u, h⟩ := h
  exact (List.getElem?_eq_some_iff.mp h).1
theorem gN {M : Mem} {i j : Nat} {o : Ob} (h : ¬ i = j) : (M.set i o)[j]? = M[j]? := List.getElem?_set_ne h
theorem gA {M X : Mem} {i : Nat} (h : (M[i]?).isSome = true) : (M ++ X)[i]? = M[i]? := by
  rw [Option.isSome_iff_exists] at h
  obtain ⟨u, h⟩ := h
  exact List.getElem?_append_left (List.getElem?_eq_some_iff.mp h).1
theorem gL {M X : Mem} : (M ++ X)[M.length]? = X[0]? := by simp
theorem at_lt {M : Mem} {i : Nat} {o : Ob} (h : M[i]? = some o) : i < M.length := (List.getElem?_eq_some_iff.mp h).1
theorem at_ne {M : Mem} {i : Nat} {o : Ob} (h : M[i]? = some o) : ¬ i = M.length := by have := at_lt h; omega
theorem at_ne' {M : Mem} {i : Nat} {o : Ob} (h : M[i]? = some o) : ¬ M.length = i := by have := at_lt h; omega
@[simp] theorem mfind_nil (c : String) : mfind [] c = none := rfl
@[simp] theorem mfind_cons (c d : String) (F : Fn) (T : MTab) : mfind ((c, F) :: T) d = if c = d then some F else mfind T d := by
  unfold mfind
  rw [List.find?_cons]
  by_cases e : c = d
  · subst e; simp
  · have : (c == d) = false := beq_eq_false_iff_ne.mpr e
    simp [this, e]
@[simp] theorem getf_nil (f : String) : getf [] f = none := rfl
@[simp] theorem getf_cons (c d : String) (v : Val) (r : List (String × Val)) : getf ((c, v) :: r) d = if c = d then some v else getf r d := rfl
@[simp] theorem putf_nil (f : String) (v : Val) : putf f v [] = [(f, v)] := rfl
@[simp] theorem putf_cons (c d : String) (v w : Val) (r : List (String × Val)) : putf d w ((c, v) :: r) = if c = d then (c, w) :: r else (c, v) :: putf d w r := rfl
@[simp] theorem setAll_nil (L : Loc) (xs : List Val) : setAll L [] xs = L := by cases xs <;> rfl
@[simp] theorem setAll_cons (L : Loc) (i : Nat) (is : List Nat) (x : Val) (xs : List Val) : setAll L (i :: is) (x :: xs) = setAll (L.set i (some x)) is xs := rfl
theorem rps1 {g : Cfg} {P : Nat → Prop} {M : Mem} {t1 : T} {vs : List Val} (h : Rps g P M [t1] vs) : ∃ v1, vs = [v1] ∧ Rp g P M t1 v1 := by
  rw [rps_cons] at h
  obtain ⟨w0, s0, rfl, h0, h⟩ := h
  rw [rps_nil] at h
  subst h
  exact ⟨w0, rfl, h0⟩
theorem rps2 {g : Cfg} {P : Nat → Prop} {M : Mem} {t1 t2 : T} {vs : List Val} (h : Rps g P M [t1, t2] vs) : ∃ v1 v2, vs = [v1, v2] ∧ Rp g P M t1 v1 ∧ Rp g P M t2 v2 := by
  rw [rps_cons] at h
  obtain ⟨w0, s0, rfl, h0, h⟩ := h
  rw [rps_cons] at h
  obtain ⟨w1, s1, rfl, h1, h⟩ := h
  rw [rps_nil] at h
  subst h
  exact ⟨w0, w1, rfl, h0, h1⟩
theorem rps3 {g : Cfg} {P : Nat → Prop} {M : Mem} {t1 t2 t3 : T} {vs : List Val} (h : Rps g P M [t1, t2, t3] vs) : ∃ v1 v2 v3, vs = [v1, v2, v3] ∧ Rp g P M t1 v1 ∧ Rp g P M t2 v2 ∧ Rp g P M t3 v3 := by
  rw [rps_cons] at h
  obtain ⟨w0, s0, rfl, h0, h⟩ := h
  rw [rps_cons] at h
  obtain ⟨w1, s1, rfl, h1, h⟩ := h
  rw [rps_cons] at h
  obtain ⟨w2, s2, rfl, h2, h⟩ := h
  rw [rps_nil] at h
  subst h
  exact ⟨w0, w1, w2, rfl, h0, h1, h2⟩
theorem rps4 {g : Cfg} {P : Nat → Prop} {M : Mem} {t1 t2 t3 t4 : T} {vs : List Val} (h : Rps g P M [t1, t2, t3, t4] vs) : ∃ v1 v2 v3 v4, vs = [v1, v2, v3, v4] ∧ Rp g P M t1 v1 ∧ Rp g P M t2 v2 ∧ Rp g P M t3 v3 ∧ Rp g P M t4 v4 := by
  rw [rps_cons] at h
  obtain ⟨w0, s0, rfl, h0, h⟩ := h
  rw [rps_cons] at h
  obtain ⟨w1, s1, rfl, h1, h⟩ := h
  rw [rps_cons] at h
  obtain ⟨w2, s2, rfl, h2, h⟩ := h
  rw [rps_cons] at h
  obtain ⟨w3, s3, rfl, h3, h⟩ := h
  rw [rps_nil] at h
  subst h
  exact ⟨w0, w1, w2, w3, rfl, h0, h1, h2, h3⟩
theorem rps5 {g : Cfg} {P : Nat → Prop} {M : Mem} {t1 t2 t3 t4 t5 : T} {vs : List Val} (h : Rps g P M [t1, t2, t3, t4, t5] vs) : ∃ v1 v2 v3 v4 v5, vs = [v1, v2, v3, v4, v5] ∧ Rp g P M t1 v1 ∧ Rp g P M t2 v2 ∧ Rp g P M t3 v3 ∧ Rp g P M t4 v4 ∧ Rp g P M t5 v5 := by
  rw [rps_cons] at h
  obtain ⟨w0, s0, rfl, h0, h⟩ := h
  rw [rps_cons] at h
  obtain ⟨w1, s1, rfl, h1, h⟩ := h
  rw [rps_cons] at h
  obtain ⟨w2, s2, rfl, h2, h⟩ := h
  rw [rps_cons] at h
  obtain ⟨w3, s3, rfl, h3, h⟩ := h
  rw [rps_cons] at h
  obtain ⟨w4, s4, rfl, h4, h⟩ := h
  rw [rps_nil] at h
  subst h
  exact ⟨w0, w1, w2, w3, w4, rfl, h0, h1, h2, h3, h4⟩
theorem rps6 {g : Cfg} {P : Nat → Prop} {M : Mem} {t1 t2 t3 t4 t5 t6 : T} {vs : List Val} (h : Rps g P M [t1, t2, t3, t4, t5, t6] vs) : ∃ v1 v2 v3 v4 v5 v6, vs = [v1, v2, v3, v4, v5, v6] ∧ Rp g P M t1 v1 ∧ Rp g P M t2 v2 ∧ Rp g P M t3 v3 ∧ Rp g P M t4 v4 ∧ Rp g P M t5 v5 ∧ Rp g P M t6 v6 := by
  rw [rps_cons] at h
  obtain ⟨w0, s0, rfl, h0, h⟩ := h
  rw [rps_cons] at h
  obtain ⟨w1, s1, rfl, h1, h⟩ := h
  rw [rps_cons] at h
  obtain ⟨w2, s2, rfl, h2, h⟩ := h
  rw [rps_cons] at h
  obtain ⟨w3, s3, rfl, h3, h⟩ := h
  rw [rps_cons] at h
  obtain ⟨w4, s4, rfl, h4, h⟩ := h
  rw [rps_cons] at h
  obtain ⟨w5, s5, rfl, h5, h⟩ := h
  rw [rps_nil] at h
  subst h
  exact ⟨w0, w1, w2, w3, w4, w5, rfl, h0, h1, h2, h3, h4, h5⟩
end Pa

/-! == of lists and dicts whose items are the same objects, or equal. -/
namespace Pa
open PySem PySem.Spec
open PyProof.Rows L2
open SX (S)
/-! equal things, dicts frozen or not -/
def EqR' (K : PySem.W.Frag) (H : Hp) (E : V → V → Prop) (x y : V) : Prop :=
  (∃ a b xs ys, x = .ref a ∧ y = .ref b ∧ SqL K H a xs ∧ SqL K H b ys ∧ Paired E xs ys) ∨
    ∃ a b ks ls, x = .ref a ∧ y = .ref b ∧ Rd H a (.dK ks) ∧ Rd H b (.dK ls) ∧ ks.length = ls.length ∧ ∀ p ∈ ks, ∃ u, valV ls p.1 = some u ∧ E p.2 u
def EqV' (K : PySem.W.Frag) (H : Hp) : Nat → V → V → Prop
  | 0 => fun _ _ => False
  | n + 1 => fun x y => (x = y ∧ flatB x = true) ∨ (∃ a, x = .ref a ∧ y = .ref a) ∨ EqR' K H (EqV' K H n) x y
section
variable {X : Cx} {pins : List (Addr × Obj)} {σ : L2.St} {H : Hp} {s : Shared}
theorem eqR_run' (I : Inv X pins σ H s) {A : Around} {F : V → V → Prop} (hu : A.units < cLine) (ih : ∀ x y v u, F x y → RelV x v → RelV y u → SeqAt.EqP X.prog X.w A.in1 s v u true) {x y : V} {v u : Value} (h : EqR' X.K H F x y) (rx : RelV x v) (ry : RelV y u)
    (E Q : Value → Shared → Prop) (q : Q (.bool true) s) : wpAny (model X.prog X.w) A (richCompare .Eq v u) Q E s := by
  rcases h with ⟨a, b, xs, ys, rfl, rfl, ha, hb, hp⟩ | ⟨a, b, ks, ls, rfl, rfl, ha, hb, hl, hp⟩
  · exact eqR_run I hu ih (.inl ⟨a, b, xs, ys, rfl, rfl, ha, hb, hp⟩) rx ry E Q q
  · cases (show v = Value.ref a from rx)
    cases (show u = Value.ref b from ry)
    obtain ⟨_, ya, va, ra, da⟩ := (show ObjOk X.prog X.w H s.heap a (.dK ks) from ha.ok I.hok)
    obtain ⟨_, yb, vb, rb, db⟩ := (show ObjOk X.prog X.w H s.heap b (.dK ls) from hb.ok I.hok)
    refine PySem.W.rcP_dicts (knd := mixKind X.prog X.w) (r := true) ya yb da db hu (fun _ => hits_run ih rb ra hp) E Q ?_
    have e : va.length = vb.length := by rw [← ra.length, ← rb.length]; exact hl
    rw [show (va.length == vb.length && true) = true from by rw [e]; simp]
    exact q
theorem eqV_run' (I : Inv X pins σ H s) : ∀ (n : Nat) (A : Around), A.units + n < cLine → ∀ (x y : V) (v u : Value), EqV' X.K H n x y → RelV x v → RelV y u → SeqAt.EqP X.prog X.w A s v u true
  | 0, _, _, _, _, _, _, h, _, _ => (show False from h).elim
  | n + 1, A, hu, x, y, v, u, h, rx, ry => by
    rcases h with ⟨rfl, f⟩ | ⟨a, rfl, rfl⟩ | h
    · exact (eqAt_same rx ry f).eqP
    · cases (show v = Value.ref a from rx)
      cases (show u = Value.ref a from ry)
      exact (SeqAt.EqAt.same _).eqP
    · have step := eqR_run' I (A := A) (by omega) (eqV_run' I n A.in1 (by show A.units + 1 + n < cLine; omega)) h rx ry
      obtain ⟨a, b, rfl, rfl⟩ : ∃ a b, x = .ref a ∧ y = .ref b := by
        rcases h with ⟨a, b, _, _, e1, e2, _⟩ | ⟨a, b, _, _, e1, e2, _⟩
        · exact ⟨a, b, e1, e2⟩
        · exact ⟨a, b, e1, e2⟩
      cases (show v = Value.ref a from rx)
      cases (show u = Value.ref b from ry)
      by_cases e : a = b
      · subst e
        exact (SeqAt.EqAt.same _).eqP
      · exact SeqAt.eqP_refs e step
end
section
variable {X : Cx}
def rEqV' (K : PySem.W.Frag) : R2 := fun x y H Q => ∃ n, n ≤ 60 ∧ EqR' K H (EqV' K H n) x y ∧ Q (.bl true) H
theorem op_eqV' (hu : X.A.units + 64 < cLine) : OpR X (compareOp .Eq) (rEqV' X.K) := by
  intro pins s σ H x y v u Q I rx ry h
  obtain ⟨n, hn, h, q⟩ := h
  exact eqR_run' I (A := X.A) (by omega) (eqV_run' I n X.A.in1 (by show X.A.units + 1 + n < cLine; omega)) h rx ry _ _ ⟨.bl true, H, I, rfl, q⟩
end
def eqAll (E : Val → Val → Bool) : List Val → List Val → Bool
  | [], [] => true
  | x :: xs, y :: ys => E x y && eqAll E xs ys
  | _, _ => false
def eqObj (g : Cfg) (M : Mem) (E : Val → Val → Bool) (x y : Val) : Bool :=
  (match lstOf g M x, lstOf g M y with
  | some xs, some ys => eqAll E xs ys
  | _, _ => false) || match x, y with
  | .ref a, .ref b => (match dkOf M a, dkOf M b with
    | some ks, some ls => decide (ks.length = ls.length) && ks.all fun p => (match lkp ls p.1 with
      | some u => E p.2 u
      | none => false)
    | _, _ => false)
  | _, _ => false
def idV : Val → Val → Bool
  | .ref a, .ref b => decide (a = b)
  | .con a, .con b => decide (a = b)
  | _, _ => false
def eqMem (g : Cfg) (M : Mem) : Nat → Val → Val → Bool
  | 0, _, _ => false
  | n + 1, x, y => (flat x && decide (x = y)) || (idV x y || eqObj g M (eqMem g M n) x y)
theorem idV_ok {x y : Val} (h : idV x y = true) : x = y := by
  cases x <;> cases y <;> simp_all [idV]
theorem flat_B {g : Cfg} {r : Nat → Addr} {x : Val} (h : flat x = true) : flatB (mv g r x) = true := by
  cases x <;> first | rfl | cases h
theorem eqAll_ok {E : Val → Val → Bool} {F : V → V → Prop} {m : Val → V} (h : ∀ x y, E x y = true → F (m x) (m y)) : ∀ {xs ys : List Val}, eqAll E xs ys = true → Paired F (xs.map m) (ys.map m)
  | [], [], _ => .nil
  | x :: xs, y :: ys, e => by
    simp only [eqAll, Bool.and_eq_true] at e
    exact .cons (h x y e.1) (eqAll_ok h e.2)
  | [], _ :: _, e => by simp [eqAll] at e
  | _ :: _, [], e => by simp [eqAll] at e
section
variable {g : Cfg} {K : PySem.W.Frag} {r : Nat → Addr} {M : Mem} {H : Hp}
theorem eqObj_ok (hK : ConOk g K) (R : Rel g r M H) {E : Val → Val → Bool} {F : V → V → Prop} (h : ∀ x y, E x y = true → F (mv g r x) (mv g r y)) {x y : Val} (e : eqObj g M E x y = true) : EqR' K H F (mv g r x) (mv g r y) := by
  simp only [eqObj, Bool.or_eq_true] at e
  rcases e with e | e
  · split at e
    · rename_i xs ys h1 h2
      obtain ⟨p, a, b, _⟩ := lstOf_ok (K := K) hK R h1
      obtain ⟨q, c, d, _⟩ := lstOf_ok (K := K) hK R h2
      exact .inl ⟨p, q, _, _, a, c, b, d, eqAll_ok h e⟩
    · cases e
  · split at e
    · rename_i a b
      split at e
      · rename_i ks ls h1 h2
        simp only [Bool.and_eq_true, decide_eq_true_eq, List.all_eq_true] at e
        have hu1 := (dkOf_ok R h1).1
        have hu2 := (dkOf_ok R h2).1
        refine .inr ⟨r a, r b, _, _, rfl, rfl, hu1, hu2, by simp [e.1], fun p hp => ?_⟩
        obtain ⟨q, hq, rfl⟩ := List.mem_map.mp hp
        have z := e.2 q hq
        split at z
        · rename_i u hu
          refine ⟨mv g r u, ?_, h _ _ z⟩
          have := valV_map (f := mk) (h := mv g r) (fun _ _ => mk_inj) q.1 ls
          rw [hu] at this
          exact this
        · cases z
      · cases e
    · cases e
theorem eqMem_ok (hK : ConOk g K) (R : Rel g r M H) : ∀ (n : Nat) (x y : Val), eqMem g M n x y = true → EqV' K H n (mv g r x) (mv g r y)
  | 0, x, y, e => by simp [eqMem] at e
  | n + 1, x, y, e => by
    simp only [eqMem, Bool.or_eq_true, Bool.and_eq_true, decide_eq_true_eq] at e
    rcases e with ⟨f, rfl⟩ | e | e
    · exact .inl ⟨rfl, flat_B f⟩
    · have z := idV_ok e
      subst z
      cases x <;> first | (simp [idV] at e; done) | skip
      · exact .inr (.inl ⟨_, rfl, rfl⟩)
      · exact .inr (.inl ⟨_, rfl, rfl⟩)
    · exact .inr (.inr (eqObj_ok hK R (fun x y => eqMem_ok hK R n x y) e))
end
def oEqO (g : Cfg) (x y : Val) (M : Mem) : R Val := if eqObj g M (eqMem g M 60) x y = true then .ok (.bl true) M else .no
def oEqX (g : Cfg) (x y : Val) (M : Mem) : R Val := match oEq g x y M with
  | .no => oEqO g x y M
  | r => r
theorem oEqO_s {g : Cfg} {K : PySem.W.Frag} (hK : ConOk g K) : OpS g (oEqO g) (rEqV' K) := by
  intro r M H x y v M' Q R lx ly e k
  unfold oEqO at e
  split at e
  · rename_i h
    cases e
    exact ⟨60, Nat.le_refl _, eqObj_ok hK R (fun x y => eqMem_ok hK R 60 x y) h, stay (v := .bl _) R trivial k⟩
  · cases e
theorem oEqX_s {g : Cfg} {K : PySem.W.Frag} (hK : ConOk g K) : OpS g (oEqX g) (fun x y H Q => (rEq x y H Q ∨ rEqD K x y H Q) ∨ rEqV' K x y H Q) :=
  OpS.or (oEq_s hK) (oEqO_s hK) fun x y M v M' e => by
    unfold oEqX at e
    split at e
    · exact .inr e
    · exact .inl e
mutual
theorem eqD_refl : ∀ d : Dat, eqD d d = true
  | .non => rfl
  | .bl b => by simp [eqD]
  | .int b => by simp [eqD]
  | .str b => by simp [eqD]
  | .lst xs => by simp only [eqD]; exact eqDs_refl xs
  | .tup xs => by simp only [eqD]; exact eqDs_refl xs
theorem eqDs_refl : ∀ d : List Dat, eqDs d d = true
  | [] => rfl
  | x :: xs => by simp only [eqDs, eqD_refl x, eqDs_refl xs, Bool.and_self]
end
theorem eqAll_deep {E : Val → Val → Bool} {f : Val → Option Dat} (h : ∀ x y d e, E x y = true → f x = some d → f y = some e → eqD d e = true) : ∀ {xs ys : List Val} {ds es : List Dat}, eqAll E xs ys = true → mapO f xs = some ds → mapO f ys = some es → eqDs ds es = true
  | [], [], ds, es, _, h1, h2 => by cases h1; cases h2; rfl
  | x :: xs, y :: ys, ds, es, e, h1, h2 => by
    simp only [eqAll, Bool.and_eq_true] at e
    simp only [mapO] at h1 h2
    split at h1
    · split at h2
      · cases h1; cases h2
        simp only [eqDs, Bool.and_eq_true]
        exact ⟨h _ _ _ _ e.1 (by assumption) (by assumption), eqAll_deep h e.2 (by assumption) (by assumption)⟩
      · cases h2
    · cases h1
  | [], _ :: _, _, _, e, _, _ => by simp [eqAll] at e
  | _ :: _, [], _, _, e, _, _ => by simp [eqAll] at e
section
variable {g : Cfg} {M : Mem}
theorem dkOf_nl {a : Nat} {kvs : List (DKey × Val)} (h : dkOf M a = some kvs) : lstOf g M (.ref a) = none ∧ tupOf g M (.ref a) = none := by
  unfold dkOf at h
  split at h
  · rename_i e; exact ⟨by simp only [lstOf, e], by simp only [tupOf, e]⟩
  · rename_i e; exact ⟨by simp only [lstOf, e], by simp only [tupOf, e]⟩
  · cases h
theorem eqObj_deep {E : Val → Val → Bool} (h : ∀ x y, E x y = true → ∀ m d e, deep g M m x = some d → deep g M m y = some e → eqD d e = true) {x y : Val} (e : eqObj g M E x y = true) {m : Nat} {d d' : Dat} (h1 : deep g M m x = some d) (h2 : deep g M m y = some d') : eqD d d' = true := by
  simp only [eqObj, Bool.or_eq_true] at e
  rcases e with e | e
  · split at e
    · rename_i xs ys l1 l2
      cases m with
      | zero => cases x <;> simp [lstOf, deep] at l1 h1
      | succ m =>
        have e1 : deep g M (m + 1) x = (mapO (deep g M m) xs).map .lst := by
          cases x <;> first | (simp [lstOf] at l1; done) | simp only [deep, l1]
        have e2 : deep g M (m + 1) y = (mapO (deep g M m) ys).map .lst := by
          cases y <;> first | (simp [lstOf] at l2; done) | simp only [deep, l2]
        rw [e1] at h1
        rw [e2] at h2
        obtain ⟨ds, q1, rfl⟩ := Option.map_eq_some_iff.mp h1
        obtain ⟨es, q2, rfl⟩ := Option.map_eq_some_iff.mp h2
        simp only [eqD]
        exact eqAll_deep (fun x y d e z a b => h x y z m d e a b) e q1 q2
    · cases e
  · split at e
    · rename_i a b
      split at e
      · rename_i ks ls k1 k2
        cases m with
        | zero => simp [deep] at h1
        | succ m => simp [deep, (dkOf_nl (g := g) k1).1, (dkOf_nl (g := g) k1).2] at h1
      · cases e
    · cases e
theorem eqMem_deep : ∀ (n : Nat) (x y : Val), eqMem g M n x y = true → ∀ m d e, deep g M m x = some d → deep g M m y = some e → eqD d e = true
  | 0, x, y, e => by simp [eqMem] at e
  | n + 1, x, y, e => fun m d d' h1 h2 => by
    simp only [eqMem, Bool.or_eq_true, Bool.and_eq_true, decide_eq_true_eq] at e
    rcases e with ⟨f, rfl⟩ | e | e
    · rw [h1] at h2; cases h2; exact eqD_refl d
    · have z := idV_ok e
      subst z
      rw [h1] at h2; cases h2; exact eqD_refl d
    · exact eqObj_deep (fun x y => eqMem_deep n x y) e h1 h2
theorem eqX_true {x y : Val} (e : eqObj g M (eqMem g M 60) x y = true) : oEqX g x y M = .ok (.bl true) M := by
  have hx : flat x = false := by
    cases x <;> first | rfl | (simp [eqObj, lstOf] at e; done)
  have hs : scalF x y = false := by
    cases x <;> cases y <;> first | rfl | (cases hx; done) | (simp [scalF, flat]; done)
  unfold oEqX
  cases h : oEq g x y M with
  | no => simp only [oEqO, e, if_true]
  | ok v M' =>
    simp only
    simp only [oEq, hs, oEqD] at h
    split at h
    · cases ‹false = true›
    · split at h
      · rename_i d d' h1 h2
        cases h
        have z := eqObj_deep (fun x y => eqMem_deep 60 x y) e h1 h2
        simp [z]
      · cases h
  | exc c fs M' =>
    simp only [oEq, hs, oEqD] at h
    split at h
    · cases ‹false = true›
    · split at h <;> cases h
theorem eqX_of {x y : Val} {v : Val} {M' : Mem} (h : oEq g x y M = .ok v M') : oEqX g x y M = .ok v M' := by
  unfold oEqX
  rw [h]
end
section
variable {g : Cfg} {X : Cx} {a b : Expr} {da db : D} {pos : Pos} (G : Good g X)
include G
theorem se_eqx (ha : SE g X a da) (hb : SE g X b db) : SE g X (.Compare a [.Eq] [b] pos) (dB (oEqX g) da db) := se_cmp ((op_eq.or (op_eqD G.un)).or (op_eqV' G.un)) (oEqX_s G.con) ha hb (nomark _)
theorem st_eqx (ha : SE g X a da) (hb : SE g X b db) : ST g X (.Compare a [.Eq] [b] pos) (dB (oEqX g) da db) := st_cmp ((op_eq.or (op_eqD G.un)).or (op_eqV' G.un)) (oEqX_s G.con) ha hb (nomark _)
end
end Pa

/-! != of two dicts that are equal; divmod. -/
namespace Pa
open PySem PySem.Spec
open PyProof.Rows L2
open SX (S)
section
variable {K : Type} [DecidableEq K] {prog : Program} {w : World} {A : Around} {s : Shared} {knd : PySem.KeyKind prog w K}
theorem ne_dicts {a b : Addr} {ka kb : List (K × Value)} {r : Bool} (ha : (a == sysModules) = false) (hb : (b == sysModules) = false)
    (da : s.heap.DictOf knd a ka) (db : s.heap.DictOf knd b kb) (hu : A.units < cLine) (hits : ka.length = kb.length → PySem.W.KeqHitsP prog w A.in1 s kb ka r) (E Q : Value → Shared → Prop) (h : Q (.bool (!(ka.length == kb.length && r))) s) : wpAny (model prog w) A (compareOp .NotEq (.ref a) (.ref b)) Q E s := by
  refine wpAny_richCompare_same_room (op := .NotEq) da.typeIs db.typeIs PySem.F.slot_dict_ne (wpAny_call_entry PySem.F.slot_dict_ne da.typeIs PySem.F.entry_dict_ne ?_ (PySem.F.args_dict_ne_2 _ _)) hu
  show wpAny _ _ (Builtin.Dict.dictSlotArgs "__ne__" ⟨[.ref a, .ref b], []⟩ >>= _) _ _ s
  refine wpAny_bind ?_
  unfold Builtin.Dict.dictSlotArgs
  refine wpAny_bind (wpAny_notOrdered_dict da.typeIs ?_)
  show wpAny _ _ (pure (Value.ref a, Value.ref b)) _ _ s
  refine wpAny_pure ?_
  refine wpAny_bind (wpAny_isInstance (T := "dict") db.typeIs PySem.F.sub_dict_dict ?_)
  simp only [Bool.not_true, Bool.false_eq_true, if_false]
  refine wpAny_bind (wpAny_pure (wpAny_bind (wpAny_pure ?_)))
  refine wpAny_bind (PySem.W.samePairsP ha hb da db hits ?_)
  refine wpAny_pure ⟨_, rfl, ?_, ?_⟩
  · exact fun x => nomatch x
  · simpa using h
end
section
variable {X : Cx}
def rNeV (K : PySem.W.Frag) : R2 := fun x y H Q => ∃ n a b ks ls, n ≤ 60 ∧ x = .ref a ∧ y = .ref b ∧ Rd H a (.dK ks) ∧ Rd H b (.dK ls) ∧ ks.length = ls.length ∧ (∀ p ∈ ks, ∃ u, valV ls p.1 = some u ∧ EqV' K H n p.2 u) ∧ Q (.bl false) H
set_option autoImplicit false in
theorem op_neV (hu : X.A.units + 64 < cLine) : OpR X (compareOp .NotEq) (rNeV X.K) := by
  intro pins s σ H x y v u Q I rx ry h
  obtain ⟨n, a, b, ks, ls, hn, rfl, rfl, ha, hb, hl, hp, q⟩ := h
  cases (show v = Value.ref a from rx)
  cases (show u = Value.ref b from ry)
  obtain ⟨_, ya, va, ra, da⟩ := (show ObjOk X.prog X.w H s.heap a (.dK ks) from ha.ok I.hok)
  obtain ⟨_, yb, vb, rb, db⟩ := (show ObjOk X.prog X.w H s.heap b (.dK ls) from hb.ok I.hok)
  refine ne_dicts (knd := mixKind X.prog X.w) (r := true) ya yb da db (by omega) (fun _ => hits_run (eqV_run' I n X.A.in1 (by show X.A.units + 1 + n < cLine; omega)) rb ra hp) _ _ ?_
  have e : va.length = vb.length := by rw [← ra.length, ← rb.length]; exact hl
  rw [show (!(va.length == vb.length && true)) = false from by rw [e]; simp]
  exact ⟨.bl false, H, I, rfl, q⟩
end
def dkObj (M : Mem) (E : Val → Val → Bool) : Val → Val → Bool
  | .ref a, .ref b => (match dkOf M a, dkOf M b with
    | some ks, some ls => decide (ks.length = ls.length) && ks.all fun p => (match lkp ls p.1 with
      | some u => E p.2 u
      | none => false)
    | _, _ => false)
  | _, _ => false
def oNeO (g : Cfg) (x y : Val) (M : Mem) : R Val := if dkObj M (eqMem g M 60) x y = true then .ok (.bl false) M else .no
def oNeX (g : Cfg) (x y : Val) (M : Mem) : R Val := match oNe g x y M with
  | .no => oNeO g x y M
  | r => r
theorem oNeO_s {g : Cfg} {K : PySem.W.Frag} (hK : ConOk g K) : OpS g (oNeO g) (rNeV K) := by
  intro r M H x y v M' Q R lx ly e k
  unfold oNeO at e
  split at e
  · rename_i h
    cases e
    cases x <;> cases y <;> first | (simp [dkObj] at h; done) | skip
    rename_i a b
    simp only [dkObj] at h
    split at h
    · rename_i ks ls h1 h2
      simp only [Bool.and_eq_true, decide_eq_true_eq, List.all_eq_true] at h
      have hu1 := (dkOf_ok R h1).1
      have hu2 := (dkOf_ok R h2).1
      refine ⟨60, r a, r b, _, _, Nat.le_refl _, rfl, rfl, hu1, hu2, by simp [h.1], fun p hp => ?_, stay (v := .bl _) R trivial k⟩
      obtain ⟨q, hq, rfl⟩ := List.mem_map.mp hp
      have z := h.2 q hq
      split at z
      · rename_i u hu
        refine ⟨mv g r u, ?_, eqMem_ok hK R 60 _ _ z⟩
        have := valV_map (f := mk) (h := mv g r) (fun _ _ => mk_inj) q.1 ls
        rw [hu] at this
        exact this
      · cases z
    · cases h
  · cases e
theorem oNeX_s {g : Cfg} {K : PySem.W.Frag} (hK : ConOk g K) : OpS g (oNeX g) (fun x y H Q => (rNe x y H Q ∨ rNeD K x y H Q) ∨ rNeV K x y H Q) :=
  OpS.or (oNe_s hK) (oNeO_s hK) fun x y M v M' e => by
    unfold oNeX at e
    split at e
    · exact .inr e
    · exact .inl e
section
variable {g : Cfg} {M : Mem}
theorem neX_false {x y : Val} (e : dkObj M (eqMem g M 60) x y = true) : oNeX g x y M = .ok (.bl false) M := by
  have k : oNe g x y M = .no := by
    cases x <;> cases y <;> first | (simp [dkObj] at e; done) | skip
    rename_i a b
    simp only [dkObj] at e
    split at e
    · rename_i ks ls k1 k2
      have z : deep g M 60 (.ref a) = none := by simp [deep, (dkOf_nl (g := g) k1).1, (dkOf_nl (g := g) k1).2]
      simp [oNe, scalF, flat, oEqD, z]
    · cases e
  unfold oNeX
  rw [k]
  simp only [oNeO, e, if_true]
theorem neX_of {x y : Val} {v : Val} {M' : Mem} (h : oNe g x y M = .ok v M') : oNeX g x y M = .ok v M' := by
  unfold oNeX
  rw [h]
end
section
variable {g : Cfg} {X : Cx} {a b : Expr} {da db : D} {pos : Pos} (G : Good g X)
include G
theorem se_nex (ha : SE g X a da) (hb : SE g X b db) : SE g X (.Compare a [.NotEq] [b] pos) (dB (oNeX g) da db) := se_cmp ((op_ne.or (op_neD G.un)).or (op_neV G.un)) (oNeX_s G.con) ha hb (nomark _)
theorem st_nex (ha : SE g X a da) (hb : SE g X b db) : ST g X (.Compare a [.NotEq] [b] pos) (dB (oNeX g) da db) := st_cmp ((op_ne.or (op_neD G.un)).or (op_neV G.un)) (oNeX_s G.con) ha hb (nomark _)
end
/-! divmod -/
def bDivmod (vs : List Val) (M : Mem) : R Val := match vs with
  | [.int i, .int j] => if 0 < j ∧ j < 18446744073709551616 then .ok (.ref M.length) (M ++ [.tup [.int (i / j), .int (i % j)]]) else .no
  | _ => .no
theorem divp64 {i j : Int} (h : 0 < j ∧ j < 18446744073709551616) : CDivP i j := by
  refine ⟨h.1, PyProof.noPylong_of_log2 ?_⟩
  have z : j.natAbs < 2 ^ 64 := by
    have e : (2 : Nat) ^ 64 = 18446744073709551616 := by decide
    rw [e]
    omega
  have := Nat.log2_lt (n := j.natAbs) (k := 64) (by omega) |>.mpr z
  omega
theorem bDivmod_s {g : Cfg} : CaS g bDivmod (fun xs H Q => ∃ i j, xs = [.int i, .int j] ∧ CDivP i j ∧ ∀ p, H p = none → Q (.ref p) (upd H p (.tup [.int (i / j), .int (i % j)]))) := by
  intro r M H vs v M' Q R l e k
  unfold bDivmod at e
  split at e
  · split at e
    · rename_i i j h
      cases e
      exact ⟨i, j, rfl, divp64 h, fun p hp => alloc_fin R (o := .tup [.int (i / j), .int (i % j)]) .tup (Lts.cons (x := .int (i / j)) trivial (Lts.cons (x := .int (i % j)) trivial Lts.nil)) k p hp⟩
    · cases e
  · cases e
section
variable {g : Cfg} {X : Cx} {pos p : Pos} {e : Expr} {es : List Expr} {ds : DA} (G : Good g X)
include G
theorem se_divmod (hm : X.mg "divmod" = none) (ha : SA g X (e :: es) ds) (hg : Gl X "divmod" := by rfl) (hp : Pl pos e es X := by exact ⟨rfl, rfl⟩) : SE g X (.Call (.Name "divmod" p) (e :: es) [] pos) (dF bDivmod ds) :=
  se_fn call_divmodW bDivmod_s hm (by decide +kernel) ha hg (by decide) (by decide) hp.1 hp.2
end
/-! str.index -/
def mSIndex (x : Val) (vs : List Val) (M : Mem) : R Val := match x, vs with
  | .str a, [.str b] => (match Builtin.Str.occurrences (S a) (S b) 0 (S a).length 1 with
    | i :: _ => .ok (.int (i : Nat)) M
    | [] => .no)
  | _, _ => .no
theorem mSIndex_s {g : Cfg} : MtS g mSIndex (fun x xs H Q => ∃ a b i rest, x = .str a ∧ xs = [.str b] ∧ Builtin.Str.occurrences a b 0 a.length 1 = i :: rest ∧ Q (.int (i : Nat)) H) := by
  intro r M H x vs v M' Q R lx lv e k
  unfold mSIndex at e
  split at e
  · rename_i a b
    split at e
    · rename_i i rest h
      cases e
      exact ⟨S a, S b, i, rest, rfl, rfl, h, stay (v := .int _) R trivial k⟩
    · cases e
  · cases e
section
variable {g : Cfg} {X : Cx} {o e : Expr} {es : List Expr} {d : D} {ds : DA} {apos cpos : Pos}
theorem se_sindex (ho : SE g X o d) (ha : SA g X (e :: es) ds) (p : PlM X o "index" apos e es cpos := by exact ⟨rfl, rfl, rfl, rfl, rfl⟩) : SE g X (.Call (.Attribute o "index" apos) (e :: es) [] cpos) (dM "str" mSIndex d ds) :=
  se_m PySem.F.plainAttrs_str PySem.F.slot_str_index PySem.F.type_str_index mt_sindex mSIndex_s ho ha p
end
end Pa


/-! max of a list of ints with a default. -/
namespace PySem
open Sem (wp)
section
variable {prog : Program} {w : World} {A : Around} {R : Result → Shared → Prop} {I : Addr} {fp wr : List Addr} {G : Array GenState → Array GenState → Prop} {n : Nat} {P : Nat → Value → Prop} {St : Nat → Shared → Prop}
abbrev dkw (d : Value) : List (Str × Value) := [(Str.ofString "default", d)]
theorem codeAny_max_loopK {d : Value} (W : WalksS prog w A.in1 I fp wr G n P St) (bt : Nat → Nat → Bool) (hcmp : CmpOf prog w A.in1 .Gt P bt) (S : Addr) (hSf : S ∉ fp) :
    ∀ (k j : Nat) (s : Shared) (vb : Value) (c : Nat), n - (j + 1) = k → j + 1 ≤ n → St (j + 1) s → P (argBest bt j) vb →
    s.heap.get? S = some { cls := .type "list", dict := none, data := .seq #[vb, vb] c, slots := #[] } →
    (∀ v s', P (argBest bt (n - 1)) v → Moved (S :: wr) G s s' → R (.ok (.ret v)) s') → codeAny (model prog w) A (.builtin "max.loop" ⟨[.ref I, .none, .ref S], dkw d⟩) R s := by
  have hSw : S ∉ wr := fun h => hSf (W.sub _ h)
  have hsub : ∀ b ∈ wr, b ∈ S :: wr := fun b hb => List.mem_cons_of_mem _ hb
  have hname : (toString "max" ++ toString ".loop" : String) = "max.loop" := by decide
  have notS : ∀ {b : Addr}, b ∉ S :: wr → S ≠ b := fun hb h => hb (by rw [h]; exact List.mem_cons_self)
  intro k
  induction k with
  | zero =>
    intro j s vb c hk hj hst hPb hS hR
    have hin : j + 1 = n := by omega
    refine codeAny_builtin F.entry_max_loop ?_
    rw [Around.under_plainId F.plain_max_loop _]
    show wpAny _ A.in1 (seqItems? (.ref S) >>= _) _ _ s
    refine wpAny_bind (wpAny_seqItems hS rfl ?_)
    show wpAny _ A.in1 (tryCatch (pyNext (.ref I)) _ >>= _) _ _ s
    refine wpAny_bind (wpAny_tryCatch (W.done s _ _ (hin ▸ hst) fun s' hm => ?_))
    have hS' := hm.heap S _ hSw hS
    show wpAny _ A.in1 (updateSeq S (fun _ => #[]) >>= _) _ _ _
    refine wpAny_bind ?_
    refine wpAny_updateSeq hS' rfl (wpAny_bind (wpAny_letGo (wpAny_pure ?_)))
    exact hR vb _ (by rw [← hin]; exact hPb) ((hm.mono hsub).then_heap (tk := s'.toks) (Nat.le_refl _) fun b o hb e => (Heap.get?_update_other _ _ (notS hb)).trans e)
  | succ k ih =>
    intro j s vb c hk hj hst hPb hS hR
    have hlt : j + 1 < n := by omega
    refine codeAny_builtin F.entry_max_loop ?_
    rw [Around.under_plainId F.plain_max_loop _]
    show wpAny _ A.in1 (seqItems? (.ref S) >>= _) _ _ s
    refine wpAny_bind (wpAny_seqItems hS rfl ?_)
    show wpAny _ A.in1 (tryCatch (pyNext (.ref I)) _ >>= _) _ _ s
    refine wpAny_bind (wpAny_tryCatch (W.item (j + 1) s _ _ hlt hst fun v s' hP hst' hm => ?_))
    have hS' := hm.heap S _ hSw hS
    show wpAny _ A.in1 (tryCatch (holding [v, v] (richCompare .Gt v vb >>= _)) _ >>= _) _ _ _
    refine wpAny_bind (wpAny_tryCatch (wpAny_holding (wpAny_bind (hcmp (j + 1) (argBest bt j) v vb _ _ _ hP hPb ?_))))
    refine wpAny_bind (wpAny_holding (wpAny_truthy_bool ?_))
    refine wpAny_bind (wpAny_letGo (wpAny_pure ?_))
    cases hb : bt (j + 1) (argBest bt j) with
    | true =>
      simp only [if_true]
      refine wpAny_bind ?_
      refine wpAny_updateSeq hS' rfl (wpAny_bind (wpAny_letGo ?_))
      rw [hname]
      refine wpAny_pure ⟨plainId_quiet F.plain_max_loop _, ih (j + 1) _ v _ (by omega) hlt (W.frame _ s' _ s'.toks hst' (Nat.le_refl _) fun b hbf o e => ?_) (by simp only [argBest, hb, if_true]; exact hP) (Heap.get?_update_self _ hS' rfl)
        fun v' s'' hP' hm'' => ?_⟩
      · exact (Heap.get?_update_other _ _ (fun h : S = b => hSf (by rw [h]; exact hbf))).trans e
      · exact hR v' s'' hP' (Moved.trans W.gtrans ((hm.mono hsub).then_heap (by first | exact Nat.le_refl _ | exact Nat.le_succ _ | omega) fun b o hb e => (Heap.get?_update_other _ _ (notS hb)).trans e) hm'')
    | false =>
      simp only [Bool.false_eq_true, if_false]
      refine wpAny_bind (wpAny_letGo ?_)
      rw [hname]
      refine wpAny_pure ⟨plainId_quiet F.plain_max_loop _, ih (j + 1) _ vb c (by omega) hlt hst' (by simp only [argBest, hb, Bool.false_eq_true, if_false]; exact hPb) hS' fun v' s'' hP' hm'' => ?_⟩
      exact hR v' s'' hP' (Moved.trans W.gtrans (hm.mono hsub) hm'')
theorem codeAny_max_firstK {d : Value} (W : WalksS prog w A.in1 I fp wr G n P St) (bt : Nat → Nat → Bool) (hcmp : CmpOf prog w A.in1 .Gt P bt) (S : Addr) (hSf : S ∉ fp) {s : Shared} {c : Nat} (hst : St 0 s)
    (hS : s.heap.get? S = some { cls := .type "list", dict := none, data := .seq #[] c, slots := #[] })
    (hR0 : n = 0 → ∀ s', Moved (S :: wr) G s s' → R (.ok (.ret d)) s')
    (hR : 0 < n → ∀ v s', P (argBest bt (n - 1)) v → Moved (S :: wr) G s s' → R (.ok (.ret v)) s') : codeAny (model prog w) A (.builtin "max.loop" ⟨[.ref I, .none, .ref S], dkw d⟩) R s := by
  have hSw : S ∉ wr := fun h => hSf (W.sub _ h)
  have hsub : ∀ b ∈ wr, b ∈ S :: wr := fun b hb => List.mem_cons_of_mem _ hb
  have hname : (toString "max" ++ toString ".loop" : String) = "max.loop" := by decide
  have notS : ∀ {b : Addr}, b ∉ S :: wr → S ≠ b := fun hb h => hb (by rw [h]; exact List.mem_cons_self)
  refine codeAny_builtin F.entry_max_loop ?_
  rw [Around.under_plainId F.plain_max_loop _]
  show wpAny _ A.in1 (seqItems? (.ref S) >>= _) _ _ s
  refine wpAny_bind (wpAny_seqItems hS rfl ?_)
  show wpAny _ A.in1 (tryCatch (pyNext (.ref I)) _ >>= _) _ _ s
  rcases Nat.eq_zero_or_pos n with hn | hn
  · refine wpAny_bind (wpAny_tryCatch (W.done s _ _ (hn ▸ hst) fun s' hm => ?_))
    show wpAny _ A.in1 (rule _ >>= _) _ _ _
    refine wpAny_bind (wpAny_rule (wpAny_pure ?_))
    exact hR0 hn s' (hm.mono hsub)
  · refine wpAny_bind (wpAny_tryCatch (W.item 0 s _ _ hn hst fun v s' hP hst' hm => ?_))
    have hS' := hm.heap S _ hSw hS
    show wpAny _ A.in1 (updateSeq S (fun _ => #[v, v]) >>= _) _ _ _
    refine wpAny_bind ?_
    refine wpAny_updateSeq hS' rfl ?_
    rw [hname]
    refine wpAny_pure ⟨plainId_quiet F.plain_max_loop _, codeAny_max_loopK W bt hcmp S hSf _ 0 _ v _ rfl hn (W.frame _ s' _ s'.toks hst' (Nat.le_refl _) fun b hbf o e => ?_) hP (Heap.get?_update_self _ hS' rfl) fun v' s'' hP' hm'' => ?_⟩
    · exact (Heap.get?_update_other _ _ (fun h : S = b => hSf (by rw [h]; exact hbf))).trans e
    · exact hR hn v' s'' hP' (Moved.trans W.gtrans ((hm.mono hsub).then_heap (by first | exact Nat.le_refl _ | exact Nat.le_succ _ | omega) fun b o hb e => (Heap.get?_update_other _ _ (notS hb)).trans e) hm'')
end
theorem args_maxK (a d : Value) : PySem.argsOk "max" ⟨[a], dkw d⟩ := by unfold PySem.argsOk; kernel_rfl
section
variable {prog : Program} {w : World} {A : Around} {E : Value → Shared → Prop} {s : Shared}
theorem call_function_kw {id : String} {b : Builtin} {args : List Value} {kw : List (Str × Value)} {Q : Value → Shared → Prop} (hk : builtinKind id = none) (hp : plainId id = true)
    (hb : entryFor table id = some b) (ha : argsOk id ⟨args, kw⟩)
    (hc : wpAny (model prog w) A.in1 (b ⟨args, kw⟩) (fun fin s' => match fin with
      | .done f => (match (Except.ok f : Result) with | .ok (.ret v) => Q v s' | .ok _ => False | .error e => E e s')
      | .again c' => c'.quiet = true ∧ codeAny (model prog w) A c' (fun r s' => match r with | .ok (.ret v) => Q v s' | .ok _ => False | .error e => E e s') s') E s) :
    wpAny (model prog w) A (call (.builtin id) args kw) Q E s := by
  refine wpAny_call (codeAny_call_builtin hp hb ?_)
  simp only [checkBuiltinCall, hk]
  cases hsig : Manifest.signature? id with
  | none => exact wpAny_pure hc
  | some sig =>
    have ha' : Bind.checkArgs id sig ⟨args, kw⟩ = pure () := by simpa only [argsOk, hsig] using ha
    simp only [ha']
    exact wpAny_pure hc
theorem call_max_walkK {x d : Value} {Q : Value → Shared → Prop}
    (h : wpAny (model prog w) A.in1 (pyIter x) (fun it s₂ => ∃ I fp wr G n P St bt, it = .ref I ∧ WalksS prog w A.in1 I fp wr G n P St ∧ St 0 s₂ ∧ (∀ b ∈ fp, b < s₂.heap.objs.size) ∧ CmpOf prog w A.in1 .Gt P bt ∧
      (n = 0 → ∀ s', Moved wr G s₂ s' → Q d s') ∧ (0 < n → ∀ v s', P (argBest bt (n - 1)) v → Moved wr G s₂ s' → Q v s')) E s) :
    wpAny (model prog w) A (call (.builtin "max") [x] (dkw d)) Q E s := by
  have hname : (toString "max" ++ toString ".loop" : String) = "max.loop" := by decide
  refine call_function_kw F.kind_max F.plain_max F.entry_max (args_maxK _ _) ?_
  show wpAny _ A.in1 (Builtin.Builtins.bindParams "max" ["key", "default"] 0 ⟨[], dkw d⟩ >>= _) _ _ s
  refine wpAny_bind (wpAny_of_eq (show Builtin.Builtins.bindParams "max" ["key", "default"] 0 ⟨[], dkw d⟩ = pure [none, some d] from rfl) ?_)
  refine wpAny_bind (wpAny_pure ?_)
  refine wpAny_bind (wpAny_mono h (fun it s₂ h₂ => ?_) fun _ _ e => e)
  obtain ⟨I, fp, wr, G, n, P, St, bt, rfl, W, hst, hfp, hcmp, hQ0, hQ⟩ := h₂
  refine wpAny_bind (wpAny_newObj_type ?_)
  have hSf : s₂.heap.objs.size ∉ fp := fun hm => Nat.lt_irrefl _ (hfp _ hm)
  rw [hname]
  refine wpAny_pure ⟨plainId_quiet F.plain_max_loop _, codeAny_max_firstK W bt hcmp s₂.heap.objs.size hSf (W.frame 0 s₂ _ s₂.toks hst (Nat.le_refl _) fun b _ o e => Heap.get?_push_of_some _ e) (Heap.get?_push_size _ rfl) (fun hn s' hm => ?_) fun hn v s' hP hm => ?_⟩
  · exact hQ0 hn s' (Moved.drop_new (tk := s₂.toks) hm (Nat.le_refl _))
  · exact hQ hn v s' hP (Moved.drop_new (tk := s₂.toks) hm (Nat.le_refl _))
theorem max_intListK {l : Addr} {xs : Array (Int × Tok)} {d : Value} {Q : Value → Shared → Prop} (hh : A.handled = none) (hl : s.heap.IsList l (intItems xs))
    (h0 : xs.size = 0 → ∀ h' tk, (∀ b o, s.heap.get? b = some o → h'.get? b = some o) → Q d { s with heap := h', toks := tk })
    (h : 0 < xs.size → ∀ v h' tk, (intItems xs)[argBest (fun i j => decide (numAt xs i > numAt xs j)) (xs.size - 1)]? = some v → (∀ b o, s.heap.get? b = some o → h'.get? b = some o) → Q v { s with heap := h', toks := tk }) :
    wpAny (model prog w) A (call (.builtin "max") [.ref l] (dkw d)) Q E s := by
  refine call_max_walkK (iter_intList hl fun s₂ e st hfp hlI => ?_)
  subst e
  refine ⟨_, _, _, _, _, _, _, _, rfl, (Walks.list (A := A.in1) hh _ l hlI (intItems xs)).toS, st, hfp, CmpOf.ints_gt (numAt xs) (fun _ _ => intItems_at), fun hn s' hm => ?_, fun hn v s' hP hm => ?_⟩
  · have e : s' = { s with heap := s'.heap, toks := s'.toks } := by
      obtain ⟨a1, a2, a3, a4, a5⟩ := hm
      cases s'
      simp only [Shared.mk.injEq, true_and] at *
      exact ⟨a2, a3, a4⟩
    rw [e]
    exact h0 (by simpa [intItems] using hn) s'.heap s'.toks (old_kept hm.heap)
  · have e : s' = { s with heap := s'.heap, toks := s'.toks } := by
      obtain ⟨a1, a2, a3, a4, a5⟩ := hm
      cases s'
      simp only [Shared.mk.injEq, true_and] at *
      exact ⟨a2, a3, a4⟩
    rw [e]
    exact h (by simpa [intItems] using hn) v s'.heap s'.toks (by simpa [intItems] using hP) (old_kept hm.heap)
end
end PySem
namespace L2
open PySem PySem.Spec PyProof.Rows
section
variable {X : Cx}
/-- max(xs, default=d) of a list of ints -/
def rMaxK (K : PySem.W.Frag) : List V → List V → Hp → VK → Prop := fun vs zs H Q => ∃ (a : Addr) (ns : List Int) (d : Int), vs = [V.ref a] ∧ zs = [V.int d] ∧ SqL K H a (ns.map V.int) ∧ (ns = [] → Q (.int d) H) ∧
  (0 < ns.length → ∀ m, m ∈ ns → (∀ y, y ∈ ns → y ≤ m) → Q (.int m) H)
theorem cr_maxK (hc : X.calm = true) : CallRK X (.builtin "max") [Str.ofString "default"] (rMaxK X.K) := by
  intro pins s σ H vs zs us ws Q I r rz h
  obtain ⟨a, ns, d, rfl, rfl, hs, q0, q⟩ := h
  obtain ⟨its, rv, hl, _⟩ := I.list hs
  rw [Vals.ref1 r]
  obtain ⟨w1, rfl, e1⟩ := vals1 rz
  obtain ⟨td, rfl⟩ : ∃ t, w1 = Value.int d t := e1
  have hi := rv.ints
  obtain ⟨xs, e⟩ := hi.allInts.items
  have hn : numsOf (intItems xs).toList = ns := by rw [← e]; exact hi.numsOf
  rw [nums_intItems] at hn
  subst hn
  have hl' := hl.isList
  rw [e] at hl'
  refine PySem.max_intListK (I.ok.hd hc) hl' (fun hn h' tk hk => ?_) (fun hn v h' tk hv hk => ?_)
  · refine ⟨.int d, H, I.kept hk, ⟨_, rfl⟩, q0 ?_⟩
    have : xs.toList = [] := by
      apply List.eq_nil_of_length_eq_zero
      simpa using hn
    rw [this]; rfl
  · obtain ⟨t, rfl⟩ := intItems_at hv
    obtain ⟨h1, h2⟩ := argBest_gt (numAt xs) (xs.size - 1)
    refine ⟨.int _, H, I.kept hk, ⟨_, rfl⟩, q (by simpa using hn) _ ?_ fun a ha => ?_⟩
    · rw [numAt_eq]; exact PySem.getD_mem (by rw [List.length_map, Array.length_toList]; omega)
    · obtain ⟨j, hj, rfl⟩ := mem_getD ha
      rw [List.length_map, Array.length_toList] at hj
      rw [← numAt_eq]; exact h2 j (by omega)
end
end L2
namespace Pa
open PySem PySem.Spec
open PyProof.Rows L2
section
variable {g : Cfg} {X : Cx}
def bMaxK (g : Cfg) (vs : List Val) (M : Mem) : R Val := match vs with
  | [v, .int d] => (match (lstOf g M v).bind intsOf with
    | some [] => .ok (.int d) M
    | some (i :: is) => .ok (.int (mxs i is)) M
    | none => .no)
  | _ => .no
theorem bMaxK_s {K : PySem.W.Frag} (hK : ConOk g K) : CaS g (bMaxK g) (fun vs H Q => ∃ x z, vs = [x, z] ∧ rMaxK K [x] [z] H Q) := by
  intro r M H vs v M' Q R l e k
  unfold bMaxK at e
  split at e
  · rename_i w d
    split at e
    · rename_i hi
      cases e
      obtain ⟨xs, hx, hz⟩ := Option.bind_eq_some_iff.mp hi
      obtain ⟨p, hp, hq, wf⟩ := lstOf_ok (K := K) hK R hx
      rw [intsOf_ok hz] at hq
      refine ⟨_, _, rfl, p, [], d, by rw [hp], rfl, hq, fun _ => stay (v := .int _) R trivial k, fun h => absurd h (by simp)⟩
    · rename_i i is hi
      cases e
      obtain ⟨xs, hx, hz⟩ := Option.bind_eq_some_iff.mp hi
      obtain ⟨p, hp, hq, wf⟩ := lstOf_ok (K := K) hK R hx
      rw [intsOf_ok hz] at hq
      refine ⟨_, _, rfl, p, i :: is, d, by rw [hp], rfl, hq, fun h => (by simp at h), fun _ m hm hmx => ?_⟩
      obtain ⟨h1, h2, h3⟩ := mxs_ok is i
      have e : m = mxs i is := by
        have a1 : m ≤ mxs i is := by
          rcases List.mem_cons.mp hm with rfl | hm
          · exact h2
          · exact h3 m hm
        have a2 : mxs i is ≤ m := by
          rcases h1 with h1 | h1
          · rw [h1]; exact hmx i (List.mem_cons_self ..)
          · exact hmx _ (List.mem_cons_of_mem _ h1)
        omega
      rw [e]
      exact stay (v := .int _) R trivial k
    · cases e
  · cases e
theorem goFK {f : List Val → Mem → R Val} {rc : List V → List V → Hp → VK → Prop} {da db : D} (hs : CaS g f (fun vs H Q => ∃ x z, vs = [x, z] ∧ rc [x] [z] H Q)) {σ : L2.St} {H : Hp} {Q : VK} (h : tD g (dF f (aCons da (aCons db aNil))) σ H Q) : tCKw rc (tDA g (aCons da aNil)) (tCons (tD g db) tNil) σ H Q := by
  obtain ⟨r, L, M, v, M', A, e, k⟩ := h
  obtain ⟨vs, M1, e1, e⟩ := R.bind_eq e
  obtain ⟨x, M2, e2, e3⟩ := R.bind_eq e1
  obtain ⟨ys, M3, e4, e5⟩ := R.bind_eq e3
  obtain ⟨y, M4, e6, e7⟩ := R.bind_eq e4
  obtain ⟨zs, M5, e8, e9⟩ := R.bind_eq e7
  cases e8
  cases e9
  cases e5
  have ex : aCons da aNil L M = .ok [x] M2 := by
    show (da L M).bind _ = _
    rw [e2]
    rfl
  refine tDA_go A ex fun r1 H1 n1 A1 l1 => ?_
  refine tD_go A1 e6 fun r2 H2 n2 A2 l2 => ?_
  have lx : x.lt M2.length := l1 x (by simp)
  have z := hs r2 _ H2 [x, y] v M' Q A2.rel (Lts.cons (lx.mono n2.le) (Lts.cons l2 Lts.nil)) e fun r3 H3 n3 R3 l3 => k r3 H3 ((n1.trans n2).trans n3) R3 l3
  obtain ⟨p, q, hp, hq⟩ := z
  cases hp
  have : mv g r2 x = mv g r1 x := n2.mv lx
  rw [this] at hq
  exact hq
section
variable {e e1 : Expr} {da db : D} {p pos kpos : Pos} (G : Good g X)
include G
theorem se_maxk (hm : X.mg "max" = none) (ha : SE g X e da) (hb : SE g X e1 db) (hg : Gl X "max" := by rfl)
    (he : backTo pos (starEach [e] X.env) = (false, eval e X.env) :: backTo pos (starEach [] X.env) := by rfl) (hpl : (backTo pos (starEach [e] X.env)).any (·.1) = false := by rfl)
    (hs : starEach [e] X.env = (false, eval e X.env) :: starEach [] X.env := by rfl)
    (hall : (backToKw pos (keywordEach [⟨some "default", e1, kpos⟩] X.env)).all (·.1.isSome) = true := by rfl) (hnone : (backToKw pos (keywordEach [⟨some "default", e1, kpos⟩] X.env)).any (·.1.isNone) = false := by rfl) (hks : (backToKw pos (keywordEach [⟨some "default", e1, kpos⟩] X.env)).filterMap (·.1) = [Str.ofString "default"] := by rfl) :
    SE g X (.Call (.Name "max" p) [e] [⟨some "default", e1, kpos⟩] pos) (dF (bMaxK g) (aCons da (aCons db aNil))) :=
  pe_imp (pe_callBK (cr_maxK G.calm) hg hm (by decide +kernel) (sa_cons ha sa_nil hs) (pk_cons hb pk_nil) (by decide) (by decide) he hpl hall hnone hks) fun _ _ _ h => goFK (bMaxK_s G.con) h
end
end
end Pa

/-! Dicts that are walked: their record is frozen while the loop runs. -/
namespace Pa
open PySem PySem.Spec
open PyProof.Rows L2
open SX (S)
def kvl : DKey → Val
  | .inl i => .int i
  | .inr s => .str s
theorem kvl_mv {g : Cfg} {r : Nat → Addr} (k : DKey) : mv g r (kvl k) = kV (mk k) := by cases k <;> rfl
theorem kvl_lt {n : Nat} (k : DKey) : (kvl k).lt n := by cases k <;> exact trivial
theorem it_keys {g : Cfg} {K : PySem.W.Frag} {r0 : Nat → Addr} {M0 : Mem} {H0 : Hp} {d : Addr} {o : Obj} {kvs : List (DKey × Val)} (hd : H0 d = some (.frz o (.dK (kvs.map (mkv g r0))))) :
    ItOk g K r0 M0 H0 (Itk d o (kvs.map (mkv g r0))) (.fix (kvs.map fun p => kvl p.1)) := by
  refine ⟨fun r M H i n R e => ⟨n.kp _ _ _ hd, ?_⟩, fun r M H i v M1 n R hi e => ?_⟩
  · have z := of_decide_eq_true e
    rw [List.length_map] at z ⊢
    exact z
  · simp only [yld] at e
    obtain ⟨e1, rfl⟩ := Pa.R.of_eq e
    rw [List.getElem?_map] at e1
    obtain ⟨p, hp, rfl⟩ := Option.map_eq_some_iff.mp e1
    refine ⟨⟨n.kp _ _ _ hd, ?_⟩, fun x H' ⟨eh, k, v, hk, ex⟩ => ?_⟩
    · rw [List.length_map]; exact (List.getElem?_eq_some_iff.mp hp).1
    · subst eh ex
      rw [List.getElem?_map, hp] at hk
      cases hk
      exact ⟨r, Nxt.refl, R, (kvl_mv _).symm, kvl_lt _⟩
theorem it_items {g : Cfg} {K : PySem.W.Frag} {r0 : Nat → Addr} {M0 : Mem} {H0 : Hp} {d : Addr} {o : Obj} {kvs : List (DKey × Val)} (hd : H0 d = some (.frz o (.dK (kvs.map (mkv g r0))))) (wf : ∀ p ∈ kvs, p.2.lt M0.length) :
    ItOk g K r0 M0 H0 (Iti d o (kvs.map (mkv g r0))) (.prs (kvs.map fun p => kvl p.1) (kvs.map (·.2))) := by
  refine ⟨fun r M H i n R e => ⟨n.kp _ _ _ hd, ?_⟩, fun r M H i v M1 n R hi e => ?_⟩
  · have z := of_decide_eq_true (Bool.and_eq_true_iff.mp e).1
    rw [List.length_map] at z ⊢
    exact z
  · simp only [yld] at e
    split at e
    · rename_i x y hx hy
      cases e
      rw [List.getElem?_map] at hx hy
      obtain ⟨p, hp, rfl⟩ := Option.map_eq_some_iff.mp hx
      obtain ⟨p', hp', rfl⟩ := Option.map_eq_some_iff.mp hy
      rw [hp] at hp'
      cases hp'
      refine ⟨⟨n.kp _ _ _ hd, ?_⟩, fun x H' ⟨T, k, v, hk, ex, hT, eh⟩ => ?_⟩
      · rw [List.length_map]; exact (List.getElem?_eq_some_iff.mp hp).1
      · rw [List.getElem?_map, hp] at hk
        cases hk
        subst ex eh
        have l0 := wf p (List.mem_of_getElem? hp)
        have l := l0.mono n.le
        have z := R.alloc (o := .tup [kvl p.1, p.2]) hT .tup (Lts.cons (kvl_lt _) (Lts.cons l Lts.nil))
        rw [show [kvl p.1, p.2].map (mv g r) = [kV (mk p.1), mv g r0 p.2] from by
          rw [List.map_cons, List.map_cons, List.map_nil, kvl_mv, n.mv l0]] at z
        exact ⟨ext r M.length T, nxt_ext hT, z, (congrArg V.ref ext_at).symm, by show M.length < _; simp⟩
    · cases e
/-! the rules: locked by the iterator's laying, unlocked behind the statement -/
def Ful (X : Cx) (d : Addr) : Prop := ∀ o' u', X.H_0 d ≠ some (.frz o' u')
abbrev tWk (X : Cx) (J : Addr → Obj → List (Key × V) → It) (td : TE) : TI := fun σ H R => td σ H fun x H1 => ∃ d kvs, x = .ref d ∧ ((H1 d = some (.dK kvs) ∧ ∀ od, Ful X d → R (J d od kvs) (upd H1 d (.frz od (.dK kvs)))) ∨ ∃ od, H1 d = some (.frz od (.dK kvs)) ∧ R (J d od kvs) H1)
section
variable {X : Cx} {tg e : Expr} {td : TE} {apos cpos : Pos}
theorem pi_keysL (he : PE X e td) : PI X tg e (tWk X Itk td) := by
  refine ⟨fun pins s σ H R I h => ?_⟩
  refine thn (he.run pins s σ H _ I h) fun u s1 ⟨x, H1, I1, rx, d, kvs, ex, q⟩ => ?_
  subst ex
  obtain rfl : u = Value.ref d := rx
  have fin : ∀ {od : Obj} {H2 : Hp}, Inv X pins σ H2 s1 → H2 d = some (.frz od (.dK kvs)) → R (Itk d od kvs) H2 → wpAny (model X.prog X.w) X.A (pyIter (.ref d)) (PIE X pins σ tg R) X.xe s1 := fun {od H2} I2 hd q => by
    obtain ⟨hs, hgd, hx, es, ep, vs, hdt, hsz, kv, hm⟩ := I2.frzK hd
    refine iter_keys hs hgd hx hdt (pi_one (tk := s1.toks) I2 _ (turn_keys _ hdt) ⟨_, Heap.get?_push_size _ rfl, rfl, ?_⟩ q)
    rw [hsz] <;> rfl
  rcases q with ⟨hd, q⟩ | ⟨od, hd, q⟩
  · obtain ⟨od, I2⟩ := I1.lock hd trivial
    exact fin I2 upd_same (q od (I1.nofrz hd trivial))
  · exact fin I1 hd q
theorem pi_itemsL {elts : List Expr} {kk : Nat} {tpos : Pos} (he : PE X e td) (hbase : attributeBase e "items" X.env (eval e X.env) = eval e X.env := by rfl) (hline : (apos.endLine == cpos.line) = true := by rfl) :
    PI X (.Tuple elts kk tpos) (.Call (.Attribute e "items" apos) [] [] cpos) (tWk X Iti td) := by
  refine ⟨fun pins s σ H R I h => ?_⟩
  refine wpAny_Call_method (T := "dict") (id := "dict.items") hbase rfl hline F.plainAttrs_dict F.slot_dict_items F.type_dict_items (thn (he.run pins s σ H _ I h) fun u s1 ⟨x, H1, I1, rx, d, kvs, ex, q⟩ => ?_)
  subst ex
  obtain rfl : u = Value.ref d := rx
  obtain ⟨od, H2, I1, hd, q⟩ : ∃ od H2, Inv X pins σ H2 s1 ∧ H2 d = some (.frz od (.dK kvs)) ∧ R (Iti d od kvs) H2 := by
    rcases q with ⟨hd, q⟩ | ⟨od, hd, q⟩
    · obtain ⟨od, I2⟩ := I1.lock hd trivial
      exact ⟨od, _, I2, upd_same, q od (I1.nofrz hd trivial)⟩
    · exact ⟨od, H1, I1, hd, q⟩
  obtain ⟨hs, hgd, hx, es, ep, vs, hdt, hsz, kv, hm⟩ := I1.frzK hd
  have hl : kvs.length = vs.length := Paired.length kv
  refine ⟨hm.dictOf.typeIs, hm.dictOf.mapOf.noDict, ?_⟩
  have I2 : Inv X pins σ H2 { s1 with heap := s1.heap.push { cls := .type "dict_items", data := .fields #[.ref d] } } := I1.kept (t' := s1.toks) fun b ob q => Heap.get?_push_of_some _ q
  have fin : wpAny (model X.prog X.w) X.A (pyIter (.ref s1.heap.objs.size)) (PIE X pins σ (.Tuple elts kk tpos) R) X.xe { s1 with heap := s1.heap.push { cls := .type "dict_items", data := .fields #[.ref d] } } := by
    refine wpAny_pyIter_items (d := d) (knd := mixKind X.prog X.w) ⟨_, Heap.get?_push_size _ rfl, rfl, rfl⟩ (hm.push _) (pi_one (tk := s1.toks) I2 _ (turn_items _ hdt) ⟨.none, .none, ?_⟩ q)
    rw [hl]
    exact Heap.get?_push_size _ rfl
  show wpAny _ _ (callWith cpos (.builtin "dict.items") [.ref d] [] []) _ X.xe s1
  exact method_meetsIn F.slot_dict_items F.entry_dict_items rfl (PySem.evalArgs_none ⟨rfl, hm.dictOf.typeIs, F.args_dict_items_1 _, _, meets_dict_items (mixKind X.prog X.w) d hs, ⟨vs, hm.dictOf⟩, fin⟩)
def Unl (X : Cx) (H : Hp) (k : Hp → Prop) : Prop := k H ∨ ∃ d od u, H d = some (.frz od u) ∧ Ful X d ∧ k (upd H d u)
abbrev eUnl (X : Cx) (D : Ends) : Ends := ⟨fun σ H => Unl X H (D.nx σ), fun v H => Unl X H (D.rt v), fun σ H => Unl X H (D.bk σ), fun σ H => Unl X H (D.ct σ)⟩
theorem ps_unl {st : Stmt} {t : TS} (h : PS X st t) : PS X st (fun D σ H => t (eUnl X D) σ H) := by
  refine ⟨fun pins s σ H D I hw => thn (h.run pins s σ H _ I hw) fun f s1 q => ?_⟩
  cases f with
  | next =>
    obtain ⟨σ', H', I2, q | ⟨d, od, u, e, hn, q⟩⟩ := q
    · exact ⟨σ', _, I2, q⟩
    · exact ⟨σ', _, I2.unlock e hn, q⟩
  | brk =>
    obtain ⟨σ', H', I2, q | ⟨d, od, u, e, hn, q⟩⟩ := q
    · exact ⟨σ', _, I2, q⟩
    · exact ⟨σ', _, I2.unlock e hn, q⟩
  | cont =>
    obtain ⟨σ', H', I2, q | ⟨d, od, u, e, hn, q⟩⟩ := q
    · exact ⟨σ', _, I2, q⟩
    · exact ⟨σ', _, I2.unlock e hn, q⟩
  | ret v =>
    obtain ⟨x, σ', H', I2, r, q | ⟨d, od, u, e, hn, q⟩⟩ := q
    · exact ⟨x, σ', _, I2, r, q⟩
    · exact ⟨x, σ', _, I2.unlock e hn, r, q⟩
end
/-! the denotation -/
def lockD (M : Mem) (a : Nat) (f : Mem → R Fl) : R Fl := match M[a]? with
  | some (.dk kvs) => (f (M.set a (.fz (.dk kvs)))).bind fun x M2 => .ok x (M2.set a (.dk kvs))
  | some (.fz (.dk _)) => f M
  | _ => .no
def iKs (kvs : List (DKey × Val)) : Itb := .fix (kvs.map fun p => kvl p.1)
def iIs (kvs : List (DKey × Val)) : Itb := .prs (kvs.map fun p => kvl p.1) (kvs.map (·.2))
def xForD (g : Cfg) (mkI : List (DKey × Val) → Itb) (d : D) (t : DT) (body : Ds) : Ds := fun L M => (d L M).bind fun v M1 => match v with
  | .ref a => (match dkOf M1 a with
    | some kvs => lockD M1 a fun M2 => forL g (mkI kvs) t body (mkI kvs).num 0 L M2
    | none => .no)
  | _ => .no
section
variable {g : Cfg} {X : Cx} {tg e it : Expr} {d : D} {t : DT} {db : Ds} {b : List Stmt} {pos : Pos}
def JOk (g : Cfg) (K : PySem.W.Frag) (J : Addr → Obj → List (Key × V) → It) (mkI : List (DKey × Val) → Itb) : Prop :=
  ∀ (r0 : Nat → Addr) (M0 : Mem) (H0 : Hp) (d : Addr) (o : Obj) (kvs : List (DKey × Val)), H0 d = some (.frz o (.dK (kvs.map (mkv g r0)))) → (∀ p ∈ kvs, p.2.lt M0.length) → ItOk g K r0 M0 H0 (J d o (kvs.map (mkv g r0))) (mkI kvs)
theorem ss_forD {J : Addr → Obj → List (Key × V) → It} {mkI : List (DKey × Val) → Itb} (hp : PassesOwn (model X.prog X.w) X.A X.env X.xe) (G : Good g X) (hJ : JOk g X.K J mkI) (hi : PI X tg it (tWk X J (tD g d))) (ht : STg g X tg t) (hb : SSs g X b db)
    (hs : ∀ x, foldedSetIterable it X.env x = pure x := by intro _; rfl) : SS g X (.For tg it b [] pos) (xForD g mkI d t db) := by
  obtain ⟨gt, h1, h2⟩ := ht.ex
  refine ps_imp (ps_unl (ps_for hp G.calm hi h1 hb hs)) fun D σ H ⟨r, L, M, f, M', A, e, k⟩ => ?_
  obtain ⟨v, M1, e1, e⟩ := R.bind_eq e
  split at e
  · rename_i a
    split at e
    · rename_i kvs hk
      delta tFor tWk
      dsimp only
      refine tD_go A e1 fun r1 H1 n1 A1 l1 => ⟨r1 a, kvs.map (mkv g r1), rfl, ?_⟩
      have wf := (dkOf_ok A1.rel hk).2
      unfold lockD at e
      split at e
      · rename_i kvs' hm
        have ek : kvs' = kvs := by simp only [dkOf, hm] at hk; cases hk; rfl
        subst ek
        obtain ⟨f1, M2, ef, e⟩ := R.bind_eq e
        cases e
        obtain ⟨u0, hu0, x0⟩ := A1.rel.obj _ _ hm
        cases x0
        refine .inl ⟨hu0, fun od hn => ?_⟩
        have RL : Rel g r1 (M1.set a (.fz (.dk kvs'))) (upd H1 (r1 a) (.frz od (.dK (kvs'.map (mkv g r1))))) := A1.rel.put (lt_of_get hm) (.fz .dk) wf
        have AL : At g r1 L (M1.set a (.fz (.dk kvs'))) σ (upd H1 (r1 a) (.frz od (.dK (kvs'.map (mkv g r1))))) := ⟨RL, by rw [List.length_set]; exact A1.lok, A1.sl⟩
        have back : ∀ r' H', Nxt r1 (M1.set a (.fz (.dk kvs'))) (upd H1 (r1 a) (.frz od (.dK (kvs'.map (mkv g r1))))) r' M2 H' → Rel g r' M2 H' →
            H' (r1 a) = some (.frz od (.dK (kvs'.map (mkv g r1)))) ∧ Nxt r M H r' (M2.set a (.dk kvs')) (upd H' (r1 a) (.dK (kvs'.map (mkv g r1)))) ∧ Rel g r' (M2.set a (.dk kvs')) (upd H' (r1 a) (.dK (kvs'.map (mkv g r1)))) := fun r' H' n' R' => by
          have la : a < M1.length := lt_of_get hm
          have le := n'.le
          rw [List.length_set] at le
          have ea : r' a = r1 a := n'.eq a (by rw [List.length_set]; exact la)
          have em : kvs'.map (mkv g r1) = kvs'.map (mkv g r') := List.map_congr_left fun p hp => by
            show (_, _) = (_, _)
            rw [n'.mv (v := p.2) (by rw [List.length_set]; exact wf p hp)]
          refine ⟨n'.kp _ _ _ upd_same, ⟨?_, fun i hi => ?_, fun c o x hc => ?_⟩, ?_⟩
          · rw [List.length_set]; exact Nat.le_trans n1.le le
          · exact (n'.eq i (by rw [List.length_set]; exact Nat.lt_of_lt_of_le hi n1.le)).trans (n1.eq i hi)
          · have h1 := n1.kp _ _ _ hc
            have ne : c ≠ r1 a := fun z => by rw [z, hu0] at h1; cases h1
            rw [upd_ne ne]
            exact n'.kp _ _ _ (by rw [upd_ne ne]; exact h1)
          · rw [em, ← ea]
            exact R'.put (Nat.lt_of_lt_of_le la le) .dk fun p hp => (wf p hp).mono le
        refine ⟨fun i m σ H => ∃ r L M, At g r L M σ H ∧ Nxt r1 (M1.set a (.fz (.dk kvs'))) (upd H1 (r1 a) (.frz od (.dK (kvs'.map (mkv g r1))))) r M H ∧ i + m = (mkI kvs').num ∧ forL g (mkI kvs') t db m i L M = .ok f M2 ∧ FP g (eUnl X D) r M H f M2 ∧ ((∃ L', f = .nx L') ∨ ∃ v, f = .rt v), ⟨(mkI kvs').num, r1, L, _, AL, Nxt.refl, by omega, ef, fun r' H' n' R' => ?_, forL_end ef⟩, fun i m σ H => forL_ok (hJ _ _ _ _ _ _ upd_same (by rw [List.length_set]; exact wf)) h2 i m σ H⟩
        obtain ⟨z1, z2, z3⟩ := back r' H' n' R'
        have kk := k r' _ z2 z3
        cases f with
        | nx L' => exact fun lo => .inr ⟨_, _, _, z1, hn, kk (by rw [List.length_set]; exact lo)⟩
        | rt v => exact fun lo => .inr ⟨_, _, _, z1, hn, kk (by rw [List.length_set]; exact lo)⟩
        | bk L' => exact fun lo => .inr ⟨_, _, _, z1, hn, kk (by rw [List.length_set]; exact lo)⟩
        | ct L' => exact fun lo => .inr ⟨_, _, _, z1, hn, kk (by rw [List.length_set]; exact lo)⟩
      · rename_i kvs' hm
        have ek : kvs' = kvs := by simp only [dkOf, hm] at hk; cases hk; rfl
        subst ek
        obtain ⟨u0, hu0, x0⟩ := A1.rel.obj _ _ hm
        cases x0 with
        | @fz _ od _ x0 =>
          cases x0
          refine .inr ⟨od, hu0, ?_⟩
          refine ⟨fun i m σ H => ∃ r L M, At g r L M σ H ∧ Nxt r1 M1 H1 r M H ∧ i + m = (mkI kvs').num ∧ forL g (mkI kvs') t db m i L M = .ok f M' ∧ FP g (eUnl X D) r M H f M' ∧ ((∃ L', f = .nx L') ∨ ∃ v, f = .rt v), ⟨(mkI kvs').num, r1, L, _, A1.next Nxt.refl A1.rel, Nxt.refl, by omega, e, fun r' H' n' R' => ?_, forL_end e⟩, fun i m σ H => forL_ok (hJ _ _ _ _ _ _ hu0 wf) h2 i m σ H⟩
          have kk := k r' H' (n1.trans n') R'
          cases f with
          | nx L' => exact fun lo => .inl (kk lo)
          | rt v => exact fun lo => .inl (kk lo)
          | bk L' => exact fun lo => .inl (kk lo)
          | ct L' => exact fun lo => .inl (kk lo)
      · cases e
    · cases e
  · cases e
theorem jok_keys {K : PySem.W.Frag} : JOk g K Itk iKs := fun r0 M0 H0 d o kvs hd wf => it_keys hd
theorem jok_items {K : PySem.W.Frag} : JOk g K Iti iIs := fun r0 M0 H0 d o kvs hd wf => it_items hd wf
theorem ss_forK (hp : PassesOwn (model X.prog X.w) X.A X.env X.xe) (G : Good g X) (he : SE g X e d) (ht : STg g X tg t) (hb : SSs g X b db) (hs : ∀ x, foldedSetIterable e X.env x = pure x := by intro _; rfl) : SS g X (.For tg e b [] pos) (xForD g iKs d t db) :=
  ss_forD hp G jok_keys (pi_keysL he) ht hb hs
theorem ss_forI {elts : List Expr} {kk : Nat} {tpos apos cpos : Pos} (hp : PassesOwn (model X.prog X.w) X.A X.env X.xe) (G : Good g X) (he : SE g X e d) (ht : STg g X (.Tuple elts kk tpos) t) (hb : SSs g X b db)
    (hbase : attributeBase e "items" X.env (eval e X.env) = eval e X.env := by rfl) (hline : (apos.endLine == cpos.line) = true := by rfl) (hs : ∀ x, foldedSetIterable (.Call (.Attribute e "items" apos) [] [] cpos) X.env x = pure x := by intro _; rfl) :
    SS g X (.For (.Tuple elts kk tpos) (.Call (.Attribute e "items" apos) [] [] cpos) b [] pos) (xForD g iIs d t db) :=
  ss_forD hp G jok_items (pi_itemsL he hbase hline) ht hb hs
end
/-! list(d), dict(d) -/
def bListD (M : Mem) (a : Nat) : R Val := match dkOf M a with
  | some kvs => .ok (.ref M.length) (M ++ [.lst (kvs.map fun p => kvl p.1)])
  | none => .no
def bListX (g : Cfg) (vs : List Val) (M : Mem) : R Val := match vs with
  | [.ref a] => (match dkOf M a with
    | some _ => bListD M a
    | none => bList g vs M)
  | _ => bList g vs M
def bDict (vs : List Val) (M : Mem) : R Val := match vs with
  | [.ref a] => (match dkOf M a with
    | some kvs => .ok (.ref M.length) (M ++ [.dk kvs])
    | none => .no)
  | _ => .no
section
variable {g : Cfg} {X : Cx}
def rListDk : List V → Hp → VK → Prop := fun xs H Q => ∃ (a : Addr) (kvs : List (Key × V)), xs = [.ref a] ∧ L2.Rd H a (.dK kvs) ∧ ∀ p, H p = none → Q (.ref p) (upd H p (.lst (kvs.map fun kv => kV kv.1)))
theorem bListX_s {K : PySem.W.Frag} (hK : ConOk g K) : CaS g (bListX g) (fun xs H Q => (∃ p ys, xs = [.ref p] ∧ (SqL K H p ys ∨ SqT K H p ys) ∧ ∀ l, H l = none → Q (.ref l) (upd H l (.lst ys))) ∨ rListDk xs H Q) := by
  intro r M H vs v M' Q R l e k
  unfold bListX at e
  split at e
  · rename_i a
    split at e
    · rename_i kvs hk
      unfold bListD at e
      rw [hk] at e
      cases e
      obtain ⟨h1, h2⟩ := dkOf_ok R hk
      refine .inr ⟨r a, kvs.map (mkv g r), rfl, h1, fun p hp => ?_⟩
      have z := alloc_fin (o := .lst (kvs.map fun p => kvl p.1)) R .lst (fun v hv => by
        obtain ⟨p, _, rfl⟩ := List.mem_map.mp hv
        exact kvl_lt _) k p hp
      have em : ((kvs.map (mkv g r)).map fun kv => kV kv.1) = (kvs.map fun p => kvl p.1).map (mv g r) := by
        rw [List.map_map, List.map_map]
        exact List.map_congr_left fun p _ => (kvl_mv _).symm
      rw [em]
      exact z
    · exact .inl (bList_s hK r M H _ v M' Q R l e k)
  · exact .inl (bList_s hK r M H _ v M' Q R l e k)
theorem bDict_s : CaS g bDict (fun xs H Q => ∃ (a : Addr) (kvs : List (Key × V)), xs = [.ref a] ∧ L2.Rd H a (.dK kvs) ∧ ∀ p, H p = none → Q (.ref p) (upd H p (.dK kvs))) := by
  intro r M H vs v M' Q R l e k
  unfold bDict at e
  split at e
  · rename_i a
    split at e
    · rename_i kvs hk
      cases e
      obtain ⟨h1, h2⟩ := dkOf_ok R hk
      exact ⟨r a, kvs.map (mkv g r), rfl, h1, fun p hp => alloc_fin (o := .dk kvs) R .dk h2 k p hp⟩
    · cases e
  · cases e
variable {e : Expr} {es : List Expr} {ds : DA} {p pos : Pos}
theorem se_listX (G : Good g X) (hm : X.mg "list" = none) (ha : SA g X (e :: es) ds) (hg : Gl X "list" := by rfl) (hp : Pl pos e es X := by exact ⟨rfl, rfl⟩) : SE g X (.Call (.Name "list" p) (e :: es) [] pos) (dF (bListX g) ds) :=
  se_ty (call_list_of.or (call_listD G.calm)) (bListX_s G.con) hm (by decide +kernel) ha hg (by decide) (by decide) hp.1 hp.2
theorem se_dictX (hm : X.mg "dict" = none) (ha : SA g X (e :: es) ds) (hg : Gl X "dict" := by rfl) (hp : Pl pos e es X := by exact ⟨rfl, rfl⟩) : SE g X (.Call (.Name "dict" p) (e :: es) [] pos) (dF bDict ds) :=
  se_ty call_dictD bDict_s hm (by decide +kernel) ha hg (by decide) (by decide) hp.1 hp.2
end
end Pa

namespace Q62
open PySem PySem.Spec
open PyProof.Rows L2 Pa
abbrev FUEL : Nat := 1000000000000000000
def top (i : Nat) : Stmt := PySem.Challenge.pw_hushrow_k62_twelve_tries.main.body.getD i (.Pass ⟨0, 0, 0, 0⟩)
def inClass (st : Stmt) (j : Nat) : Stmt := match st with
  | .ClassDef _ _ _ b .. => b.getD j (.Pass ⟨0, 0, 0, 0⟩)
  | _ => .Pass ⟨0, 0, 0, 0⟩
def tabF : CTab := [("HandRow", ["number", "name", "rank"]),
  ("GivenRow", ["number", "name", "rank", "size"]),
  ("OwnRow", ["number", "name", "size"]),
  ("LetRow", ["number", "name", "rank"]),
  ("Program", ["heads", "deeds", "main"])]
def tabI : List (String × String × Bool) := [("NoneType", "GivenRow", false), ("NoneType", "bool", false), ("NoneType", "dict", false), ("NoneType", "int", false), ("NoneType", "list", false), ("NoneType", "tuple", false), ("bool", "GivenRow", false), ("bool", "bool", true), ("bool", "dict", false), ("bool", "int", true), ("bool", "list", false), ("bool", "tuple", false), ("int", "GivenRow", false), ("int", "bool", false), ("int", "dict", false), ("int", "int", true), ("int", "list", false), ("int", "tuple", false), ("str", "GivenRow", false), ("str", "bool", false), ("str", "dict", false), ("str", "int", false), ("str", "list", false), ("str", "tuple", false), ("list", "GivenRow", false), ("list", "bool", false), ("list", "dict", false), ("list", "int", false), ("list", "list", true), ("list", "tuple", false), ("tuple", "GivenRow", false), ("tuple", "bool", false), ("tuple", "dict", false), ("tuple", "int", false), ("tuple", "list", false), ("tuple", "tuple", true), ("dict", "GivenRow", false), ("dict", "bool", false), ("dict", "dict", true), ("dict", "int", false), ("dict", "list", false), ("dict", "tuple", false), ("HandRow", "GivenRow", false), ("HandRow", "bool", false), ("HandRow", "dict", false), ("HandRow", "int", false), ("HandRow", "list", false), ("HandRow", "tuple", false), ("GivenRow", "GivenRow", true), ("GivenRow", "bool", false), ("GivenRow", "dict", false), ("GivenRow", "int", false), ("GivenRow", "list", false), ("GivenRow", "tuple", false), ("OwnRow", "GivenRow", false), ("OwnRow", "bool", false), ("OwnRow", "dict", false), ("OwnRow", "int", false), ("OwnRow", "list", false), ("OwnRow", "tuple", false), ("LetRow", "GivenRow", false), ("LetRow", "bool", false), ("LetRow", "dict", false), ("LetRow", "int", false), ("LetRow", "list", false), ("LetRow", "tuple", false), ("Program", "GivenRow", false), ("Program", "bool", false), ("Program", "dict", false), ("Program", "int", false), ("Program", "list", false), ("Program", "tuple", false)]
def tabC : List String := ["HandRow", "GivenRow", "OwnRow", "LetRow", "Program"]
@[simp] theorem hf_HandRow_number : hasF tabF "HandRow" "number" = true := by decide +kernel
@[simp] theorem hf_HandRow_name : hasF tabF "HandRow" "name" = true := by decide +kernel
@[simp] theorem hf_HandRow_rank : hasF tabF "HandRow" "rank" = true := by decide +kernel
@[simp] theorem hf_GivenRow_number : hasF tabF "GivenRow" "number" = true := by decide +kernel
@[simp] theorem hf_GivenRow_name : hasF tabF "GivenRow" "name" = true := by decide +kernel
@[simp] theorem hf_GivenRow_rank : hasF tabF "GivenRow" "rank" = true := by decide +kernel
@[simp] theorem hf_GivenRow_size : hasF tabF "GivenRow" "size" = true := by decide +kernel
@[simp] theorem hf_OwnRow_number : hasF tabF "OwnRow" "number" = true := by decide +kernel
@[simp] theorem hf_OwnRow_name : hasF tabF "OwnRow" "name" = true := by decide +kernel
@[simp] theorem hf_OwnRow_size : hasF tabF "OwnRow" "size" = true := by decide +kernel
@[simp] theorem hf_LetRow_number : hasF tabF "LetRow" "number" = true := by decide +kernel
@[simp] theorem hf_LetRow_name : hasF tabF "LetRow" "name" = true := by decide +kernel
@[simp] theorem hf_LetRow_rank : hasF tabF "LetRow" "rank" = true := by decide +kernel
@[simp] theorem hf_Program_heads : hasF tabF "Program" "heads" = true := by decide +kernel
@[simp] theorem hf_Program_deeds : hasF tabF "Program" "deeds" = true := by decide +kernel
@[simp] theorem hf_Program_main : hasF tabF "Program" "main" = true := by decide +kernel
def d_Row___init__ (g : Cfg) (c : Nat → Fn) : Ds :=
  xFld tabF (dV 0) "number" (dV 1)
def d_HandRow___init__ (g : Cfg) (c : Nat → Fn) : Ds :=
  xSeq (xExpr (dArg 2 [] (c 0) (aCons (dV 0) (aCons (dV 1) (aNil)))))
      (xSeq (xFld tabF (dV 0) "name" (dV 2))
      (xFld tabF (dV 0) "rank" (dV 3)))
def d_GivenRow___init__ (g : Cfg) (c : Nat → Fn) : Ds :=
  xSeq (xExpr (dArg 2 [] (c 0) (aCons (dV 0) (aCons (dV 1) (aNil)))))
      (xSeq (xFld tabF (dV 0) "name" (dV 2))
      (xSeq (xFld tabF (dV 0) "rank" (dV 3))
      (xFld tabF (dV 0) "size" (dV 4))))
def d_OwnRow___init__ (g : Cfg) (c : Nat → Fn) : Ds :=
  xSeq (xExpr (dArg 2 [] (c 0) (aCons (dV 0) (aCons (dV 1) (aNil)))))
      (xSeq (xFld tabF (dV 0) "name" (dV 2))
      (xFld tabF (dV 0) "size" (dV 3)))
def d_LetRow___init__ (g : Cfg) (c : Nat → Fn) : Ds :=
  xSeq (xExpr (dArg 2 [] (c 0) (aCons (dV 0) (aCons (dV 1) (aNil)))))
      (xSeq (xFld tabF (dV 0) "name" (dV 2))
      (xFld tabF (dV 0) "rank" (dV 3)))
def d_Program___init__ (g : Cfg) (c : Nat → Fn) : Ds :=
  xSeq (xFld tabF (dV 0) "heads" (dV 1))
      (xSeq (xFld tabF (dV 0) "deeds" (dV 2))
      (xFld tabF (dV 0) "main" (dV 3)))
def d_base_gifts (g : Cfg) (c : Nat → Fn) : Ds :=
  xSeq (xSet 2 (dDk))
      (xSeq (xFor g (iSeq g (dFld tabF (dV 0) "heads")) (tNm 3) (xSeq (xIf (dNot (dIsi g tabI tabC (dV 3) "GivenRow")) (xCont) (xSkip))
      (xSeq (xSet 4 (dB oMul (dV 1) (dB oAdd (dF (bLen g) (aCons (dV 2) (aNil))) (dC (.int 1)))))
      (xIf (dB (oEqX g) (dFld tabF (dV 3) "size") (dC (.int 0))) (xSub (dV 2) (dFld tabF (dV 3) "name") (dV 4)) (xSub (dV 2) (dFld tabF (dV 3) "name") (dComp g (iR1 (aCons (dFld tabF (dV 3) "size") (aNil))) (tNm 5) (cYes) (dB oAdd (dV 4) (dV 5)) [5]))))))
      (xRet (dV 2)))
def d_raised (g : Cfg) (c : Nat → Fn) : Ds :=
  xSeq (xIf (dIsi g tabI tabC (dV 0) "list") (xRet (dComp g (iSeq g (dV 0)) (tNm 2) (cYes) (dB oAdd (dV 2) (dV 1)) [2])) (xSkip))
      (xRet (dB oAdd (dV 0) (dV 1)))
def d_tried (g : Cfg) (c : Nat → Fn) : Ds :=
  xSeq (xSet 2 (dLst (aNil)))
      (xSeq (xFor g (iR1 (aCons (dC (.int 4)) (aNil))) (tNm 3) (xFor g (iSeq g (dC (.con 1))) (tNm 4) (xSeq (xSet 5 (dArg 2 [] (c 6) (aCons (dV 0) (aCons (dV 3) (aNil)))))
      (xSeq (xSub (dV 5) (dV 1) (dArg 2 [] (c 7) (aCons (dB (oIx g) (dV 5) (dV 1)) (aCons (dV 4) (aNil)))))
      (xExpr (dM "list" mAppend (dV 2) (aCons (dTup (aCons (dArg 2 [] (c 6) (aCons (dV 0) (aCons (dV 3) (aNil)))) (aCons (dV 5) (aNil)))) (aNil))))))))
      (xRet (dV 2)))
def d__law_cell_at (g : Cfg) (c : Nat → Fn) : Ds :=
  xSeq (xIf (dB cLt (dV 1) (dF (bLen g) (aCons (dV 0) (aNil)))) (xRet (dB (oIx g) (dV 0) (dV 1))) (xSkip))
      (xRet (dC (.int 0)))
def d__law_name (g : Cfg) (c : Nat → Fn) : Ds :=
  xSeq (xSet 2 (dC (.str [97, 98, 99, 100, 101, 102, 103, 104, 105, 106, 107, 108, 109, 110, 111, 112, 113, 114, 115, 116, 117, 118, 119, 120, 121, 122])))
      (xSeq (xSet 3 (dB oMod (dV 0) (dC (.int 4))))
      (xSeq (xIf (dB (oEqX g) (dV 3) (dC (.int 0))) (xSeq (xSet 4 (dC (.str [115, 101, 116, 32, 112, 117, 116, 32, 115, 101, 110, 100, 32, 115, 97, 121, 32, 98, 121, 32, 105, 102, 32, 101, 108, 115, 101, 32, 101, 110, 100, 32, 108, 111, 111, 112, 32, 109, 111, 115, 116, 32, 105, 100, 108, 101, 32, 108, 97, 115, 116, 32, 99, 97, 108, 108, 32, 100, 101, 101, 100, 32, 109, 97, 105, 110, 32, 97, 116, 32, 111, 118, 101, 114, 32, 114, 101, 115, 116])))
      (xRet (dB (oIx g) (dM "str" mSplit (dB oAdd (dV 4) (dC (.str [32, 104, 97, 110, 100, 32, 103, 105, 118, 101, 110, 32, 111, 119, 110, 32, 108, 101, 116, 32, 111, 112, 101, 110, 32, 104, 111, 117, 115, 101, 32, 99, 108, 111, 115, 101, 100]))) (aCons (dC (.str [32])) (aNil))) (dB oMod (dB oAdd (dB oMod (dB oDiv (dV 0) (dC (.int 4))) (dC (.int 25))) (dV 1)) (dC (.int 25)))))) (xSkip))
      (xSeq (xIf (dB (oEqX g) (dV 3) (dC (.int 1))) (xRet (dB oMul (dB (oIx g) (dV 2) (dB oMod (dB oAdd (dB oMod (dB oDiv (dV 0) (dC (.int 4))) (dC (.int 26))) (dB oDiv (dV 1) (dC (.int 8)))) (dC (.int 26)))) (dB oAdd (dB oMod (dV 1) (dC (.int 8))) (dC (.int 1))))) (xSkip))
      (xSeq (xSet 5 (dB oMod (dB oDiv (dV 0) (dC (.int 4))) (dC (.int 8))))
      (xSeq (xSet 6 (dB oMod (dB oDiv (dV 0) (dC (.int 32))) (dB oAdd (dV 5) (dC (.int 1)))))
      (xSeq (xSet 7 (dB oMul (dB (oIx g) (dV 2) (dB oMod (dB oDiv (dV 0) (dC (.int 288))) (dC (.int 26)))) (dV 5)))
      (xRet (dB oAdd (dB oAdd (dSl g (dV 7) (oNone) (oSome (dV 6))) (dB (oIx g) (dV 2) (dB oMod (dB oAdd (dV 1) (dB oMod (dB oDiv (dV 0) (dC (.int 7488))) (dC (.int 26)))) (dC (.int 26))))) (dSl g (dV 7) (oSome (dV 6)) (oNone))))))))))
def d__law_head (g : Cfg) (c : Nat → Fn) : Ds :=
  xSeq (xSet 3 (dB (oIx g) (dLst (aCons (dC (.int 0)) (aCons (dC (.int 0)) (aCons (dB oAdd (dC (.int 1)) (dB oMod (dB oDiv (dV 0) (dC (.int 24))) (dC (.int 20)))) (aCons (dB oAdd (dC (.int 1)) (dB oMod (dB oDiv (dV 0) (dC (.int 24))) (dC (.int 3)))) (aNil)))))) (dB oMod (dB oDiv (dV 0) (dC (.int 6))) (dC (.int 4)))))
      (xSeq (xIf (dAnd (dB cGt (dV 1) (dC (.int 0))) (dB (oEqX g) (dB oMod (dV 0) (dC (.int 6))) (dC (.int 4)))) (xRet (dNew 4 [] "HandRow" (c 1) (aCons (dB oAdd (dV 1) (dC (.int 1))) (aCons (dV 2) (aCons (dB oMod (dB oDiv (dV 0) (dC (.int 6))) (dC (.int 3))) (aNil)))))) (xSkip))
      (xSeq (xIf (dAnd (dB cGt (dV 1) (dC (.int 0))) (dB (oEqX g) (dB oMod (dV 0) (dC (.int 6))) (dC (.int 5)))) (xRet (dNew 4 [] "LetRow" (c 4) (aCons (dB oAdd (dV 1) (dC (.int 1))) (aCons (dV 2) (aCons (dB oMod (dB oDiv (dV 0) (dC (.int 6))) (dC (.int 3))) (aNil)))))) (xSkip))
      (xSeq (xIf (dAnd (dB cGt (dV 1) (dC (.int 0))) (dB cGt (dB oMod (dV 0) (dC (.int 6))) (dC (.int 2)))) (xRet (dNew 4 [] "OwnRow" (c 3) (aCons (dB oAdd (dV 1) (dC (.int 1))) (aCons (dV 2) (aCons (dV 3) (aNil)))))) (xSkip))
      (xRet (dNew 5 [] "GivenRow" (c 2) (aCons (dB oAdd (dV 1) (dC (.int 1))) (aCons (dV 2) (aCons (dB oMod (dB oDiv (dV 0) (dC (.int 480))) (dC (.int 3))) (aCons (dV 3) (aNil))))))))))
def d__law_due (g : Cfg) (c : Nat → Fn) : Ds :=
  xSeq (xSet 4 (dDk))
      (xSeq (xFor g (iR1 (aCons (dF (bLen g) (aCons (dV 0) (aNil))) (aNil))) (tNm 5) (xSeq (xSet 6 (dB oMul (dV 1) (dB oAdd (dV 5) (dC (.int 1)))))
      (xSeq (xIf (dB (oEqX g) (dFld tabF (dB (oIx g) (dV 0) (dV 5)) "name") (dV 2)) (xSet 6 (dB oAdd (dV 6) (dV 3))) (xSkip))
      (xSeq (xSub (dV 4) (dFld tabF (dB (oIx g) (dV 0) (dV 5)) "name") (dV 6))
      (xIf (dB cGt (dFld tabF (dB (oIx g) (dV 0) (dV 5)) "size") (dC (.int 0))) (xSub (dV 4) (dFld tabF (dB (oIx g) (dV 0) (dV 5)) "name") (dComp g (iR1 (aCons (dFld tabF (dB (oIx g) (dV 0) (dV 5)) "size") (aNil))) (tNm 7) (cYes) (dB oAdd (dV 6) (dV 7)) [7])) (xSkip))))))
      (xRet (dV 4)))
def d__law_same (g : Cfg) (c : Nat → Fn) : Ds :=
  xSeq (xIf (dOr (dNot (dIsi g tabI tabC (dV 0) "dict")) (dB (oNe g) (dF (bLen g) (aCons (dV 0) (aNil))) (dF (bLen g) (aCons (dV 1) (aNil))))) (xRet (dC (.bl false))) (xSkip))
      (xSeq (xForD g iKs (dV 1) (tNm 2) (xSeq (xIf (dOr (dB (oIn g true) (dV 2) (dV 0)) (dB (oNe g) (dIsi g tabI tabC (dB (oIx g) (dV 0) (dV 2)) "list") (dIsi g tabI tabC (dB (oIx g) (dV 1) (dV 2)) "list"))) (xRet (dC (.bl false))) (xSkip))
      (xSeq (xSet 3 (dB (oIx g) (dV 0) (dV 2)))
      (xSeq (xIf (dNot (dIsi g tabI tabC (dV 3) "list")) (xSet 3 (dLst (aCons (dV 3) (aNil)))) (xSkip))
      (xIf (dNot (dF (bAll g) (aCons (dComp g (iSeq g (dV 3)) (tNm 4) (cYes) (dAnd (dIsi g tabI tabC (dV 4) "int") (dNot (dIsi g tabI tabC (dV 4) "bool"))) [4]) (aNil)))) (xRet (dC (.bl false))) (xSkip))))))
      (xRet (dB (oEqX g) (dV 0) (dV 1))))
def d__law_right (g : Cfg) (c : Nat → Fn) : Ds :=
  xSeq (xIf (dOr (dNot (dIsi g tabI tabC (dV 0) "list")) (dB (oNe g) (dF (bLen g) (aCons (dV 0) (aNil))) (dC (.int 12)))) (xRet (dC (.bl false))) (xSkip))
      (xSeq (xFor g (iR1 (aCons (dC (.int 12)) (aNil))) (tNm 3) (xSeq (xSet 4 (dB (oIx g) (dV 0) (dV 3)))
      (xSeq (xIf (dOr (dNot (dIsi g tabI tabC (dV 4) "tuple")) (dB (oNe g) (dF (bLen g) (aCons (dV 4) (aNil))) (dC (.int 2)))) (xRet (dC (.bl false))) (xSkip))
      (xFor g (iSeq g (dB (oIx g) (dLst (aCons (dTup (aCons (dC (.int 0)) (aCons (dC (.int 1)) (aNil)))) (aCons (dTup (aCons (dC (.int 1)) (aCons (dC (.int 0)) (aNil)))) (aNil)))) (dB oMod (dV 3) (dC (.int 2))))) (tNm 5) (xSeq (xIf (dNot (dTru (dArg 2 [] (c 13) (aCons (dB (oIx g) (dV 4) (dV 5)) (aCons (dArg 4 [] (c 12) (aCons (dV 1) (aCons (dB oDiv (dV 3) (dC (.int 3))) (aCons (dV 2) (aCons (dB oMul (dV 5) (dB (oIx g) (dLst (aCons (dC (.int 1)) (aCons (dC (.int 2)) (aCons (dC (.int 5)) (aNil))))) (dB oMod (dV 3) (dC (.int 3))))) (aNil)))))) (aNil)))))) (xRet (dC (.bl false))) (xSkip))
      (xFor g (iSeq g (dF (bListX g) (aCons (dB (oIx g) (dV 4) (dV 5)) (aNil)))) (tNm 6) (xSeq (xIf (dIsi g tabI tabC (dB (oIx g) (dB (oIx g) (dV 4) (dV 5)) (dV 6)) "list") (xSub (dB (oIx g) (dB (oIx g) (dV 4) (dV 5)) (dV 6)) (dC (.int 0)) (dC (.int 99))) (xSkip))
      (xSub (dB (oIx g) (dV 4) (dV 5)) (dV 6) (dC (.int 99))))))))))
      (xRet (dC (.bl true))))
def d_law (g : Cfg) (c : Nat → Fn) : Ds :=
  xSeq (xSet 1 (dLst (aNil)))
      (xSeq (xSet 2 (dB oAdd (dLst (aCons (dArg 2 [] (c 9) (aCons (dV 0) (aCons (dC (.int 2)) (aNil)))) (aNil))) (dSl g (dV 0) (oSome (dC (.int 3))) (oSome (dC (.int 26))))))
      (xSeq (xFor g (iR1 (aCons (dF (bLen g) (aCons (dV 2) (aNil))) (aNil))) (tNm 3) (xExpr (dM "list" mAppend (dV 1) (aCons (dArg 3 [] (c 11) (aCons (dB (oIx g) (dV 2) (dV 3)) (aCons (dV 3) (aCons (dArg 2 [] (c 10) (aCons (dArg 2 [] (c 9) (aCons (dV 0) (aCons (dC (.int 1)) (aNil)))) (aCons (dV 3) (aNil)))) (aNil))))) (aNil)))))
      (xSeq (xSet 4 (dComp g (iSeq g (dV 1)) (tNm 8) (dIsi g tabI tabC (dV 8) "GivenRow") (dV 8) [8]))
      (xSeq (xSet 5 (dFld tabF (dB (oIx g) (dV 4) (dB oMod (dArg 2 [] (c 9) (aCons (dV 0) (aCons (dC (.int 0)) (aNil)))) (dF (bLen g) (aCons (dV 4) (aNil))))) "name"))
      (xSeq (xSet 6 (dNew 4 [] "Program" (c 5) (aCons (dV 1) (aCons (dLst (aNil)) (aCons (dLst (aNil)) (aNil))))))
      (xSeq (xIf (dNot (dTru (dArg 3 [] (c 14) (aCons (dArg 2 [] (c 8) (aCons (dV 6) (aCons (dV 5) (aNil)))) (aCons (dV 4) (aCons (dV 5) (aNil))))))) (xRet (dC (.bl false))) (xSkip))
      (xSeq (xSet 7 (dFld tabF (dB (oIx g) (dV 4) (dB oMod (dB oDiv (dArg 2 [] (c 9) (aCons (dV 0) (aCons (dC (.int 0)) (aNil)))) (dC (.int 24))) (dF (bLen g) (aCons (dV 4) (aNil))))) "name"))
      (xRet (dAnd (dArg 3 [] (c 14) (aCons (dArg 2 [] (c 8) (aCons (dV 6) (aCons (dV 7) (aNil)))) (aCons (dV 4) (aCons (dV 7) (aNil))))) (dArg 3 [] (c 14) (aCons (dArg 2 [] (c 8) (aCons (dV 6) (aCons (dV 5) (aNil)))) (aCons (dV 4) (aCons (dV 5) (aNil))))))))))))))
def fd_Row___init__ : FD := ⟨("Row", some "__init__"), "__init__", "Row.__init__", (inClass (top 2) 0), ["self", "number"], ["self", "number"], d_Row___init__, []⟩
def fd_HandRow___init__ : FD := ⟨("HandRow", some "__init__"), "__init__", "HandRow.__init__", (inClass (top 3) 0), ["self", "number", "name", "rank"], ["self", "number", "name", "rank"], d_HandRow___init__, []⟩
def fd_GivenRow___init__ : FD := ⟨("GivenRow", some "__init__"), "__init__", "GivenRow.__init__", (inClass (top 4) 0), ["self", "number", "name", "rank", "size"], ["self", "number", "name", "rank", "size"], d_GivenRow___init__, []⟩
def fd_OwnRow___init__ : FD := ⟨("OwnRow", some "__init__"), "__init__", "OwnRow.__init__", (inClass (top 5) 0), ["self", "number", "name", "size"], ["self", "number", "name", "size"], d_OwnRow___init__, []⟩
def fd_LetRow___init__ : FD := ⟨("LetRow", some "__init__"), "__init__", "LetRow.__init__", (inClass (top 6) 0), ["self", "number", "name", "rank"], ["self", "number", "name", "rank"], d_LetRow___init__, []⟩
def fd_Program___init__ : FD := ⟨("Program", some "__init__"), "__init__", "Program.__init__", (inClass (top 7) 0), ["self", "heads", "deeds", "main"], ["self", "heads", "deeds", "main"], d_Program___init__, []⟩
def fd_base_gifts : FD := ⟨("base_gifts", none), "base_gifts", "base_gifts", (top 10), ["program", "turn"], ["program", "turn", "gifts", "head", "number", "place"], d_base_gifts, []⟩
def fd_raised : FD := ⟨("raised", none), "raised", "raised", (top 11), ["gift", "more"], ["gift", "more", "number"], d_raised, []⟩
def fd_tried : FD := ⟨("tried", none), "tried", "tried", (top 12), ["program", "name"], ["program", "name", "found", "turn", "more", "other"], d_tried, []⟩
def fd__law_cell_at : FD := ⟨("_law_cell_at", none), "_law_cell_at", "_law_cell_at", (top 14), ["_law_script", "_law_k"], ["_law_script", "_law_k"], d__law_cell_at, []⟩
def fd__law_name : FD := ⟨("_law_name", none), "_law_name", "_law_name", (top 15), ["_law_cell", "_law_k"], ["_law_cell", "_law_k", "_law_letters", "_law_way", "_law_words", "_law_size", "_law_at", "_law_stem"], d__law_name, []⟩
def fd__law_head : FD := ⟨("_law_head", none), "_law_head", "_law_head", (top 16), ["_law_cell", "_law_k", "_law_name_here"], ["_law_cell", "_law_k", "_law_name_here", "_law_size"], d__law_head, []⟩
def fd__law_due : FD := ⟨("_law_due", none), "_law_due", "_law_due", (top 17), ["_law_givens", "_law_turn", "_law_name_here", "_law_more"], ["_law_givens", "_law_turn", "_law_name_here", "_law_more", "_law_gifts", "_law_i", "_law_number", "_law_place"], d__law_due, []⟩
def fd__law_same : FD := ⟨("_law_same", none), "_law_same", "_law_same", (top 18), ["_law_found", "_law_due_here"], ["_law_found", "_law_due_here", "_law_name_here", "_law_some", "_law_one"], d__law_same, []⟩
def fd__law_right : FD := ⟨("_law_right", none), "_law_right", "_law_right", (top 19), ["_law_found", "_law_givens", "_law_name_here"], ["_law_found", "_law_givens", "_law_name_here", "_law_k", "_law_pair", "_law_j", "_law_key"], d__law_right, []⟩
def fd_law : FD := ⟨("law", none), "law", "law", (top 20), ["_law_script"], ["_law_script", "_law_heads", "_law_cells", "_law_k", "_law_givens", "_law_name_here", "_law_program", "_law_other", "_law_head_here"], d_law, []⟩
def lw : Lw where
  fds := [fd_Row___init__, fd_HandRow___init__, fd_GivenRow___init__, fd_OwnRow___init__, fd_LetRow___init__, fd_Program___init__, fd_base_gifts, fd_raised, fd_tried, fd__law_cell_at, fd__law_name, fd__law_head, fd__law_due, fd__law_same, fd__law_right, fd_law]
  T := tabF
  I := tabI
  cs := tabC
  frees := ["isinstance", "len", "range", "list", "dict", "int", "bool", "all", "tuple"]
  clss := ["Row", "GivenRow", "HandRow", "LetRow", "OwnRow", "Program"]
  cons := []
  tups := [(1, "MORE", [(.int 1), (.int 2), (.int 5)])]
  makers := [("HandRow", 1), ("LetRow", 4), ("OwnRow", 3), ("GivenRow", 2), ("Program", 5)]
  meths := []
  cfns := [("Row", "__init__", 0)]
theorem ok_Row___init__ : FDok lw fd_Row___init__ := ⟨⟨rfl, rfl, rfl, by decide +kernel, rfl, by decide +kernel, by decide +kernel⟩, fun F => FunD.bindsN F fun _ _ _ _ _ _ us hl => (match us, hl with | [_, _], _ => rfl), fun h => absurd rfl h, fun {g P w K mg base f cdv A outer s H E n} V => by
  show SSs g _ (defBody (inClass (top 2) 0)) (d_Row___init__ g (cal g lw.fds n))
  unfold d_Row___init__
  exact sss_one (ss_fld V.lf.tab (se_v (i := 0)) (se_v (i := 1)))⟩
theorem ok_HandRow___init__ : FDok lw fd_HandRow___init__ := ⟨⟨rfl, rfl, rfl, by decide +kernel, rfl, by decide +kernel, by decide +kernel⟩, fun F => FunD.bindsN F fun _ _ _ _ _ _ us hl => (match us, hl with | [_, _, _, _], _ => rfl), fun h => absurd rfl h, fun {g P w K mg base f cdv A outer s H E n} V => by
  show SSs g _ (defBody (inClass (top 3) 0)) (d_HandRow___init__ g (cal g lw.fds n))
  unfold d_HandRow___init__
  exact sss_cons (ss_expr (se_cfn (V.callee (i := 0) (d := fd_Row___init__) rfl) V.r0 (V.cls 0) (V.cfn 0) (sa_cons (se_v (i := 0)) (sa_cons (se_v (i := 1)) (sa_nil)))))
      (sss_cons (ss_fld V.lf.tab (se_v (i := 0)) (se_v (i := 2)))
      (sss_one (ss_fld V.lf.tab (se_v (i := 0)) (se_v (i := 3)))))⟩
theorem ok_GivenRow___init__ : FDok lw fd_GivenRow___init__ := ⟨⟨rfl, rfl, rfl, by decide +kernel, rfl, by decide +kernel, by decide +kernel⟩, fun F => FunD.bindsN F fun _ _ _ _ _ _ us hl => (match us, hl with | [_, _, _, _, _], _ => rfl), fun h => absurd rfl h, fun {g P w K mg base f cdv A outer s H E n} V => by
  show SSs g _ (defBody (inClass (top 4) 0)) (d_GivenRow___init__ g (cal g lw.fds n))
  unfold d_GivenRow___init__
  exact sss_cons (ss_expr (se_cfn (V.callee (i := 0) (d := fd_Row___init__) rfl) V.r0 (V.cls 0) (V.cfn 0) (sa_cons (se_v (i := 0)) (sa_cons (se_v (i := 1)) (sa_nil)))))
      (sss_cons (ss_fld V.lf.tab (se_v (i := 0)) (se_v (i := 2)))
      (sss_cons (ss_fld V.lf.tab (se_v (i := 0)) (se_v (i := 3)))
      (sss_one (ss_fld V.lf.tab (se_v (i := 0)) (se_v (i := 4))))))⟩
theorem ok_OwnRow___init__ : FDok lw fd_OwnRow___init__ := ⟨⟨rfl, rfl, rfl, by decide +kernel, rfl, by decide +kernel, by decide +kernel⟩, fun F => FunD.bindsN F fun _ _ _ _ _ _ us hl => (match us, hl with | [_, _, _, _], _ => rfl), fun h => absurd rfl h, fun {g P w K mg base f cdv A outer s H E n} V => by
  show SSs g _ (defBody (inClass (top 5) 0)) (d_OwnRow___init__ g (cal g lw.fds n))
  unfold d_OwnRow___init__
  exact sss_cons (ss_expr (se_cfn (V.callee (i := 0) (d := fd_Row___init__) rfl) V.r0 (V.cls 0) (V.cfn 0) (sa_cons (se_v (i := 0)) (sa_cons (se_v (i := 1)) (sa_nil)))))
      (sss_cons (ss_fld V.lf.tab (se_v (i := 0)) (se_v (i := 2)))
      (sss_one (ss_fld V.lf.tab (se_v (i := 0)) (se_v (i := 3)))))⟩
theorem ok_LetRow___init__ : FDok lw fd_LetRow___init__ := ⟨⟨rfl, rfl, rfl, by decide +kernel, rfl, by decide +kernel, by decide +kernel⟩, fun F => FunD.bindsN F fun _ _ _ _ _ _ us hl => (match us, hl with | [_, _, _, _], _ => rfl), fun h => absurd rfl h, fun {g P w K mg base f cdv A outer s H E n} V => by
  show SSs g _ (defBody (inClass (top 6) 0)) (d_LetRow___init__ g (cal g lw.fds n))
  unfold d_LetRow___init__
  exact sss_cons (ss_expr (se_cfn (V.callee (i := 0) (d := fd_Row___init__) rfl) V.r0 (V.cls 0) (V.cfn 0) (sa_cons (se_v (i := 0)) (sa_cons (se_v (i := 1)) (sa_nil)))))
      (sss_cons (ss_fld V.lf.tab (se_v (i := 0)) (se_v (i := 2)))
      (sss_one (ss_fld V.lf.tab (se_v (i := 0)) (se_v (i := 3)))))⟩
theorem ok_Program___init__ : FDok lw fd_Program___init__ := ⟨⟨rfl, rfl, rfl, by decide +kernel, rfl, by decide +kernel, by decide +kernel⟩, fun F => FunD.bindsN F fun _ _ _ _ _ _ us hl => (match us, hl with | [_, _, _, _], _ => rfl), fun h => absurd rfl h, fun {g P w K mg base f cdv A outer s H E n} V => by
  show SSs g _ (defBody (inClass (top 7) 0)) (d_Program___init__ g (cal g lw.fds n))
  unfold d_Program___init__
  exact sss_cons (ss_fld V.lf.tab (se_v (i := 0)) (se_v (i := 1)))
      (sss_cons (ss_fld V.lf.tab (se_v (i := 0)) (se_v (i := 2)))
      (sss_one (ss_fld V.lf.tab (se_v (i := 0)) (se_v (i := 3)))))⟩
theorem ok_base_gifts : FDok lw fd_base_gifts := ⟨⟨rfl, rfl, rfl, by decide +kernel, rfl, by decide +kernel, by decide +kernel⟩, fun F => FunD.bindsN F fun _ _ _ _ _ _ us hl => (match us, hl with | [_, _], _ => rfl), fun h => absurd rfl h, fun {g P w K mg base f cdv A outer s H E n} V => by
  show SSs g _ (defBody (top 10)) (d_base_gifts g (cal g lw.fds n))
  unfold d_base_gifts
  exact sss_cons (ss_set V.G (i := 2) (se_dk))
      (sss_cons (ss_for PassesOwn.never V.G (si_seq V.G (se_fld V.lf.tab (se_v (i := 0)))) (stg_nm V.G (i := 3)) (sss_cons (ss_if (st_not (st_e (se_isi V.G V.lf.isi (V.free 0) (se_v (i := 3)) (sc_cl (V.cls 1))))) (sss_one (ss_cont)) (sss_nil))
      (sss_cons (ss_set V.G (i := 4) (se_mulA (se_v (i := 1)) (se_add (se_len V.G (V.free 1) (sa_cons (se_v (i := 2)) (sa_nil))) (se_int))))
      (sss_one (ss_if (st_eqx V.G (se_fld V.lf.tab (se_v (i := 3))) (se_int)) (sss_one (ss_sub V.G (se_v (i := 4)) (se_v (i := 2)) (se_fld V.lf.tab (se_v (i := 3))))) (sss_one (ss_sub V.G (se_comp (own := [("place", 5)]) (gt := gName 5) (t := tNm 5) (di := iR1 (aCons (dFld tabF (dV 3) "size") (aNil))) (tt := cYes) (te := dB oAdd (dV 4) (dV 5)) V.G ⟨si_r1 (V.free 2) (sa_cons (se_fld V.lf.tab (se_v (i := 3))) (sa_nil)), by first | rfl | decide +kernel, fun _ _ _ _ _ => pg_name V.G.blk.nd rfl (by first | exact Or.inl rfl | exact Or.inr rfl) (by first | exact Or.inl rfl | exact Or.inr rfl), fun _ _ _ _ _ => pts_no, fun _ _ _ _ _ => se_add (se_v (i := 4)) (se_v (i := 5)), tNm_ok, own_nm, wipe2_1⟩) (se_v (i := 2)) (se_fld V.lf.tab (se_v (i := 3))))))))))
      (sss_one (ss_ret (se_v (i := 2)))))⟩
theorem ok_raised : FDok lw fd_raised := ⟨⟨rfl, rfl, rfl, by decide +kernel, rfl, by decide +kernel, by decide +kernel⟩, fun F => FunD.bindsN F fun _ _ _ _ _ _ us hl => (match us, hl with | [_, _], _ => rfl), fun h => absurd rfl h, fun {g P w K mg base f cdv A outer s H E n} V => by
  show SSs g _ (defBody (top 11)) (d_raised g (cal g lw.fds n))
  unfold d_raised
  exact sss_cons (ss_if (st_e (se_isi V.G V.lf.isi (V.free 0) (se_v (i := 0)) (sc_bt (V.free 3) rfl))) (sss_one (ss_ret (se_comp (own := [("number", 2)]) (gt := gName 2) (t := tNm 2) (di := iSeq g (dV 0)) (tt := cYes) (te := dB oAdd (dV 2) (dV 1)) V.G ⟨si_seq V.G (se_v (i := 0)), by first | rfl | decide +kernel, fun _ _ _ _ _ => pg_name V.G.blk.nd rfl (by first | exact Or.inl rfl | exact Or.inr rfl) (by first | exact Or.inl rfl | exact Or.inr rfl), fun _ _ _ _ _ => pts_no, fun _ _ _ _ _ => se_add (se_v (i := 2)) (se_v (i := 1)), tNm_ok, own_nm, wipe2_1⟩))) (sss_nil))
      (sss_one (ss_ret (se_add (se_v (i := 0)) (se_v (i := 1)))))⟩
theorem ok_tried : FDok lw fd_tried := ⟨⟨rfl, rfl, rfl, by decide +kernel, rfl, by decide +kernel, by decide +kernel⟩, fun F => FunD.bindsN F fun _ _ _ _ _ _ us hl => (match us, hl with | [_, _], _ => rfl), fun h => absurd rfl h, fun {g P w K mg base f cdv A outer s H E n} V => by
  show SSs g _ (defBody (top 12)) (d_tried g (cal g lw.fds n))
  unfold d_tried
  exact sss_cons (ss_set V.G (i := 2) (se_lst (sa_nil)))
      (sss_cons (ss_for PassesOwn.never V.G (si_r1 (V.free 2) (sa_cons (se_int) (sa_nil))) (stg_nm V.G (i := 3)) (sss_one (ss_for PassesOwn.never V.G (si_seq V.G (se_g (V.gt 0))) (stg_nm V.G (i := 4)) (sss_cons (ss_set V.G (i := 5) (se_call (V.callee (i := 6) (d := fd_base_gifts) rfl) V.r0 (V.glo (i := 6) (d := fd_base_gifts) rfl rfl) (sa_cons (se_v (i := 0)) (sa_cons (se_v (i := 3)) (sa_nil)))))
      (sss_cons (ss_sub V.G (se_call (V.callee (i := 7) (d := fd_raised) rfl) V.r0 (V.glo (i := 7) (d := fd_raised) rfl rfl) (sa_cons (se_ix V.G (se_v (i := 5)) (se_v (i := 1))) (sa_cons (se_v (i := 4)) (sa_nil)))) (se_v (i := 5)) (se_v (i := 1)))
      (sss_one (ss_expr (se_append (se_v (i := 2)) (sa_cons (se_tup (sa_cons (se_call (V.callee (i := 6) (d := fd_base_gifts) rfl) V.r0 (V.glo (i := 6) (d := fd_base_gifts) rfl rfl) (sa_cons (se_v (i := 0)) (sa_cons (se_v (i := 3)) (sa_nil)))) (sa_cons (se_v (i := 5)) (sa_nil)))) (sa_nil))))))))))
      (sss_one (ss_ret (se_v (i := 2)))))⟩
theorem ok__law_cell_at : FDok lw fd__law_cell_at := ⟨⟨rfl, rfl, rfl, by decide +kernel, rfl, by decide +kernel, by decide +kernel⟩, fun F => FunD.bindsN F fun _ _ _ _ _ _ us hl => (match us, hl with | [_, _], _ => rfl), fun h => absurd rfl h, fun {g P w K mg base f cdv A outer s H E n} V => by
  show SSs g _ (defBody (top 14)) (d__law_cell_at g (cal g lw.fds n))
  unfold d__law_cell_at
  exact sss_cons (ss_if (st_lt (se_v (i := 1)) (se_len V.G (V.free 1) (sa_cons (se_v (i := 0)) (sa_nil)))) (sss_one (ss_ret (se_ix V.G (se_v (i := 0)) (se_v (i := 1))))) (sss_nil))
      (sss_one (ss_ret (se_int)))⟩
theorem ok__law_name : FDok lw fd__law_name := ⟨⟨rfl, rfl, rfl, by decide +kernel, rfl, by decide +kernel, by decide +kernel⟩, fun F => FunD.bindsN F fun _ _ _ _ _ _ us hl => (match us, hl with | [_, _], _ => rfl), fun h => absurd rfl h, fun {g P w K mg base f cdv A outer s H E n} V => by
  show SSs g _ (defBody (top 15)) (d__law_name g (cal g lw.fds n))
  unfold d__law_name
  exact sss_cons (ss_set V.G (i := 2) (se_str (s := [97, 98, 99, 100, 101, 102, 103, 104, 105, 106, 107, 108, 109, 110, 111, 112, 113, 114, 115, 116, 117, 118, 119, 120, 121, 122]) (by rfl)))
      (sss_cons (ss_set V.G (i := 3) (se_mod (se_v (i := 0)) (se_int)))
      (sss_cons (ss_if (st_eqx V.G (se_v (i := 3)) (se_int)) (sss_cons (ss_set V.G (i := 4) (se_str (s := [115, 101, 116, 32, 112, 117, 116, 32, 115, 101, 110, 100, 32, 115, 97, 121, 32, 98, 121, 32, 105, 102, 32, 101, 108, 115, 101, 32, 101, 110, 100, 32, 108, 111, 111, 112, 32, 109, 111, 115, 116, 32, 105, 100, 108, 101, 32, 108, 97, 115, 116, 32, 99, 97, 108, 108, 32, 100, 101, 101, 100, 32, 109, 97, 105, 110, 32, 97, 116, 32, 111, 118, 101, 114, 32, 114, 101, 115, 116]) (by rfl)))
      (sss_one (ss_ret (se_ix V.G (se_split (se_add (se_v (i := 4)) (se_str (s := [32, 104, 97, 110, 100, 32, 103, 105, 118, 101, 110, 32, 111, 119, 110, 32, 108, 101, 116, 32, 111, 112, 101, 110, 32, 104, 111, 117, 115, 101, 32, 99, 108, 111, 115, 101, 100]) (by rfl))) (sa_cons (se_str (s := [32]) (by rfl)) (sa_nil))) (se_mod (se_add (se_mod (se_div (se_v (i := 0)) (se_int)) (se_int)) (se_v (i := 1))) (se_int)))))) (sss_nil))
      (sss_cons (ss_if (st_eqx V.G (se_v (i := 3)) (se_int)) (sss_one (ss_ret (se_mulA (se_ix V.G (se_v (i := 2)) (se_mod (se_add (se_mod (se_div (se_v (i := 0)) (se_int)) (se_int)) (se_div (se_v (i := 1)) (se_int))) (se_int))) (se_add (se_mod (se_v (i := 1)) (se_int)) (se_int))))) (sss_nil))
      (sss_cons (ss_set V.G (i := 5) (se_mod (se_div (se_v (i := 0)) (se_int)) (se_int)))
      (sss_cons (ss_set V.G (i := 6) (se_mod (se_div (se_v (i := 0)) (se_int)) (se_add (se_v (i := 5)) (se_int))))
      (sss_cons (ss_set V.G (i := 7) (se_mulA (se_ix V.G (se_v (i := 2)) (se_mod (se_div (se_v (i := 0)) (se_int)) (se_int))) (se_v (i := 5))))
      (sss_one (ss_ret (se_add (se_add (se_sl V.G (se_v (i := 7)) (so_none) (so_some (se_v (i := 6)))) (se_ix V.G (se_v (i := 2)) (se_mod (se_add (se_v (i := 1)) (se_mod (se_div (se_v (i := 0)) (se_int)) (se_int))) (se_int)))) (se_sl V.G (se_v (i := 7)) (so_some (se_v (i := 6))) (so_none)))))))))))⟩
theorem ok__law_head : FDok lw fd__law_head := ⟨⟨rfl, rfl, rfl, by decide +kernel, rfl, by decide +kernel, by decide +kernel⟩, fun F => FunD.bindsN F fun _ _ _ _ _ _ us hl => (match us, hl with | [_, _, _], _ => rfl), fun h => absurd rfl h, fun {g P w K mg base f cdv A outer s H E n} V => by
  show SSs g _ (defBody (top 16)) (d__law_head g (cal g lw.fds n))
  unfold d__law_head
  exact sss_cons (ss_set V.G (i := 3) (se_ix V.G (se_lst (sa_cons (se_int) (sa_cons (se_int) (sa_cons (se_add (se_int) (se_mod (se_div (se_v (i := 0)) (se_int)) (se_int))) (sa_cons (se_add (se_int) (se_mod (se_div (se_v (i := 0)) (se_int)) (se_int))) (sa_nil)))))) (se_mod (se_div (se_v (i := 0)) (se_int)) (se_int))))
      (sss_cons (ss_if (st_w (sw_and (st_gt (se_v (i := 1)) (se_int)) (sw_and1 (st_eqx V.G (se_mod (se_v (i := 0)) (se_int)) (se_int))))) (sss_one (ss_ret (se_new (V.maker 0 (i := 1) (d := fd_HandRow___init__) rfl rfl) V.room (V.cls 2) (sa_cons (se_add (se_v (i := 1)) (se_int)) (sa_cons (se_v (i := 2)) (sa_cons (se_mod (se_div (se_v (i := 0)) (se_int)) (se_int)) (sa_nil))))))) (sss_nil))
      (sss_cons (ss_if (st_w (sw_and (st_gt (se_v (i := 1)) (se_int)) (sw_and1 (st_eqx V.G (se_mod (se_v (i := 0)) (se_int)) (se_int))))) (sss_one (ss_ret (se_new (V.maker 1 (i := 4) (d := fd_LetRow___init__) rfl rfl) V.room (V.cls 3) (sa_cons (se_add (se_v (i := 1)) (se_int)) (sa_cons (se_v (i := 2)) (sa_cons (se_mod (se_div (se_v (i := 0)) (se_int)) (se_int)) (sa_nil))))))) (sss_nil))
      (sss_cons (ss_if (st_w (sw_and (st_gt (se_v (i := 1)) (se_int)) (sw_and1 (st_gt (se_mod (se_v (i := 0)) (se_int)) (se_int))))) (sss_one (ss_ret (se_new (V.maker 2 (i := 3) (d := fd_OwnRow___init__) rfl rfl) V.room (V.cls 4) (sa_cons (se_add (se_v (i := 1)) (se_int)) (sa_cons (se_v (i := 2)) (sa_cons (se_v (i := 3)) (sa_nil))))))) (sss_nil))
      (sss_one (ss_ret (se_new (V.maker 3 (i := 2) (d := fd_GivenRow___init__) rfl rfl) V.room (V.cls 1) (sa_cons (se_add (se_v (i := 1)) (se_int)) (sa_cons (se_v (i := 2)) (sa_cons (se_mod (se_div (se_v (i := 0)) (se_int)) (se_int)) (sa_cons (se_v (i := 3)) (sa_nil)))))))))))⟩
theorem ok__law_due : FDok lw fd__law_due := ⟨⟨rfl, rfl, rfl, by decide +kernel, rfl, by decide +kernel, by decide +kernel⟩, fun F => FunD.bindsN F fun _ _ _ _ _ _ us hl => (match us, hl with | [_, _, _, _], _ => rfl), fun h => absurd rfl h, fun {g P w K mg base f cdv A outer s H E n} V => by
  show SSs g _ (defBody (top 17)) (d__law_due g (cal g lw.fds n))
  unfold d__law_due
  exact sss_cons (ss_set V.G (i := 4) (se_dk))
      (sss_cons (ss_for PassesOwn.never V.G (si_r1 (V.free 2) (sa_cons (se_len V.G (V.free 1) (sa_cons (se_v (i := 0)) (sa_nil))) (sa_nil))) (stg_nm V.G (i := 5)) (sss_cons (ss_set V.G (i := 6) (se_mulA (se_v (i := 1)) (se_add (se_v (i := 5)) (se_int))))
      (sss_cons (ss_if (st_eqx V.G (se_fld V.lf.tab (se_ix V.G (se_v (i := 0)) (se_v (i := 5)))) (se_v (i := 2))) (sss_one (ss_set V.G (i := 6) (se_add (se_v (i := 6)) (se_v (i := 3))))) (sss_nil))
      (sss_cons (ss_sub V.G (se_v (i := 6)) (se_v (i := 4)) (se_fld V.lf.tab (se_ix V.G (se_v (i := 0)) (se_v (i := 5)))))
      (sss_one (ss_if (st_gt (se_fld V.lf.tab (se_ix V.G (se_v (i := 0)) (se_v (i := 5)))) (se_int)) (sss_one (ss_sub V.G (se_comp (own := [("_law_place", 7)]) (gt := gName 7) (t := tNm 7) (di := iR1 (aCons (dFld tabF (dB (oIx g) (dV 0) (dV 5)) "size") (aNil))) (tt := cYes) (te := dB oAdd (dV 6) (dV 7)) V.G ⟨si_r1 (V.free 2) (sa_cons (se_fld V.lf.tab (se_ix V.G (se_v (i := 0)) (se_v (i := 5)))) (sa_nil)), by first | rfl | decide +kernel, fun _ _ _ _ _ => pg_name V.G.blk.nd rfl (by first | exact Or.inl rfl | exact Or.inr rfl) (by first | exact Or.inl rfl | exact Or.inr rfl), fun _ _ _ _ _ => pts_no, fun _ _ _ _ _ => se_add (se_v (i := 6)) (se_v (i := 7)), tNm_ok, own_nm, wipe2_1⟩) (se_v (i := 4)) (se_fld V.lf.tab (se_ix V.G (se_v (i := 0)) (se_v (i := 5)))))) (sss_nil)))))))
      (sss_one (ss_ret (se_v (i := 4)))))⟩
theorem ok__law_same : FDok lw fd__law_same := ⟨⟨rfl, rfl, rfl, by decide +kernel, rfl, by decide +kernel, by decide +kernel⟩, fun F => FunD.bindsN F fun _ _ _ _ _ _ us hl => (match us, hl with | [_, _], _ => rfl), fun h => absurd rfl h, fun {g P w K mg base f cdv A outer s H E n} V => by
  show SSs g _ (defBody (top 18)) (d__law_same g (cal g lw.fds n))
  unfold d__law_same
  exact sss_cons (ss_if (st_w (sw_or (st_not (st_e (se_isi V.G V.lf.isi (V.free 0) (se_v (i := 0)) (sc_bt (V.free 4) rfl)))) (sw_or1 (st_ne V.G (se_len V.G (V.free 1) (sa_cons (se_v (i := 0)) (sa_nil))) (se_len V.G (V.free 1) (sa_cons (se_v (i := 1)) (sa_nil))))))) (sss_one (ss_ret (se_bl))) (sss_nil))
      (sss_cons (ss_forK PassesOwn.never V.G (se_v (i := 1)) (stg_nm V.G (i := 2)) (sss_cons (ss_if (st_w (sw_or (st_nin V.G (se_v (i := 2)) (se_v (i := 0))) (sw_or1 (st_ne V.G (se_isi V.G V.lf.isi (V.free 0) (se_ix V.G (se_v (i := 0)) (se_v (i := 2))) (sc_bt (V.free 3) rfl)) (se_isi V.G V.lf.isi (V.free 0) (se_ix V.G (se_v (i := 1)) (se_v (i := 2))) (sc_bt (V.free 3) rfl)))))) (sss_one (ss_ret (se_bl))) (sss_nil))
      (sss_cons (ss_set V.G (i := 3) (se_ix V.G (se_v (i := 0)) (se_v (i := 2))))
      (sss_cons (ss_if (st_not (st_e (se_isi V.G V.lf.isi (V.free 0) (se_v (i := 3)) (sc_bt (V.free 3) rfl)))) (sss_one (ss_set V.G (i := 3) (se_lst (sa_cons (se_v (i := 3)) (sa_nil))))) (sss_nil))
      (sss_one (ss_if (st_not (st_e (se_all V.G (V.free 7) (sa_cons (se_comp (own := [("_law_one", 4)]) (gt := gName 4) (t := tNm 4) (di := iSeq g (dV 3)) (tt := cYes) (te := dAnd (dIsi g tabI tabC (dV 4) "int") (dNot (dIsi g tabI tabC (dV 4) "bool"))) V.G ⟨si_seq V.G (se_v (i := 3)), by first | rfl | decide +kernel, fun _ _ _ _ _ => pg_name V.G.blk.nd rfl (by first | exact Or.inl rfl | exact Or.inr rfl) (by first | exact Or.inl rfl | exact Or.inr rfl), fun _ _ _ _ _ => pts_no, fun s H C cl fp => (fun (W : Env _ g (Bk _ _ s H C cl fp) n) => se_and (se_isi W.G W.lf.isi (W.free 0) (se_v (i := 4)) (sc_bt (W.free 5) rfl)) (se_one (se_not (se_isi W.G W.lf.isi (W.free 0) (se_v (i := 4)) (sc_bt (W.free 6) rfl))))) V.blk, tNm_ok, own_nm, wipe2_1⟩) (sa_nil))))) (sss_one (ss_ret (se_bl))) (sss_nil)))))))
      (sss_one (ss_ret (se_eqx V.G (se_v (i := 0)) (se_v (i := 1))))))⟩
theorem ok__law_right : FDok lw fd__law_right := ⟨⟨rfl, rfl, rfl, by decide +kernel, rfl, by decide +kernel, by decide +kernel⟩, fun F => FunD.bindsN F fun _ _ _ _ _ _ us hl => (match us, hl with | [_, _, _], _ => rfl), fun h => absurd rfl h, fun {g P w K mg base f cdv A outer s H E n} V => by
  show SSs g _ (defBody (top 19)) (d__law_right g (cal g lw.fds n))
  unfold d__law_right
  exact sss_cons (ss_if (st_w (sw_or (st_not (st_e (se_isi V.G V.lf.isi (V.free 0) (se_v (i := 0)) (sc_bt (V.free 3) rfl)))) (sw_or1 (st_ne V.G (se_len V.G (V.free 1) (sa_cons (se_v (i := 0)) (sa_nil))) (se_int))))) (sss_one (ss_ret (se_bl))) (sss_nil))
      (sss_cons (ss_for PassesOwn.never V.G (si_r1 (V.free 2) (sa_cons (se_int) (sa_nil))) (stg_nm V.G (i := 3)) (sss_cons (ss_set V.G (i := 4) (se_ix V.G (se_v (i := 0)) (se_v (i := 3))))
      (sss_cons (ss_if (st_w (sw_or (st_not (st_e (se_isi V.G V.lf.isi (V.free 0) (se_v (i := 4)) (sc_bt (V.free 8) rfl)))) (sw_or1 (st_ne V.G (se_len V.G (V.free 1) (sa_cons (se_v (i := 4)) (sa_nil))) (se_int))))) (sss_one (ss_ret (se_bl))) (sss_nil))
      (sss_one (ss_for PassesOwn.never V.G (si_seq V.G (se_ix V.G (se_lst (sa_cons (se_tup (sa_cons (se_int) (sa_cons (se_int) (sa_nil)))) (sa_cons (se_tup (sa_cons (se_int) (sa_cons (se_int) (sa_nil)))) (sa_nil)))) (se_mod (se_v (i := 3)) (se_int)))) (stg_nm V.G (i := 5)) (sss_cons (ss_if (st_not (st_tru (se_call (V.callee (i := 13) (d := fd__law_same) rfl) V.r0 (V.glo (i := 13) (d := fd__law_same) rfl rfl) (sa_cons (se_ix V.G (se_v (i := 4)) (se_v (i := 5))) (sa_cons (se_call (V.callee (i := 12) (d := fd__law_due) rfl) V.r0 (V.glo (i := 12) (d := fd__law_due) rfl rfl) (sa_cons (se_v (i := 1)) (sa_cons (se_div (se_v (i := 3)) (se_int)) (sa_cons (se_v (i := 2)) (sa_cons (se_mulA (se_v (i := 5)) (se_ix V.G (se_lst (sa_cons (se_int) (sa_cons (se_int) (sa_cons (se_int) (sa_nil))))) (se_mod (se_v (i := 3)) (se_int)))) (sa_nil)))))) (sa_nil)))))) (sss_one (ss_ret (se_bl))) (sss_nil))
      (sss_one (ss_for PassesOwn.never V.G (si_seq V.G (se_listX V.G (V.free 3) (sa_cons (se_ix V.G (se_v (i := 4)) (se_v (i := 5))) (sa_nil)))) (stg_nm V.G (i := 6)) (sss_cons (ss_if (st_e (se_isi V.G V.lf.isi (V.free 0) (se_ix V.G (se_ix V.G (se_v (i := 4)) (se_v (i := 5))) (se_v (i := 6))) (sc_bt (V.free 3) rfl))) (sss_one (ss_sub V.G (se_int) (se_ix V.G (se_ix V.G (se_v (i := 4)) (se_v (i := 5))) (se_v (i := 6))) (se_int))) (sss_nil))
      (sss_one (ss_sub V.G (se_int) (se_ix V.G (se_v (i := 4)) (se_v (i := 5))) (se_v (i := 6)))))))))))))
      (sss_one (ss_ret (se_bl))))⟩
theorem ok_law : FDok lw fd_law := ⟨⟨rfl, rfl, rfl, by decide +kernel, rfl, by decide +kernel, by decide +kernel⟩, fun F => FunD.bindsN F fun _ _ _ _ _ _ us hl => (match us, hl with | [_], _ => rfl), fun h => absurd rfl h, fun {g P w K mg base f cdv A outer s H E n} V => by
  show SSs g _ (defBody (top 20)) (d_law g (cal g lw.fds n))
  unfold d_law
  exact sss_cons (ss_set V.G (i := 1) (se_lst (sa_nil)))
      (sss_cons (ss_set V.G (i := 2) (se_add (se_lst (sa_cons (se_call (V.callee (i := 9) (d := fd__law_cell_at) rfl) V.r0 (V.glo (i := 9) (d := fd__law_cell_at) rfl rfl) (sa_cons (se_v (i := 0)) (sa_cons (se_int) (sa_nil)))) (sa_nil))) (se_sl V.G (se_v (i := 0)) (so_some (se_int)) (so_some (se_int)))))
      (sss_cons (ss_for PassesOwn.never V.G (si_r1 (V.free 2) (sa_cons (se_len V.G (V.free 1) (sa_cons (se_v (i := 2)) (sa_nil))) (sa_nil))) (stg_nm V.G (i := 3)) (sss_one (ss_expr (se_append (se_v (i := 1)) (sa_cons (se_call (V.callee (i := 11) (d := fd__law_head) rfl) V.r0 (V.glo (i := 11) (d := fd__law_head) rfl rfl) (sa_cons (se_ix V.G (se_v (i := 2)) (se_v (i := 3))) (sa_cons (se_v (i := 3)) (sa_cons (se_call (V.callee (i := 10) (d := fd__law_name) rfl) V.r0 (V.glo (i := 10) (d := fd__law_name) rfl rfl) (sa_cons (se_call (V.callee (i := 9) (d := fd__law_cell_at) rfl) V.r0 (V.glo (i := 9) (d := fd__law_cell_at) rfl rfl) (sa_cons (se_v (i := 0)) (sa_cons (se_int) (sa_nil)))) (sa_cons (se_v (i := 3)) (sa_nil)))) (sa_nil))))) (sa_nil))))))
      (sss_cons (ss_setLc (i := 4) (own := [("_law_head_here", 8)]) (gt := gName 8) (t := tNm 8) (di := iSeq g (dV 1)) (tt := dIsi g tabI tabC (dV 8) "GivenRow") (te := dV 8) V.G ⟨si_seq V.G (se_v (i := 1)), by first | rfl | decide +kernel, fun _ _ _ _ _ => pg_name V.G.blk.nd rfl (by first | exact Or.inl rfl | exact Or.inr rfl) (by first | exact Or.inl rfl | exact Or.inr rfl), fun s H C cl fp => (fun (W : Env _ g (Bk _ _ s H C cl fp) n) => pts_one (st_e (se_isi W.G W.lf.isi (W.free 0) (se_v (i := 8)) (sc_cl (W.cls 1))))) V.blk, fun _ _ _ _ _ => se_v (i := 8), tNm_ok, own_nm, wipe2_1⟩)
      (sss_cons (ss_set V.G (i := 5) (se_fld V.lf.tab (se_ix V.G (se_v (i := 4)) (se_mod (se_call (V.callee (i := 9) (d := fd__law_cell_at) rfl) V.r0 (V.glo (i := 9) (d := fd__law_cell_at) rfl rfl) (sa_cons (se_v (i := 0)) (sa_cons (se_int) (sa_nil)))) (se_len V.G (V.free 1) (sa_cons (se_v (i := 4)) (sa_nil)))))))
      (sss_cons (ss_set V.G (i := 6) (se_new (V.maker 4 (i := 5) (d := fd_Program___init__) rfl rfl) V.room (V.cls 5) (sa_cons (se_v (i := 1)) (sa_cons (se_lst (sa_nil)) (sa_cons (se_lst (sa_nil)) (sa_nil))))))
      (sss_cons (ss_if (st_not (st_tru (se_call (V.callee (i := 14) (d := fd__law_right) rfl) V.r0 (V.glo (i := 14) (d := fd__law_right) rfl rfl) (sa_cons (se_call (V.callee (i := 8) (d := fd_tried) rfl) V.r0 (V.glo (i := 8) (d := fd_tried) rfl rfl) (sa_cons (se_v (i := 6)) (sa_cons (se_v (i := 5)) (sa_nil)))) (sa_cons (se_v (i := 4)) (sa_cons (se_v (i := 5)) (sa_nil))))))) (sss_one (ss_ret (se_bl))) (sss_nil))
      (sss_cons (ss_set V.G (i := 7) (se_fld V.lf.tab (se_ix V.G (se_v (i := 4)) (se_mod (se_div (se_call (V.callee (i := 9) (d := fd__law_cell_at) rfl) V.r0 (V.glo (i := 9) (d := fd__law_cell_at) rfl rfl) (sa_cons (se_v (i := 0)) (sa_cons (se_int) (sa_nil)))) (se_int)) (se_len V.G (V.free 1) (sa_cons (se_v (i := 4)) (sa_nil)))))))
      (sss_one (ss_ret (se_and (se_call (V.callee (i := 14) (d := fd__law_right) rfl) V.r0 (V.glo (i := 14) (d := fd__law_right) rfl rfl) (sa_cons (se_call (V.callee (i := 8) (d := fd_tried) rfl) V.r0 (V.glo (i := 8) (d := fd_tried) rfl rfl) (sa_cons (se_v (i := 6)) (sa_cons (se_v (i := 7)) (sa_nil)))) (sa_cons (se_v (i := 4)) (sa_cons (se_v (i := 7)) (sa_nil))))) (se_one (se_call (V.callee (i := 14) (d := fd__law_right) rfl) V.r0 (V.glo (i := 14) (d := fd__law_right) rfl rfl) (sa_cons (se_call (V.callee (i := 8) (d := fd_tried) rfl) V.r0 (V.glo (i := 8) (d := fd_tried) rfl rfl) (sa_cons (se_v (i := 6)) (sa_cons (se_v (i := 5)) (sa_nil)))) (sa_cons (se_v (i := 4)) (sa_cons (se_v (i := 5)) (sa_nil))))))))))))))))⟩
theorem c_Row___init__ (g : Cfg) (n : Nat) : cal g lw.fds (n + 1) 0 = runD 2 (d_Row___init__ g (cal g lw.fds n)) := rfl
theorem c_HandRow___init__ (g : Cfg) (n : Nat) : cal g lw.fds (n + 1) 1 = runD 4 (d_HandRow___init__ g (cal g lw.fds n)) := rfl
theorem c_GivenRow___init__ (g : Cfg) (n : Nat) : cal g lw.fds (n + 1) 2 = runD 5 (d_GivenRow___init__ g (cal g lw.fds n)) := rfl
theorem c_OwnRow___init__ (g : Cfg) (n : Nat) : cal g lw.fds (n + 1) 3 = runD 4 (d_OwnRow___init__ g (cal g lw.fds n)) := rfl
theorem c_LetRow___init__ (g : Cfg) (n : Nat) : cal g lw.fds (n + 1) 4 = runD 4 (d_LetRow___init__ g (cal g lw.fds n)) := rfl
theorem c_Program___init__ (g : Cfg) (n : Nat) : cal g lw.fds (n + 1) 5 = runD 4 (d_Program___init__ g (cal g lw.fds n)) := rfl
theorem c_base_gifts (g : Cfg) (n : Nat) : cal g lw.fds (n + 1) 6 = runD 6 (d_base_gifts g (cal g lw.fds n)) := rfl
theorem c_raised (g : Cfg) (n : Nat) : cal g lw.fds (n + 1) 7 = runD 3 (d_raised g (cal g lw.fds n)) := rfl
theorem c_tried (g : Cfg) (n : Nat) : cal g lw.fds (n + 1) 8 = runD 6 (d_tried g (cal g lw.fds n)) := rfl
theorem c__law_cell_at (g : Cfg) (n : Nat) : cal g lw.fds (n + 1) 9 = runD 2 (d__law_cell_at g (cal g lw.fds n)) := rfl
theorem c__law_name (g : Cfg) (n : Nat) : cal g lw.fds (n + 1) 10 = runD 8 (d__law_name g (cal g lw.fds n)) := rfl
theorem c__law_head (g : Cfg) (n : Nat) : cal g lw.fds (n + 1) 11 = runD 4 (d__law_head g (cal g lw.fds n)) := rfl
theorem c__law_due (g : Cfg) (n : Nat) : cal g lw.fds (n + 1) 12 = runD 8 (d__law_due g (cal g lw.fds n)) := rfl
theorem c__law_same (g : Cfg) (n : Nat) : cal g lw.fds (n + 1) 13 = runD 5 (d__law_same g (cal g lw.fds n)) := rfl
theorem c__law_right (g : Cfg) (n : Nat) : cal g lw.fds (n + 1) 14 = runD 7 (d__law_right g (cal g lw.fds n)) := rfl
theorem c_law (g : Cfg) (n : Nat) : cal g lw.fds (n + 1) 15 = runD 9 (d_law g (cal g lw.fds n)) := rfl
@[simp] theorem q_int_GivenRow (g : Cfg) (z : Int) (Q : Val → Mem → Prop) (M : Mem) : PIsi g tabI tabC "GivenRow" Q (.int z) M = Q (.bl false) M := w_Isi rfl rfl Q
@[simp] theorem q_int_bool (g : Cfg) (z : Int) (Q : Val → Mem → Prop) (M : Mem) : PIsi g tabI tabC "bool" Q (.int z) M = Q (.bl false) M := w_Isi rfl rfl Q
@[simp] theorem q_int_dict (g : Cfg) (z : Int) (Q : Val → Mem → Prop) (M : Mem) : PIsi g tabI tabC "dict" Q (.int z) M = Q (.bl false) M := w_Isi rfl rfl Q
@[simp] theorem q_int_int (g : Cfg) (z : Int) (Q : Val → Mem → Prop) (M : Mem) : PIsi g tabI tabC "int" Q (.int z) M = Q (.bl true) M := w_Isi rfl rfl Q
@[simp] theorem q_int_list (g : Cfg) (z : Int) (Q : Val → Mem → Prop) (M : Mem) : PIsi g tabI tabC "list" Q (.int z) M = Q (.bl false) M := w_Isi rfl rfl Q
@[simp] theorem q_int_tuple (g : Cfg) (z : Int) (Q : Val → Mem → Prop) (M : Mem) : PIsi g tabI tabC "tuple" Q (.int z) M = Q (.bl false) M := w_Isi rfl rfl Q
@[simp] theorem q_bool_GivenRow (g : Cfg) (z : Bool) (Q : Val → Mem → Prop) (M : Mem) : PIsi g tabI tabC "GivenRow" Q (.bl z) M = Q (.bl false) M := w_Isi rfl rfl Q
@[simp] theorem q_bool_bool (g : Cfg) (z : Bool) (Q : Val → Mem → Prop) (M : Mem) : PIsi g tabI tabC "bool" Q (.bl z) M = Q (.bl true) M := w_Isi rfl rfl Q
@[simp] theorem q_bool_dict (g : Cfg) (z : Bool) (Q : Val → Mem → Prop) (M : Mem) : PIsi g tabI tabC "dict" Q (.bl z) M = Q (.bl false) M := w_Isi rfl rfl Q
@[simp] theorem q_bool_int (g : Cfg) (z : Bool) (Q : Val → Mem → Prop) (M : Mem) : PIsi g tabI tabC "int" Q (.bl z) M = Q (.bl true) M := w_Isi rfl rfl Q
@[simp] theorem q_bool_list (g : Cfg) (z : Bool) (Q : Val → Mem → Prop) (M : Mem) : PIsi g tabI tabC "list" Q (.bl z) M = Q (.bl false) M := w_Isi rfl rfl Q
@[simp] theorem q_bool_tuple (g : Cfg) (z : Bool) (Q : Val → Mem → Prop) (M : Mem) : PIsi g tabI tabC "tuple" Q (.bl z) M = Q (.bl false) M := w_Isi rfl rfl Q
@[simp] theorem q_str_GivenRow (g : Cfg) (z : List Nat) (Q : Val → Mem → Prop) (M : Mem) : PIsi g tabI tabC "GivenRow" Q (.str z) M = Q (.bl false) M := w_Isi rfl rfl Q
@[simp] theorem q_str_bool (g : Cfg) (z : List Nat) (Q : Val → Mem → Prop) (M : Mem) : PIsi g tabI tabC "bool" Q (.str z) M = Q (.bl false) M := w_Isi rfl rfl Q
@[simp] theorem q_str_dict (g : Cfg) (z : List Nat) (Q : Val → Mem → Prop) (M : Mem) : PIsi g tabI tabC "dict" Q (.str z) M = Q (.bl false) M := w_Isi rfl rfl Q
@[simp] theorem q_str_int (g : Cfg) (z : List Nat) (Q : Val → Mem → Prop) (M : Mem) : PIsi g tabI tabC "int" Q (.str z) M = Q (.bl false) M := w_Isi rfl rfl Q
@[simp] theorem q_str_list (g : Cfg) (z : List Nat) (Q : Val → Mem → Prop) (M : Mem) : PIsi g tabI tabC "list" Q (.str z) M = Q (.bl false) M := w_Isi rfl rfl Q
@[simp] theorem q_str_tuple (g : Cfg) (z : List Nat) (Q : Val → Mem → Prop) (M : Mem) : PIsi g tabI tabC "tuple" Q (.str z) M = Q (.bl false) M := w_Isi rfl rfl Q
@[simp] theorem q_NoneType_GivenRow (g : Cfg) (Q : Val → Mem → Prop) (M : Mem) : PIsi g tabI tabC "GivenRow" Q .non M = Q (.bl false) M := w_Isi rfl rfl Q
@[simp] theorem q_NoneType_bool (g : Cfg) (Q : Val → Mem → Prop) (M : Mem) : PIsi g tabI tabC "bool" Q .non M = Q (.bl false) M := w_Isi rfl rfl Q
@[simp] theorem q_NoneType_dict (g : Cfg) (Q : Val → Mem → Prop) (M : Mem) : PIsi g tabI tabC "dict" Q .non M = Q (.bl false) M := w_Isi rfl rfl Q
@[simp] theorem q_NoneType_int (g : Cfg) (Q : Val → Mem → Prop) (M : Mem) : PIsi g tabI tabC "int" Q .non M = Q (.bl false) M := w_Isi rfl rfl Q
@[simp] theorem q_NoneType_list (g : Cfg) (Q : Val → Mem → Prop) (M : Mem) : PIsi g tabI tabC "list" Q .non M = Q (.bl false) M := w_Isi rfl rfl Q
@[simp] theorem q_NoneType_tuple (g : Cfg) (Q : Val → Mem → Prop) (M : Mem) : PIsi g tabI tabC "tuple" Q .non M = Q (.bl false) M := w_Isi rfl rfl Q
theorem q_list_GivenRow {g : Cfg} {v : Val} {M : Mem} (h : tyOf g tabC M v = some "list") (Q : Val → Mem → Prop) : PIsi g tabI tabC "GivenRow" Q v M = Q (.bl false) M := w_Isi h rfl Q
theorem q_list_bool {g : Cfg} {v : Val} {M : Mem} (h : tyOf g tabC M v = some "list") (Q : Val → Mem → Prop) : PIsi g tabI tabC "bool" Q v M = Q (.bl false) M := w_Isi h rfl Q
theorem q_list_dict {g : Cfg} {v : Val} {M : Mem} (h : tyOf g tabC M v = some "list") (Q : Val → Mem → Prop) : PIsi g tabI tabC "dict" Q v M = Q (.bl false) M := w_Isi h rfl Q
theorem q_list_int {g : Cfg} {v : Val} {M : Mem} (h : tyOf g tabC M v = some "list") (Q : Val → Mem → Prop) : PIsi g tabI tabC "int" Q v M = Q (.bl false) M := w_Isi h rfl Q
theorem q_list_list {g : Cfg} {v : Val} {M : Mem} (h : tyOf g tabC M v = some "list") (Q : Val → Mem → Prop) : PIsi g tabI tabC "list" Q v M = Q (.bl true) M := w_Isi h rfl Q
theorem q_list_tuple {g : Cfg} {v : Val} {M : Mem} (h : tyOf g tabC M v = some "list") (Q : Val → Mem → Prop) : PIsi g tabI tabC "tuple" Q v M = Q (.bl false) M := w_Isi h rfl Q
theorem q_tuple_GivenRow {g : Cfg} {v : Val} {M : Mem} (h : tyOf g tabC M v = some "tuple") (Q : Val → Mem → Prop) : PIsi g tabI tabC "GivenRow" Q v M = Q (.bl false) M := w_Isi h rfl Q
theorem q_tuple_bool {g : Cfg} {v : Val} {M : Mem} (h : tyOf g tabC M v = some "tuple") (Q : Val → Mem → Prop) : PIsi g tabI tabC "bool" Q v M = Q (.bl false) M := w_Isi h rfl Q
theorem q_tuple_dict {g : Cfg} {v : Val} {M : Mem} (h : tyOf g tabC M v = some "tuple") (Q : Val → Mem → Prop) : PIsi g tabI tabC "dict" Q v M = Q (.bl false) M := w_Isi h rfl Q
theorem q_tuple_int {g : Cfg} {v : Val} {M : Mem} (h : tyOf g tabC M v = some "tuple") (Q : Val → Mem → Prop) : PIsi g tabI tabC "int" Q v M = Q (.bl false) M := w_Isi h rfl Q
theorem q_tuple_list {g : Cfg} {v : Val} {M : Mem} (h : tyOf g tabC M v = some "tuple") (Q : Val → Mem → Prop) : PIsi g tabI tabC "list" Q v M = Q (.bl false) M := w_Isi h rfl Q
theorem q_tuple_tuple {g : Cfg} {v : Val} {M : Mem} (h : tyOf g tabC M v = some "tuple") (Q : Val → Mem → Prop) : PIsi g tabI tabC "tuple" Q v M = Q (.bl true) M := w_Isi h rfl Q
theorem q_dict_GivenRow {g : Cfg} {v : Val} {M : Mem} (h : tyOf g tabC M v = some "dict") (Q : Val → Mem → Prop) : PIsi g tabI tabC "GivenRow" Q v M = Q (.bl false) M := w_Isi h rfl Q
theorem q_dict_bool {g : Cfg} {v : Val} {M : Mem} (h : tyOf g tabC M v = some "dict") (Q : Val → Mem → Prop) : PIsi g tabI tabC "bool" Q v M = Q (.bl false) M := w_Isi h rfl Q
theorem q_dict_dict {g : Cfg} {v : Val} {M : Mem} (h : tyOf g tabC M v = some "dict") (Q : Val → Mem → Prop) : PIsi g tabI tabC "dict" Q v M = Q (.bl true) M := w_Isi h rfl Q
theorem q_dict_int {g : Cfg} {v : Val} {M : Mem} (h : tyOf g tabC M v = some "dict") (Q : Val → Mem → Prop) : PIsi g tabI tabC "int" Q v M = Q (.bl false) M := w_Isi h rfl Q
theorem q_dict_list {g : Cfg} {v : Val} {M : Mem} (h : tyOf g tabC M v = some "dict") (Q : Val → Mem → Prop) : PIsi g tabI tabC "list" Q v M = Q (.bl false) M := w_Isi h rfl Q
theorem q_dict_tuple {g : Cfg} {v : Val} {M : Mem} (h : tyOf g tabC M v = some "dict") (Q : Val → Mem → Prop) : PIsi g tabI tabC "tuple" Q v M = Q (.bl false) M := w_Isi h rfl Q
theorem q_HandRow_GivenRow {g : Cfg} {v : Val} {M : Mem} (h : tyOf g tabC M v = some "HandRow") (Q : Val → Mem → Prop) : PIsi g tabI tabC "GivenRow" Q v M = Q (.bl false) M := w_Isi h rfl Q
theorem q_HandRow_bool {g : Cfg} {v : Val} {M : Mem} (h : tyOf g tabC M v = some "HandRow") (Q : Val → Mem → Prop) : PIsi g tabI tabC "bool" Q v M = Q (.bl false) M := w_Isi h rfl Q
theorem q_HandRow_dict {g : Cfg} {v : Val} {M : Mem} (h : tyOf g tabC M v = some "HandRow") (Q : Val → Mem → Prop) : PIsi g tabI tabC "dict" Q v M = Q (.bl false) M := w_Isi h rfl Q
theorem q_HandRow_int {g : Cfg} {v : Val} {M : Mem} (h : tyOf g tabC M v = some "HandRow") (Q : Val → Mem → Prop) : PIsi g tabI tabC "int" Q v M = Q (.bl false) M := w_Isi h rfl Q
theorem q_HandRow_list {g : Cfg} {v : Val} {M : Mem} (h : tyOf g tabC M v = some "HandRow") (Q : Val → Mem → Prop) : PIsi g tabI tabC "list" Q v M = Q (.bl false) M := w_Isi h rfl Q
theorem q_HandRow_tuple {g : Cfg} {v : Val} {M : Mem} (h : tyOf g tabC M v = some "HandRow") (Q : Val → Mem → Prop) : PIsi g tabI tabC "tuple" Q v M = Q (.bl false) M := w_Isi h rfl Q
theorem q_GivenRow_GivenRow {g : Cfg} {v : Val} {M : Mem} (h : tyOf g tabC M v = some "GivenRow") (Q : Val → Mem → Prop) : PIsi g tabI tabC "GivenRow" Q v M = Q (.bl true) M := w_Isi h rfl Q
theorem q_GivenRow_bool {g : Cfg} {v : Val} {M : Mem} (h : tyOf g tabC M v = some "GivenRow") (Q : Val → Mem → Prop) : PIsi g tabI tabC "bool" Q v M = Q (.bl false) M := w_Isi h rfl Q
theorem q_GivenRow_dict {g : Cfg} {v : Val} {M : Mem} (h : tyOf g tabC M v = some "GivenRow") (Q : Val → Mem → Prop) : PIsi g tabI tabC "dict" Q v M = Q (.bl false) M := w_Isi h rfl Q
theorem q_GivenRow_int {g : Cfg} {v : Val} {M : Mem} (h : tyOf g tabC M v = some "GivenRow") (Q : Val → Mem → Prop) : PIsi g tabI tabC "int" Q v M = Q (.bl false) M := w_Isi h rfl Q
theorem q_GivenRow_list {g : Cfg} {v : Val} {M : Mem} (h : tyOf g tabC M v = some "GivenRow") (Q : Val → Mem → Prop) : PIsi g tabI tabC "list" Q v M = Q (.bl false) M := w_Isi h rfl Q
theorem q_GivenRow_tuple {g : Cfg} {v : Val} {M : Mem} (h : tyOf g tabC M v = some "GivenRow") (Q : Val → Mem → Prop) : PIsi g tabI tabC "tuple" Q v M = Q (.bl false) M := w_Isi h rfl Q
theorem q_OwnRow_GivenRow {g : Cfg} {v : Val} {M : Mem} (h : tyOf g tabC M v = some "OwnRow") (Q : Val → Mem → Prop) : PIsi g tabI tabC "GivenRow" Q v M = Q (.bl false) M := w_Isi h rfl Q
theorem q_OwnRow_bool {g : Cfg} {v : Val} {M : Mem} (h : tyOf g tabC M v = some "OwnRow") (Q : Val → Mem → Prop) : PIsi g tabI tabC "bool" Q v M = Q (.bl false) M := w_Isi h rfl Q
theorem q_OwnRow_dict {g : Cfg} {v : Val} {M : Mem} (h : tyOf g tabC M v = some "OwnRow") (Q : Val → Mem → Prop) : PIsi g tabI tabC "dict" Q v M = Q (.bl false) M := w_Isi h rfl Q
theorem q_OwnRow_int {g : Cfg} {v : Val} {M : Mem} (h : tyOf g tabC M v = some "OwnRow") (Q : Val → Mem → Prop) : PIsi g tabI tabC "int" Q v M = Q (.bl false) M := w_Isi h rfl Q
theorem q_OwnRow_list {g : Cfg} {v : Val} {M : Mem} (h : tyOf g tabC M v = some "OwnRow") (Q : Val → Mem → Prop) : PIsi g tabI tabC "list" Q v M = Q (.bl false) M := w_Isi h rfl Q
theorem q_OwnRow_tuple {g : Cfg} {v : Val} {M : Mem} (h : tyOf g tabC M v = some "OwnRow") (Q : Val → Mem → Prop) : PIsi g tabI tabC "tuple" Q v M = Q (.bl false) M := w_Isi h rfl Q
theorem q_LetRow_GivenRow {g : Cfg} {v : Val} {M : Mem} (h : tyOf g tabC M v = some "LetRow") (Q : Val → Mem → Prop) : PIsi g tabI tabC "GivenRow" Q v M = Q (.bl false) M := w_Isi h rfl Q
theorem q_LetRow_bool {g : Cfg} {v : Val} {M : Mem} (h : tyOf g tabC M v = some "LetRow") (Q : Val → Mem → Prop) : PIsi g tabI tabC "bool" Q v M = Q (.bl false) M := w_Isi h rfl Q
theorem q_LetRow_dict {g : Cfg} {v : Val} {M : Mem} (h : tyOf g tabC M v = some "LetRow") (Q : Val → Mem → Prop) : PIsi g tabI tabC "dict" Q v M = Q (.bl false) M := w_Isi h rfl Q
theorem q_LetRow_int {g : Cfg} {v : Val} {M : Mem} (h : tyOf g tabC M v = some "LetRow") (Q : Val → Mem → Prop) : PIsi g tabI tabC "int" Q v M = Q (.bl false) M := w_Isi h rfl Q
theorem q_LetRow_list {g : Cfg} {v : Val} {M : Mem} (h : tyOf g tabC M v = some "LetRow") (Q : Val → Mem → Prop) : PIsi g tabI tabC "list" Q v M = Q (.bl false) M := w_Isi h rfl Q
theorem q_LetRow_tuple {g : Cfg} {v : Val} {M : Mem} (h : tyOf g tabC M v = some "LetRow") (Q : Val → Mem → Prop) : PIsi g tabI tabC "tuple" Q v M = Q (.bl false) M := w_Isi h rfl Q
theorem q_Program_GivenRow {g : Cfg} {v : Val} {M : Mem} (h : tyOf g tabC M v = some "Program") (Q : Val → Mem → Prop) : PIsi g tabI tabC "GivenRow" Q v M = Q (.bl false) M := w_Isi h rfl Q
theorem q_Program_bool {g : Cfg} {v : Val} {M : Mem} (h : tyOf g tabC M v = some "Program") (Q : Val → Mem → Prop) : PIsi g tabI tabC "bool" Q v M = Q (.bl false) M := w_Isi h rfl Q
theorem q_Program_dict {g : Cfg} {v : Val} {M : Mem} (h : tyOf g tabC M v = some "Program") (Q : Val → Mem → Prop) : PIsi g tabI tabC "dict" Q v M = Q (.bl false) M := w_Isi h rfl Q
theorem q_Program_int {g : Cfg} {v : Val} {M : Mem} (h : tyOf g tabC M v = some "Program") (Q : Val → Mem → Prop) : PIsi g tabI tabC "int" Q v M = Q (.bl false) M := w_Isi h rfl Q
theorem q_Program_list {g : Cfg} {v : Val} {M : Mem} (h : tyOf g tabC M v = some "Program") (Q : Val → Mem → Prop) : PIsi g tabI tabC "list" Q v M = Q (.bl false) M := w_Isi h rfl Q
theorem q_Program_tuple {g : Cfg} {v : Val} {M : Mem} (h : tyOf g tabC M v = some "Program") (Q : Val → Mem → Prop) : PIsi g tabI tabC "tuple" Q v M = Q (.bl false) M := w_Isi h rfl Q
theorem oks : ∀ (i : Nat) (d : FD), lw.fds[i]? = some d → FDok lw d
  | 0, _, h => by cases h; exact ok_Row___init__
  | 1, _, h => by cases h; exact ok_HandRow___init__
  | 2, _, h => by cases h; exact ok_GivenRow___init__
  | 3, _, h => by cases h; exact ok_OwnRow___init__
  | 4, _, h => by cases h; exact ok_LetRow___init__
  | 5, _, h => by cases h; exact ok_Program___init__
  | 6, _, h => by cases h; exact ok_base_gifts
  | 7, _, h => by cases h; exact ok_raised
  | 8, _, h => by cases h; exact ok_tried
  | 9, _, h => by cases h; exact ok__law_cell_at
  | 10, _, h => by cases h; exact ok__law_name
  | 11, _, h => by cases h; exact ok__law_head
  | 12, _, h => by cases h; exact ok__law_due
  | 13, _, h => by cases h; exact ok__law_same
  | 14, _, h => by cases h; exact ok__law_right
  | 15, _, h => by cases h; exact ok_law
  | i + 16, d, h => by cases h
end Q62

namespace Hd62
open PySem PySem.Spec
open PyProof.Rows L2 Pa
open Q62
/-! ### the head -/
abbrev R : PySem.W.OpenRow := PySem.W.OpenLaw.row PySem.Challenge.rw_hushrow_k62_twelve_tries
abbrev hk : PySem.W.Hook := hkS (lw.fds.map FD.D) (lwB lw)
def ob (s : PySem.W.SharedT) : He.AlD × Bool := obS (lw.fds.map FD.D) (lwB lw) (HandSHeadRun.getT s)
theorem ob_eq (s : PySem.W.SharedT) : ob s = hk.obs s.abs := obS_eq (HandSHeadRun.getT_eq s)
open HandSHeadRun
open PySem.W
def qv : Program := PySem.W.view R.prog [20]
def loose : List Str := [(Str.ofString "_wall"), (Str.ofString "Row"), (Str.ofString "HandRow"), (Str.ofString "GivenRow"), (Str.ofString "OwnRow"), (Str.ofString "LetRow"), (Str.ofString "Program"), (Str.ofString "MORE"), (Str.ofString "base_gifts"), (Str.ofString "raised"), (Str.ofString "tried"), (Str.ofString "_law_cell_at"), (Str.ofString "_law_name"), (Str.ofString "_law_head"), (Str.ofString "_law_due"), (Str.ofString "_law_same"), (Str.ofString "_law_right")]
noncomputable def En (w : World) (os : OsState) : Option PySem.W.SharedT := HandSHeadRun.endF (HandSHeadRun.stepQ (HandSHeadRun.denQ HandSHeadRun.tabQ) R.prog w) 40000 R.prog w os
def KS (s : PySem.W.SharedT) : PySem.W.Frag := He.frT (HandSHeadRun.getT s) (asS (HandSHeadRun.getT s))
def eF (K : PySem.W.Frag) : Bool := lw.frees.all (freeB K) && (lw.clss.all (fun c => gloB K (Str.ofString c)) && (lw.fds.all (fun d => match d.at_.2 with | none => gloB K d.at_.1 | some _ => true) && (lw.cons.all (conB K) && lw.tups.all (tupB K))))
def eT (K : PySem.W.Frag) : Bool := lw.T.all (tabB (lw.cfg K 0 none) K)
def eI (K : PySem.W.Frag) : Bool := lw.I.all (isiB (lw.cfg K 0 none) K)
def eO (K : PySem.W.Frag) : Bool := lw.cs.all (ownB (lw.cfg K 0 none) K) && getB K
def eM (K : PySem.W.Frag) : Bool := lw.makers.all (mkB lw (lw.cfg K 0 none) K) && (lw.meths.all (methB lw (lw.cfg K 0 none) K) && lw.cfns.all (cfnB lw (lw.cfg K 0 none) K))
theorem rA (w : World) (os : OsState) : (En w os).map (fun s => (HandSHeadRun.looksF R.prog (boot_heap w.params) s.abs, HandSHeadRun.seenQ qv loose (importedModules R.prog.main.body) (fun s => PySem.W.xlAt qv [] s && PySem.W.recOk R.toRowW.records s) s.abs)) = some (true, PySem.W.openGood qv loose) := by kernel_rfl
theorem rD (w : World) (os : OsState) : (En w os).map (fun s => He.obsD [] (lw.fds.map FD.D) (KS s)) = some (He.valD (lw.fds.map FD.D)) := by kernel_rfl
theorem rF (w : World) (os : OsState) : (En w os).map (fun s => eF (KS s)) = some true := by kernel_rfl
theorem rT (w : World) (os : OsState) : (En w os).map (fun s => eT (KS s)) = some true := by kernel_rfl
theorem rI (w : World) (os : OsState) : (En w os).map (fun s => eI (KS s)) = some true := by kernel_rfl
theorem rO (w : World) (os : OsState) : (En w os).map (fun s => eO (KS s)) = some true := by kernel_rfl
theorem rM (w : World) (os : OsState) : (En w os).map (fun s => eM (KS s)) = some true := by kernel_rfl
theorem run (w : World) : HandSHeadRun.RunEq R (PySem.W.view R.prog [20]) hk ob 40000 [(Str.ofString "_wall"), (Str.ofString "Row"), (Str.ofString "HandRow"), (Str.ofString "GivenRow"), (Str.ofString "OwnRow"), (Str.ofString "LetRow"), (Str.ofString "Program"), (Str.ofString "MORE"), (Str.ofString "base_gifts"), (Str.ofString "raised"), (Str.ofString "tried"), (Str.ofString "_law_cell_at"), (Str.ofString "_law_name"), (Str.ofString "_law_head"), (Str.ofString "_law_due"), (Str.ofString "_law_same"), (Str.ofString "_law_right")] w := by
  intro os
  show (En w os).map (fun s => (HandSHeadRun.looksF R.prog (boot_heap w.params) s.abs, HandSHeadRun.seenQ qv loose (importedModules R.prog.main.body) (fun s => PySem.W.xlAt qv [] s && PySem.W.recOk R.toRowW.records s) s.abs, ob s)) = some (true, PySem.W.openGood qv loose, hk.val w)
  have a := rA w os
  have d := rD w os
  have f := rF w os
  have t := rT w os
  have i := rI w os
  have o := rO w os
  have m := rM w os
  cases hE : En w os with
  | none => rw [hE] at a; cases a
  | some s =>
    rw [hE] at a d f t i o m
    simp only [Option.map_some, Option.some.injEq, Prod.mk.injEq] at a d f t i o m
    refine congrArg some (Prod.ext a.1 (Prod.ext a.2 ?_))
    show (He.obsD [] (lw.fds.map FD.D) (KS s), lwB lw (KS s)) = (He.valD (lw.fds.map FD.D), true)
    rw [d]
    have z : lwB lw (KS s) = true := by
      simp only [eF, eO, eM, Bool.and_eq_true] at f o m
      simp only [lwB, Bool.and_eq_true]
      exact ⟨f.1, f.2.1, f.2.2.1, f.2.2.2.1, f.2.2.2.2, t, i, o.1, o.2, m.1, m.2.1, m.2.2⟩
    rw [z]
end Hd62
/-! Trees and a store above the memory: the relation. -/
namespace Tr
open Pa (Val Ob Mem Cfg DKey Loc)
inductive T where
  | non | bl (b : Bool) | int (i : Int) | str (s : List Nat) | lst (xs : List T) | tup (xs : List T)
  | ins (c : String) (ns : List String) (xs : List T) | dk (ks : List DKey) (xs : List T) | ptr (i : Nat) | scr (ns : List Int)
abbrev Sto := List (Option T)
inductive R (α : Type) where
  | ok (a : α) (σ : Sto)
  | exc (c : String) (fs : List T) (σ : Sto)
  | no
def R.bind {α β : Type} (r : R α) (f : α → Sto → R β) : R β :=
  match r with
  | .ok a σ => f a σ
  | .exc c fs σ => .exc c fs σ
  | .no => .no
theorem R.bind_ok {α β : Type} (a : α) (σ : Sto) (f : α → Sto → R β) : (R.ok a σ).bind f = f a σ := rfl
theorem R.bind_no {α β : Type} (f : α → Sto → R β) : (R.no : R α).bind f = .no := rfl
theorem R.bind_eq {α β : Type} {r : R α} {f : α → Sto → R β} {b : β} {σ' : Sto} (h : r.bind f = .ok b σ') : ∃ a σ, r = .ok a σ ∧ f a σ = .ok b σ' := by
  cases r with
  | ok a σ => exact ⟨a, σ, rfl, h⟩
  | exc c fs σ => cases h
  | no => cases h
def R.of {α : Type} (o : Option α) (σ : Sto) : R α := match o with
  | some a => .ok a σ
  | none => .no
theorem R.of_eq {α : Type} {o : Option α} {σ σ' : Sto} {a : α} (h : R.of o σ = .ok a σ') : o = some a ∧ σ' = σ := by
  cases o with
  | none => cases h
  | some b => cases h; exact ⟨rfl, rfl⟩
def lstP (g : Cfg) (P : Nat → Prop) (M : Mem) (v : Val) (vs : List Val) : Prop :=
  ∃ a, v = .ref a ∧ P a ∧ M[a]? = some (.lst vs)
def scrP (g : Cfg) (P : Nat → Prop) (M : Mem) (v : Val) (ns : List Int) : Prop :=
  (∃ a, v = .ref a ∧ P a ∧ M[a]? = some (.fz (.lst (ns.map .int)))) ∨ ∃ k, v = .con k ∧ g.con k = some (true, ns.map .int)
def tupP (g : Cfg) (P : Nat → Prop) (M : Mem) (v : Val) (vs : List Val) : Prop :=
  (∃ a, v = .ref a ∧ P a ∧ M[a]? = some (.tup vs)) ∨ ∃ k, v = .con k ∧ g.con k = some (false, vs)
section
variable (g : Cfg) (ρ : Nat → Nat) (n : Nat) (P : Nat → Prop) (M : Mem)
mutual
def Rp : T → Val → Prop
  | .non, v => v = .non
  | .bl b, v => v = .bl b
  | .int i, v => v = .int i
  | .str s, v => v = .str s
  | .lst xs, v => ∃ vs, lstP g P M v vs ∧ Rps xs vs
  | .tup xs, v => ∃ vs, tupP g P M v vs ∧ Rps xs vs
  | .ins c ns xs, v => ∃ a vs, v = .ref a ∧ P a ∧ M[a]? = some (.ins c (ns.zip vs)) ∧ ns.length = xs.length ∧ Rps xs vs
  | .dk ks xs, v => ∃ a vs, v = .ref a ∧ P a ∧ Pa.dkOf M a = some (ks.zip vs) ∧ ks.length = xs.length ∧ Rps xs vs
  | .ptr i, v => i < n ∧ v = .ref (ρ i)
  | .scr ns, v => scrP g P M v ns
def Rps : List T → List Val → Prop
  | [], vs => vs = []
  | t :: ts, vs => ∃ w ws, vs = w :: ws ∧ Rp t w ∧ Rps ts ws
end
end
section
variable {g : Cfg} {ρ ρ' : Nat → Nat} {n n' : Nat} {P P' : Nat → Prop} {M M' : Mem}
theorem rp_lst {xs : List T} {v : Val} : Rp g ρ n P M (.lst xs) v = ∃ vs, lstP g P M v vs ∧ Rps g ρ n P M xs vs := by simp only [Rp]
theorem rp_tup {xs : List T} {v : Val} : Rp g ρ n P M (.tup xs) v = ∃ vs, tupP g P M v vs ∧ Rps g ρ n P M xs vs := by simp only [Rp]
theorem rp_ins {c : String} {ns : List String} {xs : List T} {v : Val} : Rp g ρ n P M (.ins c ns xs) v = ∃ a vs, v = .ref a ∧ P a ∧ M[a]? = some (.ins c (ns.zip vs)) ∧ ns.length = xs.length ∧ Rps g ρ n P M xs vs := by simp only [Rp]
theorem rp_dk {ks : List DKey} {xs : List T} {v : Val} : Rp g ρ n P M (.dk ks xs) v = ∃ a vs, v = .ref a ∧ P a ∧ Pa.dkOf M a = some (ks.zip vs) ∧ ks.length = xs.length ∧ Rps g ρ n P M xs vs := by simp only [Rp]
theorem rp_ptr {i : Nat} {v : Val} : Rp g ρ n P M (.ptr i) v = (i < n ∧ v = .ref (ρ i)) := by simp only [Rp]
theorem rp_scr {ns : List Int} {v : Val} : Rp g ρ n P M (.scr ns) v = scrP g P M v ns := by simp only [Rp]
theorem rp_non {v : Val} : Rp g ρ n P M .non v = (v = .non) := by simp only [Rp]
theorem rp_bl {b : Bool} {v : Val} : Rp g ρ n P M (.bl b) v = (v = .bl b) := by simp only [Rp]
theorem rp_int {i : Int} {v : Val} : Rp g ρ n P M (.int i) v = (v = .int i) := by simp only [Rp]
theorem rp_str {s : List Nat} {v : Val} : Rp g ρ n P M (.str s) v = (v = .str s) := by simp only [Rp]
theorem rps_nil {vs : List Val} : Rps g ρ n P M [] vs = (vs = []) := by simp only [Rps]
theorem rps_cons {t : T} {ts : List T} {vs : List Val} : Rps g ρ n P M (t :: ts) vs = ∃ w ws, vs = w :: ws ∧ Rp g ρ n P M t w ∧ Rps g ρ n P M ts ws := by simp only [Rps]
theorem dkOf_dk {M : Mem} {a : Nat} {kvs : List (DKey × Val)} (h : M[a]? = some (.dk kvs)) : Pa.dkOf M a = some kvs := by simp only [Pa.dkOf, h]
theorem dkOf_fz {M : Mem} {a : Nat} {kvs : List (DKey × Val)} (h : M[a]? = some (.fz (.dk kvs))) : Pa.dkOf M a = some kvs := by simp only [Pa.dkOf, h]
theorem dkOf_get {M : Mem} {a : Nat} {kvs : List (DKey × Val)} (h : Pa.dkOf M a = some kvs) : M[a]? = some (.dk kvs) ∨ M[a]? = some (.fz (.dk kvs)) := by
  unfold Pa.dkOf at h
  split at h
  · rename_i e; cases h; exact .inl e
  · rename_i e; cases h; exact .inr e
  · cases h
theorem dkOf_mono {M M' : Mem} {a : Nat} {kvs : List (DKey × Val)} (h : Pa.dkOf M a = some kvs) (k : ∀ o, M[a]? = some o → M'[a]? = some o) : Pa.dkOf M' a = some kvs := by
  rcases dkOf_get h with e | e
  · exact dkOf_dk (k _ e)
  · exact dkOf_fz (k _ e)
theorem lstP.mono (h : ∀ a o, P a → M[a]? = some o → P' a ∧ M'[a]? = some o) {v : Val} {vs : List Val} (r : lstP g P M v vs) : lstP g P' M' v vs := by
  obtain ⟨a, e, p, m⟩ := r
  exact ⟨a, e, h a _ p m⟩
theorem scrP.mono (h : ∀ a o, P a → M[a]? = some o → P' a ∧ M'[a]? = some o) {v : Val} {vs : List Int} (r : scrP g P M v vs) : scrP g P' M' v vs := by
  rcases r with ⟨a, e, p, m⟩ | r
  · exact .inl ⟨a, e, h a _ p m⟩
  · exact .inr r
theorem tupP.mono (h : ∀ a o, P a → M[a]? = some o → P' a ∧ M'[a]? = some o) {v : Val} {vs : List Val} (r : tupP g P M v vs) : tupP g P' M' v vs := by
  rcases r with ⟨a, e, p, m⟩ | r
  · exact .inl ⟨a, e, h a _ p m⟩
  · exact .inr r
mutual
theorem Rp.mono (h : ∀ a o, P a → M[a]? = some o → P' a ∧ M'[a]? = some o) (hn : n ≤ n') (hr : ∀ i, i < n → ρ' i = ρ i) : ∀ (t : T) (v : Val), Rp g ρ n P M t v → Rp g ρ' n' P' M' t v
  | .non, v, r => by rw [rp_non] at r ⊢; exact r
  | .bl b, v, r => by rw [rp_bl] at r ⊢; exact r
  | .int i, v, r => by rw [rp_int] at r ⊢; exact r
  | .str s, v, r => by rw [rp_str] at r ⊢; exact r
  | .lst xs, v, r => by
    rw [rp_lst] at r ⊢
    obtain ⟨vs, a, b⟩ := r
    exact ⟨vs, a.mono h, Rps.mono h hn hr xs vs b⟩
  | .tup xs, v, r => by
    rw [rp_tup] at r ⊢
    obtain ⟨vs, a, b⟩ := r
    exact ⟨vs, a.mono h, Rps.mono h hn hr xs vs b⟩
  | .ins c ns xs, v, r => by
    rw [rp_ins] at r ⊢
    obtain ⟨a, vs, e, p, m, l, b⟩ := r
    exact ⟨a, vs, e, (h a _ p m).1, (h a _ p m).2, l, Rps.mono h hn hr xs vs b⟩
  | .dk ks xs, v, r => by
    rw [rp_dk] at r ⊢
    obtain ⟨a, vs, e, p, m, l, b⟩ := r
    refine ⟨a, vs, e, ?_, dkOf_mono m fun o z => (h a o p z).2, l, Rps.mono h hn hr xs vs b⟩
    rcases dkOf_get m with z | z <;> exact (h a _ p z).1
  | .ptr i, v, r => by
    rw [rp_ptr] at r ⊢
    exact ⟨Nat.lt_of_lt_of_le r.1 hn, by rw [hr i r.1]; exact r.2⟩
  | .scr ns, v, r => by
    rw [rp_scr] at r ⊢
    exact r.mono h
theorem Rps.mono (h : ∀ a o, P a → M[a]? = some o → P' a ∧ M'[a]? = some o) (hn : n ≤ n') (hr : ∀ i, i < n → ρ' i = ρ i) : ∀ (ts : List T) (vs : List Val), Rps g ρ n P M ts vs → Rps g ρ' n' P' M' ts vs
  | [], vs, r => by rw [rps_nil] at r ⊢; exact r
  | t :: ts, vs, r => by
    rw [rps_cons] at r ⊢
    obtain ⟨w, ws, e, a, b⟩ := r
    exact ⟨w, ws, e, Rp.mono h hn hr t w a, Rps.mono h hn hr ts ws b⟩
end
/-- the same but that a dict is frozen or thawed -/
def Sm (o : Ob) (M' : Mem) (b : Nat) : Prop := M'[b]? = some o ∨ ∃ kvs, (o = .dk kvs ∨ o = .fz (.dk kvs)) ∧ Pa.dkOf M' b = some kvs
theorem Sm.of {o : Ob} {M' : Mem} {b : Nat} (h : Sm o M' b) (n : ∀ kvs, o ≠ .dk kvs ∧ o ≠ .fz (.dk kvs)) : M'[b]? = some o := by
  rcases h with h | ⟨kvs, h | h, _⟩
  · exact h
  · exact absurd h (n kvs).1
  · exact absurd h (n kvs).2
mutual
theorem Rp.lk (h : ∀ a o, P a → M[a]? = some o → P' a ∧ Sm o M' a) : ∀ (t : T) (v : Val), Rp g ρ n P M t v → Rp g ρ n P' M' t v
  | .non, v, r => by rw [rp_non] at r ⊢; exact r
  | .bl b, v, r => by rw [rp_bl] at r ⊢; exact r
  | .int i, v, r => by rw [rp_int] at r ⊢; exact r
  | .str s, v, r => by rw [rp_str] at r ⊢; exact r
  | .lst xs, v, r => by
    rw [rp_lst] at r ⊢
    obtain ⟨vs, ⟨a, e, p, m⟩, b⟩ := r
    exact ⟨vs, ⟨a, e, (h a _ p m).1, (h a _ p m).2.of fun _ => ⟨fun z => (nomatch z), fun z => (nomatch z)⟩⟩, Rps.lk h xs vs b⟩
  | .tup xs, v, r => by
    rw [rp_tup] at r ⊢
    obtain ⟨vs, ⟨a, e, p, m⟩ | z, b⟩ := r
    · exact ⟨vs, .inl ⟨a, e, (h a _ p m).1, (h a _ p m).2.of fun _ => ⟨fun z => (nomatch z), fun z => (nomatch z)⟩⟩, Rps.lk h xs vs b⟩
    · exact ⟨vs, .inr z, Rps.lk h xs vs b⟩
  | .ins c ns xs, v, r => by
    rw [rp_ins] at r ⊢
    obtain ⟨a, vs, e, p, m, l, b⟩ := r
    exact ⟨a, vs, e, (h a _ p m).1, (h a _ p m).2.of fun _ => ⟨fun z => (nomatch z), fun z => (nomatch z)⟩, l, Rps.lk h xs vs b⟩
  | .dk ks xs, v, r => by
    rw [rp_dk] at r ⊢
    obtain ⟨a, vs, e, p, m, l, b⟩ := r
    have q : ∀ o, M[a]? = some o → (o = .dk (ks.zip vs) ∨ o = .fz (.dk (ks.zip vs))) → P' a ∧ Pa.dkOf M' a = some (ks.zip vs) := fun o z y => by
      obtain ⟨p1, p2⟩ := h a o p z
      refine ⟨p1, ?_⟩
      rcases p2 with p2 | ⟨kvs, p2, p3⟩
      · rcases y with rfl | rfl
        · exact dkOf_dk p2
        · exact dkOf_fz p2
      · have : kvs = ks.zip vs := by
          rcases y with rfl | rfl <;> rcases p2 with p2 | p2 <;> cases p2 <;> rfl
        rw [← this]; exact p3
    rcases dkOf_get m with z | z
    · exact ⟨a, vs, e, (q _ z (.inl rfl)).1, (q _ z (.inl rfl)).2, l, Rps.lk h xs vs b⟩
    · exact ⟨a, vs, e, (q _ z (.inr rfl)).1, (q _ z (.inr rfl)).2, l, Rps.lk h xs vs b⟩
  | .ptr i, v, r => by
    rw [rp_ptr] at r ⊢
    exact r
  | .scr ns, v, r => by
    rw [rp_scr] at r ⊢
    rcases r with ⟨a, e, p, m⟩ | r
    · exact .inl ⟨a, e, (h a _ p m).1, (h a _ p m).2.of fun _ => ⟨fun z => (nomatch z), fun z => (nomatch z)⟩⟩
    · exact .inr r
theorem Rps.lk (h : ∀ a o, P a → M[a]? = some o → P' a ∧ Sm o M' a) : ∀ (ts : List T) (vs : List Val), Rps g ρ n P M ts vs → Rps g ρ n P' M' ts vs
  | [], vs, r => by rw [rps_nil] at r ⊢; exact r
  | t :: ts, vs, r => by
    rw [rps_cons] at r ⊢
    obtain ⟨w, ws, e, a, b⟩ := r
    exact ⟨w, ws, e, Rp.lk h t w a, Rps.lk h ts ws b⟩
end
theorem Rps.len : ∀ {ts : List T} {vs : List Val}, Rps g ρ n P M ts vs → vs.length = ts.length
  | [], vs, r => by
    rw [rps_nil] at r
    subst r; rfl
  | t :: ts, vs, r => by
    rw [rps_cons] at r
    obtain ⟨w, ws, rfl, _, r⟩ := r
    simp [Rps.len r]
theorem Rps.get : ∀ {ts : List T} {vs : List Val} {i : Nat} {t : T}, Rps g ρ n P M ts vs → ts[i]? = some t → ∃ w, vs[i]? = some w ∧ Rp g ρ n P M t w
  | t :: ts, vs, i, u, r, e => by
    rw [rps_cons] at r
    obtain ⟨w, ws, rfl, a, r⟩ := r
    cases i with
    | zero => simp at e; subst e; exact ⟨w, by simp, a⟩
    | succ i =>
      obtain ⟨w', e', r'⟩ := Rps.get r (by simpa using e)
      exact ⟨w', by simpa using e', r'⟩
theorem Rps.getv {ts : List T} {vs : List Val} {i : Nat} {v : Val} (r : Rps g ρ n P M ts vs) (e : vs[i]? = some v) : ∃ t, ts[i]? = some t ∧ Rp g ρ n P M t v := by
  have hl := (List.getElem?_eq_some_iff.mp e).1
  rw [r.len] at hl
  obtain ⟨w, h1, h2⟩ := r.get (List.getElem?_eq_getElem hl)
  rw [e] at h1
  cases h1
  exact ⟨_, List.getElem?_eq_getElem hl, h2⟩
theorem Rps.nil : Rps g ρ n P M [] [] := by rw [rps_nil]
theorem Rps.cons {t : T} {ts : List T} {v : Val} {vs : List Val} (h : Rp g ρ n P M t v) (r : Rps g ρ n P M ts vs) : Rps g ρ n P M (t :: ts) (v :: vs) := by
  rw [rps_cons]
  exact ⟨v, vs, rfl, h, r⟩
theorem Rps.inv {t : T} {ts : List T} {v : Val} {vs : List Val} (r : Rps g ρ n P M (t :: ts) (v :: vs)) : Rp g ρ n P M t v ∧ Rps g ρ n P M ts vs := by
  rw [rps_cons] at r
  obtain ⟨w, ws, e, a, b⟩ := r
  cases e
  exact ⟨a, b⟩
theorem Rps.app : ∀ {ts ts' : List T} {vs vs' : List Val}, Rps g ρ n P M ts vs → Rps g ρ n P M ts' vs' → Rps g ρ n P M (ts ++ ts') (vs ++ vs')
  | [], ts', vs, vs', r, r' => by
    rw [rps_nil] at r
    subst r; exact r'
  | t :: ts, ts', vs, vs', r, r' => by
    rw [rps_cons] at r
    obtain ⟨w, ws, rfl, a, r⟩ := r
    exact Rps.cons a (Rps.app r r')
theorem Rps.one {t : T} {v : Val} (h : Rp g ρ n P M t v) : Rps g ρ n P M [t] [v] := Rps.cons h Rps.nil
theorem Rps.drop : ∀ {ts : List T} {vs : List Val} (k : Nat), Rps g ρ n P M ts vs → Rps g ρ n P M (ts.drop k) (vs.drop k)
  | ts, vs, 0, r => r
  | [], vs, k + 1, r => by
    rw [rps_nil] at r
    subst r; exact Rps.nil
  | t :: ts, vs, k + 1, r => by
    rw [rps_cons] at r
    obtain ⟨w, ws, rfl, a, r⟩ := r
    exact Rps.drop k r
theorem Rps.take : ∀ {ts : List T} {vs : List Val} (k : Nat), Rps g ρ n P M ts vs → Rps g ρ n P M (ts.take k) (vs.take k)
  | ts, vs, 0, r => by simp only [List.take_zero]; exact Rps.nil
  | [], vs, k + 1, r => by
    rw [rps_nil] at r
    subst r; exact Rps.nil
  | t :: ts, vs, k + 1, r => by
    rw [rps_cons] at r
    obtain ⟨w, ws, rfl, a, r⟩ := r
    exact Rps.cons a (Rps.take k r)
theorem Rps.rev : ∀ {ts : List T} {vs : List Val}, Rps g ρ n P M ts vs → Rps g ρ n P M ts.reverse vs.reverse
  | [], vs, r => by
    rw [rps_nil] at r
    subst r; exact Rps.nil
  | t :: ts, vs, r => by
    rw [rps_cons] at r
    obtain ⟨w, ws, rfl, a, r⟩ := r
    rw [List.reverse_cons, List.reverse_cons]
    exact (Rps.rev r).app (Rps.one a)
theorem Rps.set : ∀ {ts : List T} {vs : List Val} {t : T} {v : Val} (k : Nat), Rps g ρ n P M ts vs → Rp g ρ n P M t v → Rps g ρ n P M (ts.set k t) (vs.set k v)
  | [], vs, t, v, k, r, h => by
    rw [rps_nil] at r
    subst r; exact Rps.nil
  | t' :: ts, vs, t, v, 0, r, h => by
    rw [rps_cons] at r
    obtain ⟨w, ws, rfl, a, r⟩ := r
    exact Rps.cons h r
  | t' :: ts, vs, t, v, k + 1, r, h => by
    rw [rps_cons] at r
    obtain ⟨w, ws, rfl, a, r⟩ := r
    exact Rps.cons a (Rps.set k r h)
end
/-! worlds -/
structure Wd where
  ρ : Nat → Nat
  σ : Sto
  M : Mem
def Wd.Lv (w : Wd) (a : Nat) : Prop := ∃ i t, w.σ[i]? = some (some t) ∧ w.ρ i = a
def Wd.P (w : Wd) (B : Nat → Prop) (a : Nat) : Prop := ¬ w.Lv a ∧ ¬ B a
abbrev RW (g : Cfg) (B : Nat → Prop) (w : Wd) : T → Val → Prop := Rp g w.ρ w.σ.length (w.P B) w.M
abbrev RWs (g : Cfg) (B : Nat → Prop) (w : Wd) : List T → List Val → Prop := Rps g w.ρ w.σ.length (w.P B) w.M
section
variable {g : Cfg} {B : Nat → Prop} {w : Wd}
theorem w_lst {xs : List T} {v : Val} : RW g B w (.lst xs) v = ∃ vs, lstP g (w.P B) w.M v vs ∧ RWs g B w xs vs := rp_lst
theorem w_tup {xs : List T} {v : Val} : RW g B w (.tup xs) v = ∃ vs, tupP g (w.P B) w.M v vs ∧ RWs g B w xs vs := rp_tup
theorem w_ins {c : String} {ns : List String} {xs : List T} {v : Val} : RW g B w (.ins c ns xs) v = ∃ a vs, v = .ref a ∧ w.P B a ∧ w.M[a]? = some (.ins c (ns.zip vs)) ∧ ns.length = xs.length ∧ RWs g B w xs vs := rp_ins
theorem w_dk {ks : List DKey} {xs : List T} {v : Val} : RW g B w (.dk ks xs) v = ∃ a vs, v = .ref a ∧ w.P B a ∧ Pa.dkOf w.M a = some (ks.zip vs) ∧ ks.length = xs.length ∧ RWs g B w xs vs := rp_dk
theorem w_ptr {i : Nat} {v : Val} : RW g B w (.ptr i) v = (i < w.σ.length ∧ v = .ref (w.ρ i)) := rp_ptr
theorem w_scr {ns : List Int} {v : Val} : RW g B w (.scr ns) v = scrP g (w.P B) w.M v ns := rp_scr
theorem w_non {v : Val} : RW g B w .non v = (v = .non) := rp_non
theorem w_bl {b : Bool} {v : Val} : RW g B w (.bl b) v = (v = .bl b) := rp_bl
theorem w_int {i : Int} {v : Val} : RW g B w (.int i) v = (v = .int i) := rp_int
theorem w_str {s : List Nat} {v : Val} : RW g B w (.str s) v = (v = .str s) := rp_str
theorem ws_nil {vs : List Val} : RWs g B w [] vs = (vs = []) := rps_nil
theorem ws_cons {t : T} {ts : List T} {vs : List Val} : RWs g B w (t :: ts) vs = ∃ u us, vs = u :: us ∧ RW g B w t u ∧ RWs g B w ts us := rps_cons
end
/-- an object that may be changed: its top is at a -/
def Top (g : Cfg) (B : Nat → Prop) (w : Wd) (t : T) (a : Nat) : Prop := match t with
  | .lst xs => ∃ vs, w.M[a]? = some (.lst vs) ∧ RWs g B w xs vs
  | .ins c ns xs => ∃ vs, w.M[a]? = some (.ins c (ns.zip vs)) ∧ ns.length = xs.length ∧ RWs g B w xs vs
  | .dk ks xs => ∃ vs, w.M[a]? = some (.dk (ks.zip vs)) ∧ ks.length = xs.length ∧ RWs g B w xs vs
  | _ => False
structure Wf (g : Cfg) (B : Nat → Prop) (w : Wd) : Prop where
  inj : ∀ i j t u, w.σ[i]? = some (some t) → w.σ[j]? = some (some u) → w.ρ i = w.ρ j → i = j
  at_ : ∀ i t, w.σ[i]? = some (some t) → Top g B w t (w.ρ i) ∧ ¬ B (w.ρ i)
  bB : ∀ a, B a → a < w.M.length
/-- what goes on: a is not looked at where Ow a held -/
structure Go (Ow Ow' : Nat → Prop) (w w' : Wd) : Prop where
  sl : w.σ.length ≤ w'.σ.length
  rh : ∀ i, i < w.σ.length → w'.ρ i = w.ρ i
  ml : w.M.length ≤ w'.M.length
  kp : ∀ a o, ¬ w.Lv a → ¬ Ow a → w.M[a]? = some o → ¬ w'.Lv a ∧ ¬ Ow' a ∧ w'.M[a]? = some o
abbrev Nb : Nat → Prop := fun _ => False
abbrev Gx (w w' : Wd) : Prop := Go Nb Nb w w'
section
variable {g : Cfg} {B B' : Nat → Prop} {w w' w1 w2 : Wd} {A C E : Nat → Prop}
theorem Go.refl : Go A A w w := ⟨Nat.le_refl _, fun _ _ => rfl, Nat.le_refl _, fun _ _ h k m => ⟨h, k, m⟩⟩
theorem Go.trans (a : Go A C w w1) (b : Go C E w1 w2) : Go A E w w2 := ⟨Nat.le_trans a.sl b.sl, fun i h => (b.rh i (Nat.lt_of_lt_of_le h a.sl)).trans (a.rh i h), Nat.le_trans a.ml b.ml, fun x o h k m => by
  obtain ⟨h1, h2, h3⟩ := a.kp x o h k m
  exact b.kp x o h1 h2 h3⟩
theorem Go.wk (a : Gx w w1) : Go A A w w1 := ⟨a.sl, a.rh, a.ml, fun x o h k m => by
  obtain ⟨h1, _, h3⟩ := a.kp x o h (fun z => z) m
  exact ⟨h1, k, h3⟩⟩
theorem Rp.goB (a : Gx w w1) {t : T} {v : Val} (h : RW g B w t v) : RW g B w1 t v := Rp.mono (fun x o p m => by
  obtain ⟨h1, _, h3⟩ := a.kp x o p.1 (fun z => z) m
  exact ⟨⟨h1, p.2⟩, h3⟩) a.sl a.rh t v h
theorem Rps.goB (a : Gx w w1) {t : List T} {v : List Val} (h : RWs g B w t v) : RWs g B w1 t v := Rps.mono (fun x o p m => by
  obtain ⟨h1, _, h3⟩ := a.kp x o p.1 (fun z => z) m
  exact ⟨⟨h1, p.2⟩, h3⟩) a.sl a.rh t v h
theorem Rp.goS (a : Go A C w w1) {t : T} {v : Val} (h : RW g (fun x => B x ∨ A x) w t v) : RW g (fun x => B x ∨ C x) w1 t v := Rp.mono (fun x o p m => by
  obtain ⟨h1, h2, h3⟩ := a.kp x o p.1 (fun z => p.2 (.inr z)) m
  exact ⟨⟨h1, fun z => z.elim (fun z => p.2 (.inl z)) h2⟩, h3⟩) a.sl a.rh t v h
theorem Rps.goS (a : Go A C w w1) {t : List T} {v : List Val} (h : RWs g (fun x => B x ∨ A x) w t v) : RWs g (fun x => B x ∨ C x) w1 t v := Rps.mono (fun x o p m => by
  obtain ⟨h1, h2, h3⟩ := a.kp x o p.1 (fun z => p.2 (.inr z)) m
  exact ⟨⟨h1, fun z => z.elim (fun z => p.2 (.inl z)) h2⟩, h3⟩) a.sl a.rh t v h
/-- other bad ones -/
theorem Rp.bad (hb : ∀ a, ¬ B a → a < w.M.length → ¬ B' a) {t : T} {v : Val} (h : RW g B w t v) : RW g B' w t v := Rp.mono (fun x o p m => ⟨⟨p.1, hb x p.2 (List.getElem?_eq_some_iff.mp m).1⟩, m⟩) (Nat.le_refl _) (fun _ _ => rfl) t v h
theorem Rps.bad (hb : ∀ a, ¬ B a → a < w.M.length → ¬ B' a) {t : List T} {v : List Val} (h : RWs g B w t v) : RWs g B' w t v := Rps.mono (fun x o p m => ⟨⟨p.1, hb x p.2 (List.getElem?_eq_some_iff.mp m).1⟩, m⟩) (Nat.le_refl _) (fun _ _ => rfl) t v h
theorem Top.of (f : ∀ ts vs, RWs g B w ts vs → RWs g B' w1 ts vs) {t : T} {a : Nat} (m : ∀ o, w.M[a]? = some o → w1.M[a]? = some o) (h : Top g B w t a) : Top g B' w1 t a := by
  cases t with
  | lst xs => obtain ⟨vs, e, r⟩ := h; exact ⟨vs, m _ e, f _ _ r⟩
  | ins c ns xs => obtain ⟨vs, e, l, r⟩ := h; exact ⟨vs, m _ e, l, f _ _ r⟩
  | dk ks xs => obtain ⟨vs, e, l, r⟩ := h; exact ⟨vs, m _ e, l, f _ _ r⟩
  | _ => exact h.elim
theorem Top.lt {t : T} {a : Nat} (h : Top g B w t a) : a < w.M.length := by
  cases t with
  | lst xs => obtain ⟨vs, e, r⟩ := h; exact (List.getElem?_eq_some_iff.mp e).1
  | ins c ns xs => obtain ⟨vs, e, l, r⟩ := h; exact (List.getElem?_eq_some_iff.mp e).1
  | dk ks xs => obtain ⟨vs, e, l, r⟩ := h; exact (List.getElem?_eq_some_iff.mp e).1
  | _ => exact h.elim
theorem Top.goB (a : Gx w w1) {t : T} {x : Nat} (l : ¬ w.Lv x) (h : Top g B w t x) : Top g B w1 t x := h.of (fun _ _ r => r.goB a) fun o m => (a.kp x o l (fun z => z) m).2.2
theorem Top.bad (hb : ∀ a, ¬ B a → a < w.M.length → ¬ B' a) {t : T} {x : Nat} (h : Top g B w t x) : Top g B' w t x := h.of (fun _ _ r => r.bad hb) fun o m => m
theorem Wf.bad (h : Wf g B w) (hb : ∀ a, ¬ B a → a < w.M.length → ¬ B' a) (hB : ∀ a, B' a → a < w.M.length) : Wf g B' w := ⟨h.inj, fun i t e => ⟨(h.at_ i t e).1.bad hb, hb _ (h.at_ i t e).2 (h.at_ i t e).1.lt⟩, hB⟩
theorem Top.rp {t : T} {a : Nat} (h : Top g B w t a) (p : w.P B a) : RW g B w t (.ref a) := by
  cases t with
  | lst xs => obtain ⟨vs, e, r⟩ := h; rw [w_lst]; exact ⟨vs, ⟨a, rfl, p, e⟩, r⟩
  | ins c ns xs => obtain ⟨vs, e, l, r⟩ := h; rw [w_ins]; exact ⟨a, vs, rfl, p, e, l, r⟩
  | dk ks xs => obtain ⟨vs, e, l, r⟩ := h; rw [w_dk]; exact ⟨a, vs, rfl, p, dkOf_dk e, l, r⟩
  | _ => exact h.elim
/-- a value that is looked at: its top may be one that is changed later -/
def Pk (g : Cfg) (B : Nat → Prop) (w : Wd) (t : T) (v : Val) : Prop := RW g B w t v ∨ ∃ a, v = .ref a ∧ Top g B w t a ∧ ¬ w.Lv a
theorem Pk.goB (a : Gx w w1) {t : T} {v : Val} (h : Pk g B w t v) : Pk g B w1 t v := by
  rcases h with h | ⟨x, e, h, l⟩
  · exact .inl (h.goB a)
  · refine .inr ⟨x, e, h.goB a l, ?_⟩
    obtain ⟨o, m⟩ : ∃ o, w.M[x]? = some o := ⟨_, List.getElem?_eq_getElem h.lt⟩
    exact (a.kp x o l (fun z => z) m).1
/-- a fresh one -/
def flatT : T → Bool
  | .non => true
  | .bl _ => true
  | .int _ => true
  | .str _ => true
  | _ => false
def Frs (g : Cfg) (B : Nat → Prop) (m : Nat) (w : Wd) (t : T) (v : Val) : Prop := (flatT t = true ∧ RW g B w t v) ∨ ∃ a, v = .ref a ∧ m ≤ a ∧ Wf g (fun b => B b ∨ b = a) w ∧ Top g (fun b => B b ∨ b = a) w t a
theorem Wf.nlv {B : Nat → Prop} (h : Wf g B w) {a : Nat} (b : B a) : ¬ w.Lv a := fun ⟨i, t, e, z⟩ => (h.at_ i t e).2 (z ▸ b)
theorem Frs.rp {m : Nat} {t : T} {v : Val} (h : Frs g B m w t v) (hB : ∀ a, B a → a < m) : RW g B w t v := by
  rcases h with h | ⟨a, rfl, l, n, h⟩
  · exact h.2
  · exact (h.bad fun x z _ y => z (.inl y)).rp ⟨n.nlv (.inr rfl), fun z => absurd (hB a z) (by omega)⟩
theorem Frs.le {m m' : Nat} {t : T} {v : Val} (h : Frs g B m w t v) (l : m' ≤ m) : Frs g B m' w t v := by
  rcases h with h | ⟨a, e, z, n, h⟩
  · exact .inl h
  · exact .inr ⟨a, e, Nat.le_trans l z, n, h⟩
/-- what an expression ends with -/
def Out (g : Cfg) (B : Nat → Prop) (w : Wd) (r : Pa.R Val) (t : T) (σ' : Sto) : Prop := ∃ v w', w'.σ = σ' ∧ r = .ok v w'.M ∧ Gx w w' ∧ Wf g B w' ∧ RW g B w' t v
def OutP (g : Cfg) (B : Nat → Prop) (w : Wd) (r : Pa.R Val) (t : T) (σ' : Sto) : Prop := ∃ v w', w'.σ = σ' ∧ r = .ok v w'.M ∧ Gx w w' ∧ Wf g B w' ∧ Pk g B w' t v
def OutF (g : Cfg) (B : Nat → Prop) (w : Wd) (r : Pa.R Val) (t : T) (σ' : Sto) : Prop := ∃ v w', w'.σ = σ' ∧ r = .ok v w'.M ∧ Gx w w' ∧ Wf g B w' ∧ Frs g B w.M.length w' t v
def OutA (g : Cfg) (B : Nat → Prop) (w : Wd) (r : Pa.R (List Val)) (ts : List T) (σ' : Sto) : Prop := ∃ vs w', w'.σ = σ' ∧ r = .ok vs w'.M ∧ Gx w w' ∧ Wf g B w' ∧ RWs g B w' ts vs
theorem Out.pk {r : Pa.R Val} {t : T} {σ' : Sto} (h : Out g B w r t σ') : OutP g B w r t σ' := by
  obtain ⟨v, w', a, b, c, d, e⟩ := h
  exact ⟨v, w', a, b, c, d, .inl e⟩
theorem OutF.out {r : Pa.R Val} {t : T} {σ' : Sto} (h : OutF g B w r t σ') (hB : Wf g B w) : Out g B w r t σ' := by
  obtain ⟨v, w', a, b, c, d, e⟩ := h
  exact ⟨v, w', a, b, c, d, e.rp hB.bB⟩
theorem Out.go {r : Pa.R Val} {t : T} {σ' : Sto} (h : Out g B w1 r t σ') (a : Gx w w1) : Out g B w r t σ' := by
  obtain ⟨v, w', x, b, c, d, e⟩ := h
  exact ⟨v, w', x, b, a.trans c, d, e⟩
theorem OutF.go {r : Pa.R Val} {t : T} {σ' : Sto} (h : OutF g B w1 r t σ') (a : Gx w w1) : OutF g B w r t σ' := by
  obtain ⟨v, w', x, b, c, d, e⟩ := h
  exact ⟨v, w', x, b, a.trans c, d, e.le a.ml⟩
/-- nothing is done: a value without a place -/
theorem Out.stay (h : Wf g B w) {t : T} {v : Val} (r : RW g B w t v) : Out g B w (.ok v w.M) t w.σ := ⟨v, w, rfl, rfl, .refl, h, r⟩
/-- a new object -/
def Wd.ext (w : Wd) (o : Ob) : Wd := ⟨w.ρ, w.σ, w.M ++ [o]⟩
theorem gx_ext {o : Ob} : Gx w (w.ext o) := ⟨Nat.le_refl _, fun _ _ => rfl, by simp [Wd.ext], fun a o' l _ m => ⟨l, fun z => z, by
  show (w.M ++ [o])[a]? = some o'
  rw [List.getElem?_append_left (List.getElem?_eq_some_iff.mp m).1]; exact m⟩⟩
theorem Wf.ext (h : Wf g B w) {o : Ob} : Wf g B (w.ext o) := ⟨h.inj, fun i t e => by
  obtain ⟨a, b⟩ := h.at_ i t e
  refine ⟨a.of (fun _ _ r => r.goB gx_ext) fun o' m => ?_, b⟩
  show (w.M ++ [o])[_]? = some o'
  rw [List.getElem?_append_left (List.getElem?_eq_some_iff.mp m).1]; exact m, fun a z => by
  have := h.bB a z
  simp [Wd.ext]; omega⟩
theorem Wf.fresh (h : Wf g B w) : ¬ w.Lv w.M.length ∧ ¬ B w.M.length := ⟨fun ⟨i, t, e, z⟩ => by
  have := (h.at_ i t e).1.lt
  omega, fun z => by have := h.bB _ z; omega⟩
theorem Wf.extA (h : Wf g B w) {o : Ob} : Wf g (fun b => B b ∨ b = w.M.length) (w.ext o) := ⟨h.inj, fun i t e => by
  obtain ⟨a, b⟩ := h.at_ i t e
  have l := a.lt
  refine ⟨(a.bad fun x z y q => q.elim z fun e => by omega).of (fun _ _ r => r.goB gx_ext) fun o' m => ?_, fun z => z.elim b fun e => ?_⟩
  · show (w.M ++ [o])[_]? = some o'
    rw [List.getElem?_append_left (List.getElem?_eq_some_iff.mp m).1]; exact m
  · have e2 : w.ρ i = w.M.length := e
    omega, fun a z => by
  have : a < w.M.length + 1 := by
    rcases z with z | z
    · have := h.bB a z; omega
    · omega
  simp [Wd.ext]; omega⟩
theorem ext_at {o : Ob} : (w.ext o).M[w.M.length]? = some o := by simp [Wd.ext]
theorem OutF.alloc (h : Wf g B w) {o : Ob} {t : T} (k : ∀ B', (∀ a, ¬ B a → a < w.M.length → ¬ B' a) → Top g B' (w.ext o) t w.M.length) : OutF g B w (.ok (.ref w.M.length) (w.M ++ [o])) t w.σ :=
  ⟨.ref w.M.length, w.ext o, rfl, rfl, gx_ext, h.ext, .inr ⟨_, rfl, Nat.le_refl _, h.extA, k _ fun a z l y => y.elim z fun e => by omega⟩⟩
theorem OutF.lst (h : Wf g B w) {xs : List T} {vs : List Val} (r : RWs g B w xs vs) : OutF g B w (.ok (.ref w.M.length) (w.M ++ [.lst vs])) (.lst xs) w.σ :=
  OutF.alloc h fun B' hb => ⟨vs, ext_at, (r.bad hb).goB gx_ext⟩
theorem OutF.dk (h : Wf g B w) {ks : List DKey} {xs : List T} {vs : List Val} (l : ks.length = xs.length) (r : RWs g B w xs vs) : OutF g B w (.ok (.ref w.M.length) (w.M ++ [.dk (ks.zip vs)])) (.dk ks xs) w.σ :=
  OutF.alloc h fun B' hb => ⟨vs, ext_at, l, (r.bad hb).goB gx_ext⟩
theorem OutF.ins (h : Wf g B w) {c : String} {ns : List String} {xs : List T} {vs : List Val} (l : ns.length = xs.length) (r : RWs g B w xs vs) : OutF g B w (.ok (.ref w.M.length) (w.M ++ [.ins c (ns.zip vs)])) (.ins c ns xs) w.σ :=
  OutF.alloc h fun B' hb => ⟨vs, ext_at, l, (r.bad hb).goB gx_ext⟩
theorem Out.tup (h : Wf g B w) {xs : List T} {vs : List Val} (r : RWs g B w xs vs) : Out g B w (.ok (.ref w.M.length) (w.M ++ [.tup vs])) (.tup xs) w.σ :=
  ⟨.ref w.M.length, w.ext (.tup vs), rfl, rfl, gx_ext, h.ext, by
    rw [w_tup]
    exact ⟨vs, .inl ⟨_, rfl, ⟨h.fresh.1, h.fresh.2⟩, ext_at⟩, r.goB gx_ext⟩⟩
end
/-! what stands in the store -/
def look (σ : Sto) : T → Option T
  | .ptr i => match σ[i]? with
    | some (some t) => some t
    | _ => none
  | t => some t
section
variable {g : Cfg} {B : Nat → Prop} {w : Wd}
/-- what is read: its top anywhere -/
def Rd (g : Cfg) (B : Nat → Prop) (w : Wd) (t : T) (v : Val) : Prop := RW g B w t v ∨ ∃ a, v = .ref a ∧ Top g B w t a
theorem Pk.look {t u : T} {v : Val} (hw : Wf g B w) (h : Pk g B w t v) (e : look w.σ t = some u) : Rd g B w u v := by
  rcases h with h | ⟨a, ev, h, _⟩
  · cases t with
    | ptr i =>
      rw [w_ptr] at h
      simp only [Tr.look] at e
      split at e
      · rename_i t' e'
        cases e
        exact .inr ⟨_, h.2, (hw.at_ i _ e').1⟩
      · cases e
    | _ => simp only [Tr.look] at e; cases e; exact .inl h
  · cases t with
    | ptr i => exact h.elim
    | _ => simp only [Tr.look] at e; cases e; exact .inr ⟨a, ev, h⟩
theorem Rd.lst {xs : List T} {v : Val} (h : Rd g B w (.lst xs) v) : ∃ a vs, v = .ref a ∧ w.M[a]? = some (.lst vs) ∧ Pa.lstOf g w.M v = some vs ∧ RWs g B w xs vs := by
  rcases h with h | ⟨a, rfl, vs, e, r⟩
  · rw [w_lst] at h
    obtain ⟨vs, ⟨a, rfl, _, e⟩, r⟩ := h
    exact ⟨a, vs, rfl, e, by simp only [Pa.lstOf, e], r⟩
  · exact ⟨a, vs, rfl, e, by simp only [Pa.lstOf, e], r⟩
theorem Rd.scr {ns : List Int} {v : Val} (h : Rd g B w (.scr ns) v) : Pa.lstOf g w.M v = some (ns.map .int) := by
  rcases h with h | ⟨a, rfl, h⟩
  · rw [w_scr] at h
    rcases h with ⟨a, rfl, _, e⟩ | ⟨k, rfl, e⟩
    · simp only [Pa.lstOf, e]
    · simp only [Pa.lstOf, e]
  · exact h.elim
theorem Rd.tup {xs : List T} {v : Val} (h : Rd g B w (.tup xs) v) : ∃ vs, Pa.lstOf g w.M v = none ∧ Pa.tupOf g w.M v = some vs ∧ RWs g B w xs vs := by
  rcases h with h | ⟨a, rfl, h⟩
  · rw [w_tup] at h
    obtain ⟨vs, ⟨a, rfl, _, e⟩ | ⟨k, rfl, e⟩, r⟩ := h
    · exact ⟨vs, by simp only [Pa.lstOf, e], by simp only [Pa.tupOf, e], r⟩
    · exact ⟨vs, by simp only [Pa.lstOf, e], by simp only [Pa.tupOf, e], r⟩
  · exact h.elim
theorem Rd.ins {c : String} {ns : List String} {xs : List T} {v : Val} (h : Rd g B w (.ins c ns xs) v) : ∃ a vs, v = .ref a ∧ w.M[a]? = some (.ins c (ns.zip vs)) ∧ ns.length = xs.length ∧ RWs g B w xs vs := by
  rcases h with h | ⟨a, rfl, vs, e, l, r⟩
  · rw [w_ins] at h
    obtain ⟨a, vs, rfl, _, e, l, r⟩ := h
    exact ⟨a, vs, rfl, e, l, r⟩
  · exact ⟨a, vs, rfl, e, l, r⟩
theorem Rd.dk {ks : List DKey} {xs : List T} {v : Val} (h : Rd g B w (.dk ks xs) v) : ∃ a vs, v = .ref a ∧ Pa.dkOf w.M a = some (ks.zip vs) ∧ ks.length = xs.length ∧ RWs g B w xs vs := by
  rcases h with h | ⟨a, rfl, vs, e, l, r⟩
  · rw [w_dk] at h
    obtain ⟨a, vs, rfl, _, e, l, r⟩ := h
    exact ⟨a, vs, rfl, e, l, r⟩
  · exact ⟨a, vs, rfl, dkOf_dk e, l, r⟩
theorem Rd.int {i : Int} {v : Val} (h : Rd g B w (.int i) v) : v = .int i := by
  rcases h with h | ⟨a, _, h⟩
  · rw [w_int] at h; exact h
  · exact h.elim
theorem Rd.bl {i : Bool} {v : Val} (h : Rd g B w (.bl i) v) : v = .bl i := by
  rcases h with h | ⟨a, _, h⟩
  · rw [w_bl] at h; exact h
  · exact h.elim
theorem Rd.str {i : List Nat} {v : Val} (h : Rd g B w (.str i) v) : v = .str i := by
  rcases h with h | ⟨a, _, h⟩
  · rw [w_str] at h; exact h
  · exact h.elim
theorem Rd.non {v : Val} (h : Rd g B w .non v) : v = .non := by
  rcases h with h | ⟨a, _, h⟩
  · rw [w_non] at h; exact h
  · exact h.elim
end
end Tr

/-! Trees: expressions. -/
namespace Tr
open Pa (Val Ob Mem Cfg DKey Loc)
abbrev Env := List (Option T)
abbrev D := Env → Sto → R T
abbrev DA := Env → Sto → R (List T)
def Own (L : Loc) (O : List Nat) (a : Nat) : Prop := ∃ i ∈ O, L[i]? = some (some (.ref a))
abbrev BO (B : Nat → Prop) (L : Loc) (O : List Nat) : Nat → Prop := fun a => B a ∨ Own L O a
structure St (g : Cfg) (m0 : Nat) (B : Nat → Prop) (w : Wd) (O : List Nat) (E : Env) (L : Loc) : Prop where
  wf : Wf g (BO B L O) w
  len : E.length = L.length
  env : ∀ (i : Nat) (v : Val), L[i]? = some (some v) → ∃ t, E[i]? = some (some t) ∧ (i ∉ O → RW g (BO B L O) w t v) ∧ (i ∈ O → (flatT t = true ∧ RW g (BO B L O) w t v) ∨ ∃ a, v = .ref a ∧ Top g (BO B L O) w t a)
  non : ∀ i : Nat, L[i]? = some none → E[i]? = some none
  dis : ∀ (i j a : Nat), i ∈ O → j ∈ O → L[i]? = some (some (.ref a)) → L[j]? = some (some (.ref a)) → i = j
  om : ∀ a, Own L O a → m0 ≤ a ∧ ¬ B a
section
variable {g : Cfg} {m0 : Nat} {B : Nat → Prop} {w w' w1 : Wd} {O : List Nat} {E : Env} {L : Loc}
theorem St.go (h : St g m0 B w O E L) (a : Gx w w') (f : Wf g (BO B L O) w') : St g m0 B w' O E L :=
  ⟨f, h.len, fun i v e => by
    obtain ⟨t, e1, h1, h2⟩ := h.env i v e
    refine ⟨t, e1, fun z => (h1 z).goB a, fun z => ?_⟩
    rcases h2 z with ⟨f, h3⟩ | ⟨x, rfl, h3⟩
    · exact .inl ⟨f, h3.goB a⟩
    · exact .inr ⟨x, rfl, h3.goB a (h.wf.nlv (.inr ⟨i, z, e⟩))⟩, h.non, h.dis, h.om⟩
theorem St.get (h : St g m0 B w O E L) {i : Nat} {t : T} (e : E[i]? = some (some t)) : ∃ v, L[i]? = some (some v) ∧ (i ∉ O → RW g (BO B L O) w t v) ∧ (i ∈ O → (flatT t = true ∧ RW g (BO B L O) w t v) ∨ ∃ a, v = .ref a ∧ Top g (BO B L O) w t a) := by
  have hi : i < L.length := by
    have := (List.getElem?_eq_some_iff.mp e).1
    rw [h.len] at this
    exact this
  cases hv : L[i] with
  | none =>
    have z := h.non i (by rw [List.getElem?_eq_getElem hi, hv])
    rw [e] at z
    cases z
  | some v =>
    have hl : L[i]? = some (some v) := by rw [List.getElem?_eq_getElem hi, hv]
    obtain ⟨t', e1, h1, h2⟩ := h.env i v hl
    rw [e] at e1
    cases e1
    exact ⟨v, hl, h1, h2⟩
end
def XE (g : Cfg) (O : List Nat) (d : Pa.D) (e : D) : Prop := ∀ m0 B w E L t σ', St g m0 B w O E L → e E w.σ = .ok t σ' → Out g (BO B L O) w (d L w.M) t σ'
def XP (g : Cfg) (O : List Nat) (d : Pa.D) (e : D) : Prop := ∀ m0 B w E L t σ', St g m0 B w O E L → e E w.σ = .ok t σ' → OutP g (BO B L O) w (d L w.M) t σ'
def XF (g : Cfg) (O : List Nat) (d : Pa.D) (e : D) : Prop := ∀ m0 B w E L t σ', St g m0 B w O E L → e E w.σ = .ok t σ' → OutF g (BO B L O) w (d L w.M) t σ'
inductive Pks (g : Cfg) (B : Nat → Prop) (w : Wd) : List T → List Val → Prop
  | nil : Pks g B w [] []
  | cons {t : T} {v : Val} {ts : List T} {vs : List Val} : Pk g B w t v → Pks g B w ts vs → Pks g B w (t :: ts) (v :: vs)
def OutAP (g : Cfg) (B : Nat → Prop) (w : Wd) (r : Pa.R (List Val)) (ts : List T) (σ' : Sto) : Prop := ∃ vs w', w'.σ = σ' ∧ r = .ok vs w'.M ∧ Gx w w' ∧ Wf g B w' ∧ Pks g B w' ts vs
def XA (g : Cfg) (O : List Nat) (d : Pa.DA) (e : DA) : Prop := ∀ m0 B w E L t σ', St g m0 B w O E L → e E w.σ = .ok t σ' → OutA g (BO B L O) w (d L w.M) t σ'
def XQ (g : Cfg) (O : List Nat) (d : Pa.DA) (e : DA) : Prop := ∀ m0 B w E L t σ', St g m0 B w O E L → e E w.σ = .ok t σ' → OutAP g (BO B L O) w (d L w.M) t σ'
section
variable {g : Cfg} {B : Nat → Prop} {w w1 : Wd} {t : T} {ts : List T} {σ' σ1 : Sto} {r : Pa.R Val}
theorem OutP.bind {α : Type} {r : Pa.R Val} {σ1 : Sto} {K : Pa.R α → Prop} (h : OutP g B w r t σ1) {f : Val → Mem → Pa.R α} (k : ∀ v w1, w1.σ = σ1 → Gx w w1 → Wf g B w1 → Pk g B w1 t v → K (f v w1.M)) : K (r.bind f) := by
  obtain ⟨v, w1, a, rfl, b, c, d⟩ := h
  exact k v w1 a b c d
theorem Out.bind {α : Type} {r : Pa.R Val} {σ1 : Sto} {K : Pa.R α → Prop} (h : Out g B w r t σ1) {f : Val → Mem → Pa.R α} (k : ∀ v w1, w1.σ = σ1 → Gx w w1 → Wf g B w1 → RW g B w1 t v → K (f v w1.M)) : K (r.bind f) := by
  obtain ⟨v, w1, a, rfl, b, c, d⟩ := h
  exact k v w1 a b c d
theorem OutF.bind {α : Type} {r : Pa.R Val} {σ1 : Sto} {K : Pa.R α → Prop} (h : OutF g B w r t σ1) {f : Val → Mem → Pa.R α} (k : ∀ v w1, w1.σ = σ1 → Gx w w1 → Wf g B w1 → Frs g B w.M.length w1 t v → K (f v w1.M)) : K (r.bind f) := by
  obtain ⟨v, w1, a, rfl, b, c, d⟩ := h
  exact k v w1 a b c d
theorem OutA.bind {α : Type} {r : Pa.R (List Val)} {σ1 : Sto} {K : Pa.R α → Prop} (h : OutA g B w r ts σ1) {f : List Val → Mem → Pa.R α} (k : ∀ v w1, w1.σ = σ1 → Gx w w1 → Wf g B w1 → RWs g B w1 ts v → K (f v w1.M)) : K (r.bind f) := by
  obtain ⟨v, w1, a, rfl, b, c, d⟩ := h
  exact k v w1 a b c d
theorem OutAP.bind {α : Type} {r : Pa.R (List Val)} {σ1 : Sto} {K : Pa.R α → Prop} (h : OutAP g B w r ts σ1) {f : List Val → Mem → Pa.R α} (k : ∀ v w1, w1.σ = σ1 → Gx w w1 → Wf g B w1 → Pks g B w1 ts v → K (f v w1.M)) : K (r.bind f) := by
  obtain ⟨v, w1, a, rfl, b, c, d⟩ := h
  exact k v w1 a b c d
theorem Pks.goB (a : Gx w w1) {ts : List T} {vs : List Val} (h : Pks g B w ts vs) : Pks g B w1 ts vs := by
  induction h with
  | nil => exact .nil
  | cons h _ ih => exact .cons (h.goB a) ih
theorem Pks.of : ∀ {ts : List T} {vs : List Val}, RWs g B w ts vs → Pks g B w ts vs
  | [], vs, r => by
    rw [ws_nil] at r
    subst r; exact .nil
  | t :: ts, vs, r => by
    rw [ws_cons] at r
    obtain ⟨u, us, rfl, a, r⟩ := r
    exact .cons (.inl a) (Pks.of r)
theorem Out.flat (h : Wf g B w) {t : T} {v : Val} (r : RW g B w t v) : Out g B w (.ok v w.M) t w.σ := Out.stay h r
theorem OutF.flat (h : Wf g B w) {t : T} {v : Val} (f : flatT t = true) (r : RW g B w t v) : OutF g B w (.ok v w.M) t w.σ := ⟨v, w, rfl, rfl, .refl, h, .inl ⟨f, r⟩⟩
end
section
variable {g : Cfg} {O : List Nat}
theorem XE.p {d : Pa.D} {e : D} (h : XE g O d e) : XP g O d e := fun m0 B w E L t σ' S q => (h m0 B w E L t σ' S q).pk
theorem XF.e {d : Pa.D} {e : D} (h : XF g O d e) : XE g O d e := fun m0 B w E L t σ' S q => (h m0 B w E L t σ' S q).out S.wf
theorem XF.p {d : Pa.D} {e : D} (h : XF g O d e) : XP g O d e := h.e.p
theorem XA.q {d : Pa.DA} {e : DA} (h : XA g O d e) : XQ g O d e := fun m0 B w E L t σ' S q => by
  obtain ⟨v, w', a, b, c, d, r⟩ := h m0 B w E L t σ' S q
  exact ⟨v, w', a, b, c, d, Pks.of r⟩
/-! ### places, constants -/
def eV (i : Nat) : D := fun E σ => match E[i]? with
  | some (some t) => .ok t σ
  | _ => .no
theorem eV_eq {i : Nat} {E : Env} {σ σ' : Sto} {t : T} (h : eV i E σ = .ok t σ') : E[i]? = some (some t) ∧ σ' = σ := by
  unfold eV at h
  split at h
  · rename_i t' e
    cases h
    exact ⟨e, rfl⟩
  · cases h
theorem xv {i : Nat} (hO : i ∉ O) : XE g O (Pa.dV i) (eV i) := fun m0 B w E L t σ' S e => by
  obtain ⟨e1, rfl⟩ := eV_eq e
  obtain ⟨v, hl, h1, _⟩ := S.get e1
  simp only [Pa.dV, hl]
  exact Out.stay S.wf (h1 hO)
theorem xvp {i : Nat} : XP g O (Pa.dV i) (eV i) := fun m0 B w E L t σ' S e => by
  obtain ⟨e1, rfl⟩ := eV_eq e
  obtain ⟨v, hl, h1, h2⟩ := S.get e1
  simp only [Pa.dV, hl]
  by_cases hO : i ∈ O
  · rcases h2 hO with ⟨_, h⟩ | ⟨a, rfl, h⟩
    · exact (Out.stay S.wf h).pk
    · exact ⟨_, w, rfl, rfl, .refl, S.wf, .inr ⟨a, rfl, h, S.wf.nlv (.inr ⟨i, hO, hl⟩)⟩⟩
  · exact (Out.stay S.wf (h1 hO)).pk
def eC (t : T) : D := fun _ σ => .ok t σ
def tof : Val → T
  | .bl b => .bl b
  | .int i => .int i
  | .str s => .str s
  | _ => .non
theorem xc_ {t : T} {v : Val} (h : ∀ B w, RW g B w t v) : XE g O (Pa.dC v) (eC t) := fun m0 B w E L t σ' S e => by
  cases e
  exact Out.stay S.wf (h _ _)
theorem xcf_ {t : T} {v : Val} (f : flatT t = true) (h : ∀ B w, RW g B w t v) : XF g O (Pa.dC v) (eC t) := fun m0 B w E L t σ' S e => by
  cases e
  exact OutF.flat S.wf f (h _ _)
theorem xc_non : XF g O (Pa.dC .non) (eC .non) := xcf_ rfl fun _ _ => by rw [w_non]
theorem xc_bl {b : Bool} : XF g O (Pa.dC (.bl b)) (eC (.bl b)) := xcf_ rfl fun _ _ => by rw [w_bl]
theorem xc_int {i : Int} : XF g O (Pa.dC (.int i)) (eC (.int i)) := xcf_ rfl fun _ _ => by rw [w_int]
theorem xc_str {s : List Nat} : XF g O (Pa.dC (.str s)) (eC (.str s)) := xcf_ rfl fun _ _ => by rw [w_str]
theorem flat_rw {B : Nat → Prop} {w : Wd} {v : Val} (h : Pa.flat v = true) : RW g B w (tof v) v := by
  cases v with
  | non => simp only [tof]; rw [w_non]
  | bl b => simp only [tof]; rw [w_bl]
  | int b => simp only [tof]; rw [w_int]
  | str b => simp only [tof]; rw [w_str]
  | _ => cases h
theorem flats_rw {B : Nat → Prop} {w : Wd} : ∀ {vs : List Val}, vs.all Pa.flat = true → RWs g B w (vs.map tof) vs
  | [], _ => Rps.nil
  | v :: vs, h => by
    rw [List.all_cons, Bool.and_eq_true] at h
    exact Rps.cons (flat_rw h.1) (flats_rw h.2)
theorem xc_con {k : Nat} {vs : List Val} (h : g.con k = some (false, vs)) (hf : vs.all Pa.flat = true) : XE g O (Pa.dC (.con k)) (eC (.tup (vs.map tof))) := xc_ fun B w => by
  rw [w_tup]
  exact ⟨vs, .inr ⟨k, rfl, h⟩, flats_rw hf⟩
/-! ### two operands -/
def eB (p : T → T → Sto → R T) (a b : D) : D := fun E σ => (a E σ).bind fun x σ1 => (b E σ1).bind fun y σ2 => p x y σ2
def OpE (g : Cfg) (f : Val → Val → Mem → Pa.R Val) (p : T → T → Sto → R T) : Prop := ∀ B w x y v u t σ', Wf g B w → Pk g B w x v → Pk g B w y u → p x y w.σ = .ok t σ' → Out g B w (f v u w.M) t σ'
def OpF (g : Cfg) (f : Val → Val → Mem → Pa.R Val) (p : T → T → Sto → R T) : Prop := ∀ B w x y v u t σ', Wf g B w → Pk g B w x v → Pk g B w y u → p x y w.σ = .ok t σ' → OutF g B w (f v u w.M) t σ'
theorem xb {f : Val → Val → Mem → Pa.R Val} {p : T → T → Sto → R T} {a b : Pa.D} {ea eb : D} (hop : OpE g f p) (ha : XP g O a ea) (hb : XP g O b eb) : XE g O (Pa.dB f a b) (eB p ea eb) := fun m0 B w E L t σ' S e => by
  obtain ⟨x, σ1, e1, e⟩ := R.bind_eq e
  obtain ⟨y, σ2, e2, e⟩ := R.bind_eq e
  refine (ha _ _ _ _ _ _ _ S e1).bind (K := fun r => Out g (BO B L O) w r t σ') fun v w1 hs G1 W1 P1 => ?_
  subst hs
  refine (hb _ _ _ _ _ _ _ (S.go G1 W1) e2).bind (K := fun r => Out g (BO B L O) w r t σ') fun u w2 hs G2 W2 P2 => ?_
  subst hs
  exact (hop _ _ _ _ _ _ _ _ W2 (P1.goB G2) P2 e).go (G1.trans G2)
theorem xbf {f : Val → Val → Mem → Pa.R Val} {p : T → T → Sto → R T} {a b : Pa.D} {ea eb : D} (hop : OpF g f p) (ha : XP g O a ea) (hb : XP g O b eb) : XF g O (Pa.dB f a b) (eB p ea eb) := fun m0 B w E L t σ' S e => by
  obtain ⟨x, σ1, e1, e⟩ := R.bind_eq e
  obtain ⟨y, σ2, e2, e⟩ := R.bind_eq e
  refine (ha _ _ _ _ _ _ _ S e1).bind (K := fun r => OutF g (BO B L O) w r t σ') fun v w1 hs G1 W1 P1 => ?_
  subst hs
  refine (hb _ _ _ _ _ _ _ (S.go G1 W1) e2).bind (K := fun r => OutF g (BO B L O) w r t σ') fun u w2 hs G2 W2 P2 => ?_
  subst hs
  exact (hop _ _ _ _ _ _ _ _ W2 (P1.goB G2) P2 e).go (G1.trans G2)
end
section
variable {g : Cfg} {B : Nat → Prop} {w : Wd}
theorem Pk.rd {t : T} {v : Val} (h : Pk g B w t v) (n : ∀ i, t ≠ .ptr i) : Rd g B w t v := by
  rcases h with h | ⟨a, e, h, _⟩
  · exact .inl h
  · exact .inr ⟨a, e, h⟩
theorem Pk.int {i : Int} {v : Val} (h : Pk g B w (.int i) v) : v = .int i := (h.rd fun _ z => by cases z).int
theorem Pk.str {i : List Nat} {v : Val} (h : Pk g B w (.str i) v) : v = .str i := (h.rd fun _ z => by cases z).str
theorem Pk.bl {i : Bool} {v : Val} (h : Pk g B w (.bl i) v) : v = .bl i := (h.rd fun _ z => by cases z).bl
theorem Pk.non {v : Val} (h : Pk g B w .non v) : v = .non := (h.rd fun _ z => by cases z).non
theorem oint (h : Wf g B w) (i : Int) : OutF g B w (.ok (.int i) w.M) (.int i) w.σ := OutF.flat h rfl (by rw [w_int])
theorem obl (h : Wf g B w) (i : Bool) : OutF g B w (.ok (.bl i) w.M) (.bl i) w.σ := OutF.flat h rfl (by rw [w_bl])
theorem ostr (h : Wf g B w) (i : List Nat) : OutF g B w (.ok (.str i) w.M) (.str i) w.σ := OutF.flat h rfl (by rw [w_str])
end
/-! ### sums -/
def tSub (x y : T) (σ : Sto) : R T := match x, y with
  | .int i, .int j => .ok (.int (i - j)) σ
  | _, _ => .no
def tDiv (x y : T) (σ : Sto) : R T := match x, y with
  | .int i, .int j => if 0 < j ∧ j < 18446744073709551616 then .ok (.int (i / j)) σ else .no
  | _, _ => .no
def tMod (x y : T) (σ : Sto) : R T := match x, y with
  | .int i, .int j => if 0 < j then .ok (.int (i % j)) σ else .no
  | _, _ => .no
def tPow (x y : T) (σ : Sto) : R T := match x, y with
  | .int i, .int j => if 0 ≤ j ∧ j ≤ 1000 ∧ -1000000 < i ∧ i < 1000000 then .ok (.int (i ^ j.toNat)) σ else .no
  | _, _ => .no
def tShl (x y : T) (σ : Sto) : R T := match x, y with
  | .int i, .int j => if 0 ≤ j ∧ j ≤ 1000 ∧ -1000000 < i ∧ i < 1000000 then .ok (.int (i * 2 ^ j.toNat)) σ else .no
  | _, _ => .no
def tShr (x y : T) (σ : Sto) : R T := match x, y with
  | .int i, .int j => if 0 ≤ j then .ok (.int (i / 2 ^ j.toNat)) σ else .no
  | _, _ => .no
def tAnd (x y : T) (σ : Sto) : R T := match x, y with
  | .int i, .int j => .ok (.int (PySem.Builtin.bitAnd i j)) σ
  | _, _ => .no
def tOr (x y : T) (σ : Sto) : R T := match x, y with
  | .int i, .int j => .ok (.int (PySem.Builtin.bitOr i j)) σ
  | _, _ => .no
def tCmp (p : Int → Int → Bool) (x y : T) (σ : Sto) : R T := match x, y with
  | .int i, .int j => .ok (.bl (p i j)) σ
  | _, _ => .no
def tAdd (x y : T) (σ : Sto) : R T := match look σ x, look σ y with
  | some (.int i), some (.int j) => .ok (.int (i + j)) σ
  | some (.str a), some (.str b) => if a.length + b.length ≤ 1000000 then .ok (.str (a ++ b)) σ else .no
  | some (.lst xs), some (.lst ys) => if xs.length + ys.length ≤ 1000000 then .ok (.lst (xs ++ ys)) σ else .no
  | _, _ => .no
def tMul (x y : T) (σ : Sto) : R T := match look σ x, y with
  | some (.int i), .int j => if (-18446744073709551616 < i ∧ i < 18446744073709551616) ∨ (-18446744073709551616 < j ∧ j < 18446744073709551616) then .ok (.int (i * j)) σ else .no
  | some (.str s), .int k => if -1000000 ≤ k ∧ k ≤ 1000000 ∧ s.length ≤ 1000000 ∧ s.length * k.toNat ≤ 1000000 then .ok (.str ((List.replicate k.toNat s).flatten)) σ else .no
  | some (.lst xs), .int k => if k ≤ 1000000 ∧ -1000000 ≤ k ∧ xs.length * k.toNat ≤ 1000000 then .ok (.lst ((List.replicate k.toNat xs).flatten)) σ else .no
  | _, _ => .no
section
variable {g : Cfg}
theorem op_sub : OpF g Pa.oSub tSub := fun B w x y v u t σ' W h1 h2 e => by
  cases x <;> cases y <;> simp only [tSub] at e <;> first | cases e | skip
  cases h1.int; cases h2.int
  exact oint W _
theorem op_div : OpF g Pa.oDiv tDiv := fun B w x y v u t σ' W h1 h2 e => by
  cases x <;> cases y <;> simp only [tDiv] at e <;> first | cases e | skip
  cases h1.int; cases h2.int
  split at e
  · rename_i h
    cases e
    simp only [Pa.oDiv, h, and_self, if_true]
    exact oint W _
  · cases e
theorem op_mod : OpF g Pa.oMod tMod := fun B w x y v u t σ' W h1 h2 e => by
  cases x <;> cases y <;> simp only [tMod] at e <;> first | cases e | skip
  cases h1.int; cases h2.int
  split at e
  · rename_i h
    cases e
    simp only [Pa.oMod, h, if_true]
    exact oint W _
  · cases e
theorem op_pow : OpF g Pa.oPow tPow := fun B w x y v u t σ' W h1 h2 e => by
  cases x <;> cases y <;> simp only [tPow] at e <;> first | cases e | skip
  cases h1.int; cases h2.int
  split at e
  · rename_i h
    cases e
    simp only [Pa.oPow, h, and_self, if_true]
    exact oint W _
  · cases e
theorem op_shl : OpF g Pa.oShl tShl := fun B w x y v u t σ' W h1 h2 e => by
  cases x <;> cases y <;> simp only [tShl] at e <;> first | cases e | skip
  cases h1.int; cases h2.int
  split at e
  · rename_i h
    cases e
    simp only [Pa.oShl, h, and_self, if_true]
    exact oint W _
  · cases e
theorem op_shr : OpF g Pa.oShr tShr := fun B w x y v u t σ' W h1 h2 e => by
  cases x <;> cases y <;> simp only [tShr] at e <;> first | cases e | skip
  cases h1.int; cases h2.int
  split at e
  · rename_i h
    cases e
    simp only [Pa.oShr, h, if_true]
    exact oint W _
  · cases e
theorem op_and : OpF g Pa.oAnd tAnd := fun B w x y v u t σ' W h1 h2 e => by
  cases x <;> cases y <;> simp only [tAnd] at e <;> first | cases e | skip
  cases h1.int; cases h2.int
  exact oint W _
theorem op_or : OpF g Pa.oOr tOr := fun B w x y v u t σ' W h1 h2 e => by
  cases x <;> cases y <;> simp only [tOr] at e <;> first | cases e | skip
  cases h1.int; cases h2.int
  exact oint W _
theorem op_cmp {p : Int → Int → Bool} : OpF g (Pa.oCmp p) (tCmp p) := fun B w x y v u t σ' W h1 h2 e => by
  cases x <;> cases y <;> simp only [tCmp] at e <;> first | cases e | skip
  cases h1.int; cases h2.int
  exact obl W _
theorem op_add : OpF g Pa.oAdd tAdd := fun B w x y v u t σ' W h1 h2 e => by
  unfold tAdd at e
  split at e
  · rename_i i j e1 e2
    cases e
    cases (h1.look W e1).int; cases (h2.look W e2).int
    exact oint W _
  · rename_i a b e1 e2
    cases (h1.look W e1).str; cases (h2.look W e2).str
    split at e
    · rename_i h
      cases e
      simp only [Pa.oAdd, Pa.sAdd, h, if_true]
      exact ostr W _
    · cases e
  · rename_i xs ys e1 e2
    obtain ⟨a, vs, rfl, m1, _, r1⟩ := (h1.look W e1).lst
    obtain ⟨b, us, rfl, m2, _, r2⟩ := (h2.look W e2).lst
    split at e
    · rename_i h
      cases e
      rw [← r1.len, ← r2.len] at h
      simp only [Pa.oAdd, Pa.lAdd, m1, m2, h, if_true]
      exact OutF.lst W (r1.app r2)
    · cases e
  · cases e
theorem Rps.rep {ρ : Nat → Nat} {n : Nat} {P : Nat → Prop} {M : Mem} {ts : List T} {vs : List Val} (h : Rps g ρ n P M ts vs) : ∀ k : Nat, Rps g ρ n P M ((List.replicate k ts).flatten) ((List.replicate k vs).flatten)
  | 0 => Rps.nil
  | k + 1 => by
    rw [List.replicate_succ, List.replicate_succ, List.flatten_cons, List.flatten_cons]
    exact h.app (Rps.rep h k)
theorem op_mul : OpF g Pa.oMul tMul := fun B w x y v u t σ' W h1 h2 e => by
  unfold tMul at e
  split at e
  · rename_i i j e1
    cases (h1.look W e1).int; cases h2.int
    split at e
    · rename_i h
      cases e
      simp only [Pa.oMul, Pa.iMul, h, if_true]
      exact oint W _
    · cases e
  · rename_i s k e1
    cases (h1.look W e1).str; cases h2.int
    split at e
    · rename_i h
      cases e
      simp only [Pa.oMul, Pa.sMul, h, and_self, if_true]
      exact ostr W _
    · cases e
  · rename_i xs k e1
    obtain ⟨a, vs, rfl, m1, _, r1⟩ := (h1.look W e1).lst
    cases h2.int
    split at e
    · rename_i h
      cases e
      rw [← r1.len] at h
      simp only [Pa.oMul, Pa.lMul, m1, h, and_self, if_true]
      exact OutF.lst W (r1.rep _)
    · cases e
  · cases e
end
/-! ### equality -/
def scalT : T → T → Bool
  | .bl _, .int _ => false
  | .int _, .bl _ => false
  | x, y => flatT x && flatT y
def eqFT : T → T → Bool
  | .non, .non => true
  | .bl a, .bl b => a == b
  | .bl a, .int b => (if a then 1 else 0) == b
  | .int a, .bl b => a == (if b then 1 else 0)
  | .int a, .int b => a == b
  | .str a, .str b => a == b
  | _, _ => false
mutual
def datT : T → Option Pa.Dat
  | .non => some .non
  | .bl b => some (.bl b)
  | .int i => some (.int i)
  | .str s => if s.all (· < 1114112) then some (.str s) else none
  | .lst xs => (datTs xs).map .lst
  | .tup xs => (datTs xs).map .tup
  | .scr ns => some (.lst (ns.map .int))
  | _ => none
def datTs : List T → Option (List Pa.Dat)
  | [] => some []
  | x :: xs => match datT x, datTs xs with
    | some d, some ds => some (d :: ds)
    | _, _ => none
end
section
variable {g : Cfg} {B : Nat → Prop} {w : Wd}
theorem dep_ints : ∀ ns : List Int, Pa.deps (ns.map Pa.Dat.int) = 0
  | [] => rfl
  | n :: ns => by simp only [List.map_cons, Pa.deps, Pa.dep, dep_ints ns]; rfl
mutual
theorem rd_deep : ∀ {t : T} {v : Val} {d : Pa.Dat} {n : Nat}, Rd g B w t v → datT t = some d → Pa.dep d ≤ n → Pa.deep g w.M n v = some d
  | .non, v, d, n, r, e, _ => by
    cases r.non; simp only [datT] at e; cases e; cases n <;> simp only [Pa.deep]
  | .bl b, v, d, n, r, e, _ => by
    cases r.bl; simp only [datT] at e; cases e; cases n <;> simp only [Pa.deep]
  | .int b, v, d, n, r, e, _ => by
    cases r.int; simp only [datT] at e; cases e; cases n <;> simp only [Pa.deep]
  | .str s, v, d, n, r, e, _ => by
    cases r.str; simp only [datT] at e; cases n <;> simp only [Pa.deep] <;> exact e
  | .lst xs, v, d, n, r, e, hn => by
    obtain ⟨a, vs, _, _, h, r⟩ := r.lst
    simp only [datT] at e
    obtain ⟨ds, e1, rfl⟩ := Option.map_eq_some_iff.mp e
    simp only [Pa.dep] at hn
    obtain ⟨n, rfl⟩ : ∃ m, n = m + 1 := ⟨n - 1, by omega⟩
    exact Pa.deep_lst h (rds_deep r e1 (by omega))
  | .tup xs, v, d, n, r, e, hn => by
    obtain ⟨vs, h0, h, r⟩ := r.tup
    simp only [datT] at e
    obtain ⟨ds, e1, rfl⟩ := Option.map_eq_some_iff.mp e
    simp only [Pa.dep] at hn
    obtain ⟨n, rfl⟩ : ∃ m, n = m + 1 := ⟨n - 1, by omega⟩
    exact Pa.deep_tup h0 h (rds_deep r e1 (by omega))
  | .scr ns, v, d, n, r, e, hn => by
    have h := r.scr
    simp only [datT] at e
    cases e
    simp only [Pa.dep] at hn
    obtain ⟨n, rfl⟩ : ∃ m, n = m + 1 := ⟨n - 1, by omega⟩
    exact Pa.deep_lst h (Pa.mapO_ints g w.M n (by simpa using Pa.ints_map id ns))
  | .ins _ _ _, v, d, n, r, e, _ => by simp only [datT] at e; cases e
  | .dk _ _, v, d, n, r, e, _ => by simp only [datT] at e; cases e
  | .ptr _, v, d, n, r, e, _ => by simp only [datT] at e; cases e
theorem rds_deep : ∀ {ts : List T} {vs : List Val} {ds : List Pa.Dat} {n : Nat}, RWs g B w ts vs → datTs ts = some ds → Pa.deps ds ≤ n → Pa.mapO (Pa.deep g w.M n) vs = some ds
  | [], vs, ds, n, r, e, _ => by
    rw [ws_nil] at r
    subst r; simp only [datTs] at e; cases e; rfl
  | t :: ts, vs, ds, n, r, e, hn => by
    rw [ws_cons] at r
    obtain ⟨u, us, rfl, a, r⟩ := r
    simp only [datTs] at e
    split at e
    · rename_i d ds' e1 e2
      cases e
      simp only [Pa.deps] at hn
      simp only [Pa.mapO, rd_deep (.inl a) e1 (by omega : Pa.dep d ≤ n), rds_deep r e2 (by omega : Pa.deps ds' ≤ n)]
    · cases e
end
def vof : T → Val
  | .bl b => .bl b
  | .int i => .int i
  | .str s => .str s
  | _ => .non
theorem rd_flat {t : T} {v : Val} (r : Rd g B w t v) (h : flatT t = true) : v = vof t ∧ Pa.flat v = true := by
  cases t with
  | non => cases r.non; exact ⟨rfl, rfl⟩
  | bl b => cases r.bl; exact ⟨rfl, rfl⟩
  | int b => cases r.int; exact ⟨rfl, rfl⟩
  | str b => cases r.str; exact ⟨rfl, rfl⟩
  | _ => cases h
theorem rd_scal {x y : T} {v u : Val} (r1 : Rd g B w x v) (r2 : Rd g B w y u) (h : scalT x y = true) : Pa.scalF v u = true ∧ Pa.eqF v u = eqFT x y := by
  cases x <;> cases y <;> simp only [scalT, flatT, Bool.and_true, Bool.and_false, Bool.false_and, Bool.true_and] at h <;> first | cases h | skip
  all_goals
    obtain ⟨e1, _⟩ := rd_flat r1 rfl
    obtain ⟨e2, _⟩ := rd_flat r2 rfl
    rw [e1, e2]
    exact ⟨rfl, rfl⟩
theorem rd_nscal {x y : T} {v u : Val} (r1 : Rd g B w x v) (r2 : Rd g B w y u) (h : scalT x y = false) : Pa.scalF v u = false := by
  have big : ∀ {t : T} {v : Val}, Rd g B w t v → flatT t = false → Pa.flat v = false := fun {t v} r h => by
    cases t with
    | lst xs => obtain ⟨a, vs, rfl, _⟩ := r.lst; rfl
    | tup xs =>
      obtain ⟨vs, h1, h2, _⟩ := r.tup
      cases v with
      | ref a => rfl
      | con a => rfl
      | _ => simp only [Pa.tupOf] at h2; cases h2
    | ins c ns xs => obtain ⟨a, vs, rfl, _⟩ := r.ins; rfl
    | dk ks xs => obtain ⟨a, vs, rfl, _⟩ := r.dk; rfl
    | scr xs =>
      have h2 := r.scr
      cases v with
      | ref a => rfl
      | con a => rfl
      | _ => simp only [Pa.lstOf] at h2; cases h2
    | ptr i =>
      rcases r with r | ⟨a, rfl, r⟩
      · rw [w_ptr] at r
        rw [r.2]; rfl
      · rfl
    | _ => cases h
  cases hx : flatT x with
  | false =>
    have := big r1 hx
    cases v <;> first | cases this | skip
    all_goals cases u <;> rfl
  | true =>
    cases hy : flatT y with
    | false =>
      have := big r2 hy
      cases u <;> first | cases this | skip
      all_goals cases v <;> rfl
    | true =>
      obtain ⟨e1, _⟩ := rd_flat r1 hx
      obtain ⟨e2, _⟩ := rd_flat r2 hy
      cases x <;> first | cases hx | skip
      all_goals
        cases y <;> first | cases hy | skip
        all_goals
          rw [e1, e2]
          first | rfl | (simp [scalT, flatT] at h)
end
def lkpT : List DKey → List T → DKey → Option T
  | k :: ks, x :: xs, j => if k = j then some x else lkpT ks xs j
  | _, _, _ => none
theorem lkp_rp {ρ : Nat → Nat} {n : Nat} {P : Nat → Prop} {M : Mem} : ∀ {ks : List DKey} {xs : List T} {vs : List Val} (k : DKey), Rps g ρ n P M xs vs → (lkpT ks xs k = none ∧ Pa.lkp (ks.zip vs) k = none) ∨ ∃ t v, lkpT ks xs k = some t ∧ Pa.lkp (ks.zip vs) k = some v ∧ Rp g ρ n P M t v
  | [], xs, vs, k, r => .inl ⟨by simp only [lkpT], by simp only [List.zip_nil_left, Pa.lkp]⟩
  | k' :: ks, [], vs, k, r => by
    rw [rps_nil] at r
    subst r
    exact .inl ⟨by simp only [lkpT], by simp only [List.zip_nil_right, Pa.lkp]⟩
  | k' :: ks, x :: xs, vs, k, r => by
    rw [rps_cons] at r
    obtain ⟨u, us, rfl, a, r⟩ := r
    simp only [lkpT, List.zip_cons_cons, Pa.lkp]
    by_cases e : k' = k
    · rw [if_pos e, if_pos e]
      exact .inr ⟨x, u, rfl, rfl, a⟩
    · rw [if_neg e, if_neg e]
      exact lkp_rp k r
def sameF : T → T → Bool
  | .non, .non => true
  | .bl a, .bl b => a == b
  | .int a, .int b => a == b
  | .str a, .str b => a == b
  | _, _ => false
def idT : T → T → Bool
  | .ptr a, .ptr b => a == b
  | _, _ => false
def eqAllT (E : T → T → Bool) : List T → List T → Bool
  | [], [] => true
  | x :: xs, y :: ys => E x y && eqAllT E xs ys
  | _, _ => false
def eqObT (σ : Sto) (E : T → T → Bool) (x y : T) : Bool := match look σ x, look σ y with
  | some (.lst xs), some (.lst ys) => eqAllT E xs ys
  | some (.dk ks xs), some (.dk ls ys) => decide (ks.length = ls.length) && (ks.zip xs).all fun p => (match lkpT ls ys p.1 with
    | some u => E p.2 u
    | none => false)
  | _, _ => false
def eqTT (σ : Sto) : Nat → T → T → Bool
  | 0, _, _ => false
  | n + 1, x, y => sameF x y || (idT x y || eqObT σ (eqTT σ n) x y)
def tEq (neg : Bool) (x y : T) (σ : Sto) : R T := match look σ x, look σ y with
  | some a, some b => if scalT a b = true then .ok (.bl (if neg then !eqFT a b else eqFT a b)) σ else (match datT a, datT b with
    | some d, some e => if Pa.dep d ≤ 60 ∧ Pa.dep e ≤ 60 then .ok (.bl (if neg then !Pa.eqD d e else Pa.eqD d e)) σ else .no
    | _, _ => if neg = false ∧ eqObT σ (eqTT σ 60) x y = true then .ok (.bl true) σ else .no)
  | _, _ => .no
section
variable {g : Cfg} {B : Nat → Prop} {w : Wd}
theorem sameF_ok {x y : T} {v u : Val} (h : sameF x y = true) (rx : Pk g B w x v) (ry : Pk g B w y u) : Pa.flat v = true ∧ v = u := by
  cases x <;> cases y <;> first | (simp [sameF] at h; done) | skip
  · cases rx.non; cases ry.non; exact ⟨rfl, rfl⟩
  · simp [sameF] at h; subst h; cases rx.bl; cases ry.bl; exact ⟨rfl, rfl⟩
  · simp [sameF] at h; subst h; cases rx.int; cases ry.int; exact ⟨rfl, rfl⟩
  · simp [sameF] at h; subst h; cases rx.str; cases ry.str; exact ⟨rfl, rfl⟩
theorem eqAllT_ok {E : T → T → Bool} {F : Val → Val → Bool} (h : ∀ x y v u, E x y = true → RW g B w x v → RW g B w y u → F v u = true) : ∀ {xs ys : List T} {vs us : List Val}, eqAllT E xs ys = true → RWs g B w xs vs → RWs g B w ys us → Pa.eqAll F vs us = true
  | [], [], vs, us, _, r1, r2 => by rw [ws_nil] at r1 r2; subst r1 r2; rfl
  | x :: xs, y :: ys, vs, us, e, r1, r2 => by
    simp only [eqAllT, Bool.and_eq_true] at e
    rw [ws_cons] at r1 r2
    obtain ⟨v, vs, rfl, a, r1⟩ := r1
    obtain ⟨u, us, rfl, b, r2⟩ := r2
    simp only [Pa.eqAll, Bool.and_eq_true]
    exact ⟨h x y v u e.1 a b, eqAllT_ok h e.2 r1 r2⟩
  | [], _ :: _, _, _, e, _, _ => by simp [eqAllT] at e
  | _ :: _, [], _, _, e, _, _ => by simp [eqAllT] at e
theorem eqObT_ok (W : Wf g B w) {E : T → T → Bool} {F : Val → Val → Bool} (h : ∀ x y v u, E x y = true → RW g B w x v → RW g B w y u → F v u = true) {x y : T} {v u : Val} (e : eqObT w.σ E x y = true) (rx : Pk g B w x v) (ry : Pk g B w y u) : Pa.eqObj g w.M F v u = true := by
  unfold eqObT at e
  split at e
  · rename_i xs ys h1 h2
    obtain ⟨a, vs, rfl, m1, l1, r1⟩ := (rx.look W h1).lst
    obtain ⟨b, us, rfl, m2, l2, r2⟩ := (ry.look W h2).lst
    simp only [Pa.eqObj, l1, l2, eqAllT_ok h e r1 r2, Bool.true_or]
  · rename_i ks xs ls ys h1 h2
    obtain ⟨a, vs, rfl, m1, l1, r1⟩ := (rx.look W h1).dk
    obtain ⟨b, us, rfl, m2, l2, r2⟩ := (ry.look W h2).dk
    simp only [Bool.and_eq_true, decide_eq_true_eq, List.all_eq_true] at e
    have l3 := r1.len
    have l4 := r2.len
    have key : (ks.zip vs).all (fun p => (match Pa.lkp (ls.zip us) p.1 with
      | some u => F p.2 u
      | none => false)) = true := by
      rw [List.all_eq_true]
      intro p hp
      obtain ⟨i, hi⟩ := List.getElem?_of_mem hp
      obtain ⟨k, v⟩ := p
      rw [List.getElem?_zip_eq_some] at hi
      obtain ⟨t, ht, rt⟩ := r1.getv hi.2
      have z := e.2 (k, t) (List.mem_of_getElem? (by rw [List.getElem?_zip_eq_some]; exact ⟨hi.1, ht⟩))
      split at z
      · rename_i t2 ht2
        rcases lkp_rp k r2 with ⟨q0, _⟩ | ⟨t3, u2, q0, q1, q2⟩
        · simp only at ht2
          rw [q0] at ht2
          cases ht2
        · simp only at ht2 ⊢
          rw [q0] at ht2
          cases ht2
          rw [q1]
          exact h _ _ _ _ z rt q2
      · cases z
    have hl : (ks.zip vs).length = (ls.zip us).length := by
      rw [List.length_zip, List.length_zip]
      omega
    unfold Pa.eqObj
    rw [Bool.or_eq_true]
    right
    simp only [m1, m2, hl, decide_true, Bool.true_and]
    exact key
  · cases e
theorem eqTT_ok (W : Wf g B w) : ∀ (n : Nat) (x y : T) (v u : Val), eqTT w.σ n x y = true → RW g B w x v → RW g B w y u → Pa.eqMem g w.M n v u = true
  | 0, x, y, v, u, e, _, _ => by simp [eqTT] at e
  | n + 1, x, y, v, u, e, rx, ry => by
    simp only [eqTT, Bool.or_eq_true] at e
    simp only [Pa.eqMem, Bool.or_eq_true, Bool.and_eq_true, decide_eq_true_eq]
    rcases e with e | e | e
    · exact .inl (sameF_ok e (.inl rx) (.inl ry))
    · cases x <;> cases y <;> first | (simp [idT] at e; done) | skip
      simp [idT] at e
      subst e
      rw [w_ptr] at rx ry
      rw [rx.2, ry.2]
      exact .inr (.inl (by simp [Pa.idV]))
    · exact .inr (.inr (eqObT_ok W (fun x y v u => eqTT_ok W n x y v u) e (.inl rx) (.inl ry)))
end
section
variable {g : Cfg}
theorem op_eq : OpF g (Pa.oEqX g) (tEq false) := fun B w x y v u t σ' W h1 h2 e => by
  unfold tEq at e
  split at e
  · rename_i a b e1 e2
    have r1 := h1.look W e1
    have r2 := h2.look W e2
    split at e
    · rename_i hs
      cases e
      obtain ⟨z1, z2⟩ := rd_scal r1 r2 hs
      have z : Pa.oEq g v u w.M = .ok (.bl (eqFT a b)) w.M := by simp only [Pa.oEq, z1, if_true, z2]
      rw [Pa.eqX_of z]
      exact obl W _
    · rename_i hs
      split at e
      · rename_i d e' q1 q2
        split at e
        · rename_i hd
          cases e
          have z := rd_nscal r1 r2 (Bool.not_eq_true _ ▸ hs)
          have z2 : Pa.oEq g v u w.M = .ok (.bl (Pa.eqD d e')) w.M := by simp only [Pa.oEq, z, Bool.false_eq_true, if_false, Pa.oEqD, rd_deep r1 q1 hd.1, rd_deep r2 q2 hd.2]
          rw [Pa.eqX_of z2]
          exact obl W _
        · cases e
      · split at e
        · rename_i hc
          cases e
          rw [Pa.eqX_true (eqObT_ok W (fun x y v u => eqTT_ok W 60 x y v u) hc.2 h1 h2)]
          exact obl W _
        · cases e
  · cases e
theorem op_ne : OpF g (Pa.oNe g) (tEq true) := fun B w x y v u t σ' W h1 h2 e => by
  unfold tEq at e
  split at e
  · rename_i a b e1 e2
    have r1 := h1.look W e1
    have r2 := h2.look W e2
    split at e
    · rename_i hs
      cases e
      obtain ⟨z1, z2⟩ := rd_scal r1 r2 hs
      simp only [Pa.oNe, z1, if_true, z2]
      exact obl W _
    · rename_i hs
      split at e
      · rename_i d e' q1 q2
        split at e
        · rename_i hd
          cases e
          have z := rd_nscal r1 r2 (Bool.not_eq_true _ ▸ hs)
          simp only [Pa.oNe, z, if_false, Pa.oEqD, rd_deep r1 q1 hd.1, rd_deep r2 q2 hd.2]
          exact obl W _
        · cases e
      · simp at e
  · cases e
end
def isNon : T → Bool
  | .non => true
  | _ => false
def tIs (neg : Bool) (x y : T) (σ : Sto) : R T := match y with
  | .non => .ok (.bl (if neg then !isNon x else isNon x)) σ
  | _ => .no
section
variable {g : Cfg} {B : Nat → Prop} {w : Wd}
theorem Pk.isNon {x : T} {v : Val} (h : Pk g B w x v) : decide (v = .non) = isNon x := by
  cases x with
  | non => cases h.non; rfl
  | bl b => cases h.bl; rfl
  | int b => cases h.int; rfl
  | str b => cases h.str; rfl
  | lst xs => obtain ⟨a, vs, rfl, _⟩ := (h.rd fun _ z => by cases z).lst; rfl
  | tup xs =>
    obtain ⟨vs, h1, h2, _⟩ := (h.rd fun _ z => by cases z).tup
    cases v with
    | ref a => rfl
    | con a => rfl
    | _ => simp only [Pa.tupOf] at h2; cases h2
  | ins c ns xs => obtain ⟨a, vs, rfl, _⟩ := (h.rd fun _ z => by cases z).ins; rfl
  | dk ks xs => obtain ⟨a, vs, rfl, _⟩ := (h.rd fun _ z => by cases z).dk; rfl
  | scr xs =>
    have h2 := (h.rd fun _ z => by cases z).scr
    cases v with
    | ref a => rfl
    | con a => rfl
    | _ => simp only [Pa.lstOf] at h2; cases h2
  | ptr i =>
    rcases h with h | ⟨a, rfl, h, _⟩
    · rw [w_ptr] at h
      rw [h.2]; rfl
    · rfl
theorem op_is : OpF g (Pa.oIs false) (tIs false) := fun B w x y v u t σ' W h1 h2 e => by
  cases y <;> simp only [tIs] at e <;> first | cases e | skip
  cases h2.non
  simp only [Pa.oIs, h1.isNon]
  exact obl W _
theorem op_isn : OpF g (Pa.oIs true) (tIs true) := fun B w x y v u t σ' W h1 h2 e => by
  cases y <;> simp only [tIs] at e <;> first | cases e | skip
  cases h2.non
  simp only [Pa.oIs, h1.isNon]
  exact obl W _
end
/-! ### sequences, dicts -/
def seqT (t : T) : Option (List T) := match t with
  | .lst xs => some xs
  | .tup xs => some xs
  | .scr ns => some (ns.map .int)
  | _ => none
def keyT : T → Option DKey
  | .int i => some (.inl i)
  | .str s => some (.inr s)
  | _ => none
def getT : List String → List T → String → Option T
  | k :: ks, x :: xs, j => if k = j then some x else getT ks xs j
  | _, _, _ => none
section
variable {g : Cfg} {B : Nat → Prop} {w : Wd}
theorem rws_ints : ∀ ns : List Int, RWs g B w (ns.map .int) (ns.map .int)
  | [] => Rps.nil
  | n :: ns => Rps.cons (by rw [rp_int]) (rws_ints ns)
theorem Rd.seq {t : T} {v : Val} {xs : List T} (h : Rd g B w t v) (e : seqT t = some xs) : ∃ vs, Pa.seqOf g w.M v = some vs ∧ RWs g B w xs vs := by
  cases t with
  | lst ys =>
    cases e
    obtain ⟨a, vs, _, _, z, r⟩ := h.lst
    exact ⟨vs, by simp only [Pa.seqOf, z], r⟩
  | tup ys =>
    cases e
    obtain ⟨vs, z1, z, r⟩ := h.tup
    exact ⟨vs, by simp only [Pa.seqOf, z1, z], r⟩
  | scr ns =>
    cases e
    have z := h.scr
    exact ⟨_, by simp only [Pa.seqOf, z], rws_ints ns⟩
  | _ => cases e
theorem Rd.nseq_dk {ks : List DKey} {xs : List T} {v : Val} (h : Rd g B w (.dk ks xs) v) : ∃ a vs, v = .ref a ∧ Pa.seqOf g w.M v = none ∧ Pa.dkOf w.M a = some (ks.zip vs) ∧ ks.length = xs.length ∧ RWs g B w xs vs := by
  obtain ⟨a, vs, rfl, m, l, r⟩ := h.dk
  exact ⟨a, vs, rfl, by simp only [Pa.seqOf, (Pa.dkOf_nl (g := g) m).1, (Pa.dkOf_nl (g := g) m).2], m, l, r⟩
theorem get_rp {ρ : Nat → Nat} {n : Nat} {P : Nat → Prop} {M : Mem} : ∀ {ks : List String} {xs : List T} {vs : List Val} (k : String), Rps g ρ n P M xs vs → (getT ks xs k = none ∧ Pa.getf (ks.zip vs) k = none) ∨ ∃ t v, getT ks xs k = some t ∧ Pa.getf (ks.zip vs) k = some v ∧ Rp g ρ n P M t v
  | [], xs, vs, k, r => .inl ⟨by simp only [getT], by simp only [List.zip_nil_left, Pa.getf]⟩
  | k' :: ks, [], vs, k, r => by
    rw [rps_nil] at r
    subst r
    exact .inl ⟨by simp only [getT], by simp only [List.zip_nil_right, Pa.getf]⟩
  | k' :: ks, x :: xs, vs, k, r => by
    rw [rps_cons] at r
    obtain ⟨u, us, rfl, a, r⟩ := r
    simp only [getT, List.zip_cons_cons, Pa.getf]
    by_cases e : k' = k
    · rw [if_pos e, if_pos e]
      exact .inr ⟨x, u, rfl, rfl, a⟩
    · rw [if_neg e, if_neg e]
      exact get_rp k r
theorem keyT_ok {x : T} {v : Val} {k : DKey} (h : Pk g B w x v) (e : keyT x = some k) : Pa.keyOf v = some k := by
  cases x with
  | int i => cases e; cases h.int; rfl
  | str i => cases e; cases h.str; rfl
  | _ => cases e
theorem dgo_dk {a : Nat} {kvs : List (DKey × Val)} {v : Val} {k : DKey} (m : Pa.dkOf w.M a = some kvs) (e : Pa.keyOf v = some k) : Pa.dgo w.M (.ref a) v = some (Pa.lkp kvs k) := by
  simp only [Pa.dgo, m, e, Option.map_some]
theorem atI_rp {xs : List T} {vs : List Val} {i : Int} {t : T} (r : RWs g B w xs vs) (e : L2.atI xs i = some t) : ∃ v, L2.atI vs i = some v ∧ RW g B w t v := by
  unfold L2.atI at e ⊢
  rw [r.len]
  cases h : L2.ixN xs.length i with
  | none => rw [h] at e; cases e
  | some j =>
    rw [h] at e
    exact r.get e
end
def tIn (neg : Bool) (x y : T) (σ : Sto) : R T := match look σ y with
  | some (.str s) => (match x with
    | .str [c] => .ok (.bl (if neg then !decide (c ∈ s) else decide (c ∈ s))) σ
    | _ => .no)
  | some (.dk ks xs) => (match keyT x with
    | some k => .ok (.bl (if neg then !(lkpT ks xs k).isSome else (lkpT ks xs k).isSome)) σ
    | none => .no)
  | some t => (match seqT t with
    | some xs => if flatT x = true ∧ xs.all flatT = true then .ok (.bl (if neg then !(xs.any fun z => eqFT z x) else xs.any fun z => eqFT z x)) σ else .no
    | none => .no)
  | none => .no
section
variable {g : Cfg} {B : Nat → Prop} {w : Wd}
theorem rd_eqF {x y : T} {v u : Val} (r1 : Rd g B w x v) (r2 : Rd g B w y u) (h1 : flatT x = true) (h2 : flatT y = true) : Pa.eqF v u = eqFT x y := by
  obtain ⟨e1, _⟩ := rd_flat r1 h1
  obtain ⟨e2, _⟩ := rd_flat r2 h2
  rw [e1, e2]
  cases x <;> first | cases h1 | skip
  all_goals
    cases y <;> first | cases h2 | skip
    all_goals rfl
theorem any_flat {y : T} {u : Val} (r2 : Rd g B w y u) (h2 : flatT y = true) : ∀ {xs : List T} {vs : List Val}, RWs g B w xs vs → xs.all flatT = true → vs.all Pa.flat = true ∧ (vs.any fun z => Pa.eqF z u) = xs.any fun z => eqFT z y
  | [], vs, r, _ => by
    rw [ws_nil] at r
    subst r; exact ⟨rfl, rfl⟩
  | x :: xs, vs, r, h => by
    rw [ws_cons] at r
    obtain ⟨v, us, rfl, a, r⟩ := r
    rw [List.all_cons, Bool.and_eq_true] at h
    obtain ⟨i1, i2⟩ := any_flat r2 h2 r h.2
    rw [List.all_cons, List.any_cons, List.any_cons, i1, i2, rd_eqF (.inl a) r2 h.1 h2, (rd_flat (.inl a) h.1).2]
    exact ⟨rfl, rfl⟩
theorem lIn_ok {neg : Bool} {x t : T} {v u : Val} {xs : List T} (r : Rd g B w t u) (rx : Pk g B w x v) (hs : seqT t = some xs) (h1 : flatT x = true) (h2 : xs.all flatT = true) : Pa.lIn g neg v u w.M = .ok (.bl (if neg then !(xs.any fun z => eqFT z x) else xs.any fun z => eqFT z x)) w.M := by
  obtain ⟨vs, e1, r1⟩ := r.seq hs
  have rx' : Rd g B w x v := rx.rd fun i z => by subst z; cases h1
  obtain ⟨z1, z2⟩ := any_flat rx' h1 r1 h2
  simp only [Pa.lIn, e1, (rd_flat rx' h1).2, z1, and_self, if_true, z2]
theorem op_in {neg : Bool} : OpF g (Pa.oIn g neg) (tIn neg) := fun B w x y v u t σ' W h1 h2 e => by
  unfold tIn at e
  split at e
  · rename_i s e2
    cases (h2.look W e2).str
    split at e
    · rename_i c
      cases e
      cases h1.str
      simp only [Pa.oIn, Pa.sIn]
      exact obl W _
    · cases e
  · rename_i ks xs e2
    obtain ⟨a, vs, rfl, ns, m, l, r⟩ := (h2.look W e2).nseq_dk
    split at e
    · rename_i k hk
      cases e
      have z := keyT_ok h1 hk
      have e3 : Pa.oIn g neg v (.ref a) w.M = .ok (.bl (if neg then !(lkpT ks xs k).isSome else (lkpT ks xs k).isSome)) w.M := by
        show Pa.lIn g neg v (.ref a) w.M = _
        simp only [Pa.lIn, ns, dgo_dk m z]
        rcases lkp_rp (ks := ks) k r with ⟨q1, q2⟩ | ⟨t', v', q1, q2, _⟩
        · rw [q1, q2]
          cases neg <;> rfl
        · rw [q1, q2]
          cases neg <;> rfl
      rw [e3]
      exact obl W _
    · cases e
  · rename_i t' n1 n2 e2
    split at e
    · rename_i xs hs
      split at e
      · rename_i hf
        cases e
        have rd := h2.look W e2
        have ns : ∀ s, u ≠ .str s := fun s z => by
          subst z
          cases t' with
          | lst ys => obtain ⟨a, vs, z, _⟩ := rd.lst; cases z
          | tup ys => obtain ⟨vs, _, z, _⟩ := rd.tup; cases z
          | scr ys => have z := rd.scr; cases z
          | _ => cases hs
        have e3 : Pa.oIn g neg v u w.M = Pa.lIn g neg v u w.M := by
          cases u with
          | str s => exact absurd rfl (ns s)
          | _ => rfl
        rw [e3, lIn_ok rd h1 hs hf.1 hf.2]
        exact obl W _
      · cases e
    · cases e
  · cases e
end
def tIx (x y : T) (σ : Sto) : R T := match look σ x with
  | some (.str s) => (match y with
    | .int i => if s.length ≤ 1000000 then (match L2.atI s i with
      | some c => .ok (.str [c]) σ
      | none => .no) else .no
    | _ => .no)
  | some (.dk ks xs) => (match keyT y with
    | some k => R.of (lkpT ks xs k) σ
    | none => .no)
  | some t => (match seqT t, y with
    | some xs, .int i => R.of (L2.atI xs i) σ
    | _, _ => .no)
  | none => .no
section
variable {g : Cfg} {B : Nat → Prop} {w : Wd}
theorem op_ix : OpE g (Pa.oIx g) tIx := fun B w x y v u t σ' W h1 h2 e => by
  unfold tIx at e
  split at e
  · rename_i s e2
    cases (h1.look W e2).str
    split at e
    · rename_i i
      cases h2.int
      split at e
      · rename_i hl
        split at e
        · rename_i c hc
          cases e
          simp only [Pa.oIx, Pa.sIx, hl, if_true, hc]
          exact (ostr W _).out W
        · cases e
      · cases e
    · cases e
  · rename_i ks xs e2
    obtain ⟨a, vs, rfl, ns, m, l, r⟩ := (h1.look W e2).nseq_dk
    split at e
    · rename_i k hk
      obtain ⟨hk2, rfl⟩ := R.of_eq e
      have z := keyT_ok h2 hk
      rcases lkp_rp (ks := ks) k r with ⟨q1, q2⟩ | ⟨t', v', q1, q2, q3⟩
      · rw [q1] at hk2; cases hk2
      · rw [q1] at hk2; cases hk2
        have e3 : Pa.oIx g (.ref a) u w.M = .ok v' w.M := by
          show Pa.qIx g (.ref a) u w.M = _
          simp only [Pa.qIx, ns, dgo_dk m z, q2]
        rw [e3]
        exact Out.stay W q3
    · cases e
  · rename_i t' n1 n2 e2
    split at e
    · rename_i xs i hs
      obtain ⟨hk2, rfl⟩ := R.of_eq e
      cases h2.int
      have rd := h1.look W e2
      obtain ⟨vs, e1, r1⟩ := rd.seq hs
      obtain ⟨v', q1, q2⟩ := atI_rp r1 hk2
      have ns : ∀ s, v ≠ .str s := fun s z => by
        subst z
        cases t' with
        | lst ys => obtain ⟨a, vs, z, _⟩ := rd.lst; cases z
        | tup ys => obtain ⟨vs, _, z, _⟩ := rd.tup; cases z
        | scr ys => have z := rd.scr; cases z
        | _ => cases hs
      have e3 : Pa.oIx g v (.int i) w.M = .ok v' w.M := by
        have : Pa.oIx g v (.int i) w.M = Pa.qIx g v (.int i) w.M := by
          cases v with
          | str s => exact absurd rfl (ns s)
          | _ => rfl
        rw [this]
        simp only [Pa.qIx, e1, q1, Pa.R.of]
      rw [e3]
      exact Out.stay W q2
    · cases e
  · cases e
end
end Tr

/-! Trees: more expressions, calls. -/
namespace Tr
open Pa (Val Ob Mem Cfg DKey Loc)
section
variable {g : Cfg} {O : List Nat} {m0 : Nat} {B : Nat → Prop} {w : Wd} {E : Env} {L : Loc} {α : Type} {K : Wd → Pa.R α → Prop}
theorem XP.then {d : Pa.D} {e : D} (h : XP g O d e) (hK : ∀ w w1 r, Gx w w1 → K w1 r → K w r) (S : St g m0 B w O E L) {t : T} {σ1 : Sto} (e1 : e E w.σ = .ok t σ1) {f : Val → Mem → Pa.R α}
    (k : ∀ v w1, w1.σ = σ1 → Gx w w1 → St g m0 B w1 O E L → Pk g (BO B L O) w1 t v → K w1 (f v w1.M)) : K w ((d L w.M).bind f) :=
  (h _ _ _ _ _ _ _ S e1).bind (K := K w) fun v w1 hs G1 W1 P1 => hK _ _ _ G1 (k v w1 hs G1 (S.go G1 W1) P1)
theorem XE.then {d : Pa.D} {e : D} (h : XE g O d e) (hK : ∀ w w1 r, Gx w w1 → K w1 r → K w r) (S : St g m0 B w O E L) {t : T} {σ1 : Sto} (e1 : e E w.σ = .ok t σ1) {f : Val → Mem → Pa.R α}
    (k : ∀ v w1, w1.σ = σ1 → Gx w w1 → St g m0 B w1 O E L → RW g (BO B L O) w1 t v → K w1 (f v w1.M)) : K w ((d L w.M).bind f) :=
  (h _ _ _ _ _ _ _ S e1).bind (K := K w) fun v w1 hs G1 W1 P1 => hK _ _ _ G1 (k v w1 hs G1 (S.go G1 W1) P1)
theorem XA.then {d : Pa.DA} {e : DA} (h : XA g O d e) (hK : ∀ w w1 r, Gx w w1 → K w1 r → K w r) (S : St g m0 B w O E L) {t : List T} {σ1 : Sto} (e1 : e E w.σ = .ok t σ1) {f : List Val → Mem → Pa.R α}
    (k : ∀ v w1, w1.σ = σ1 → Gx w w1 → St g m0 B w1 O E L → RWs g (BO B L O) w1 t v → K w1 (f v w1.M)) : K w ((d L w.M).bind f) :=
  (h _ _ _ _ _ _ _ S e1).bind (K := K w) fun v w1 hs G1 W1 P1 => hK _ _ _ G1 (k v w1 hs G1 (S.go G1 W1) P1)
theorem XQ.then {d : Pa.DA} {e : DA} (h : XQ g O d e) (hK : ∀ w w1 r, Gx w w1 → K w1 r → K w r) (S : St g m0 B w O E L) {t : List T} {σ1 : Sto} (e1 : e E w.σ = .ok t σ1) {f : List Val → Mem → Pa.R α}
    (k : ∀ v w1, w1.σ = σ1 → Gx w w1 → St g m0 B w1 O E L → Pks g (BO B L O) w1 t v → K w1 (f v w1.M)) : K w ((d L w.M).bind f) :=
  (h _ _ _ _ _ _ _ S e1).bind (K := K w) fun v w1 hs G1 W1 P1 => hK _ _ _ G1 (k v w1 hs G1 (S.go G1 W1) P1)
theorem goO {g : Cfg} {B : Nat → Prop} {t : T} {σ' : Sto} (w w1 : Wd) (r : Pa.R Val) (a : Gx w w1) (h : Out g B w1 r t σ') : Out g B w r t σ' := h.go a
theorem goF {g : Cfg} {B : Nat → Prop} {t : T} {σ' : Sto} (w w1 : Wd) (r : Pa.R Val) (a : Gx w w1) (h : OutF g B w1 r t σ') : OutF g B w r t σ' := h.go a
theorem goA {g : Cfg} {B : Nat → Prop} {t : List T} {σ' : Sto} (w w1 : Wd) (r : Pa.R (List Val)) (a : Gx w w1) (h : OutA g B w1 r t σ') : OutA g B w r t σ' := by
  obtain ⟨v, w', x, b, c, d, e⟩ := h
  exact ⟨v, w', x, b, a.trans c, d, e⟩
theorem goQ {g : Cfg} {B : Nat → Prop} {t : List T} {σ' : Sto} (w w1 : Wd) (r : Pa.R (List Val)) (a : Gx w w1) (h : OutAP g B w1 r t σ') : OutAP g B w r t σ' := by
  obtain ⟨v, w', x, b, c, d, e⟩ := h
  exact ⟨v, w', x, b, a.trans c, d, e⟩
end
/-! ### one operand, truths -/
def eNeg (a : D) : D := fun E σ => (a E σ).bind fun x σ1 => match x with
  | .int i => .ok (.int (-i)) σ1
  | _ => .no
def eNot (a : D) : D := fun E σ => (a E σ).bind fun x σ1 => match x with
  | .bl k => .ok (.bl (!k)) σ1
  | _ => .no
def eAnd (a b : D) : D := fun E σ => (a E σ).bind fun x σ1 => match x with
  | .bl true => b E σ1
  | .bl false => .ok (.bl false) σ1
  | _ => .no
def eOr (a b : D) : D := fun E σ => (a E σ).bind fun x σ1 => match x with
  | .bl true => .ok (.bl true) σ1
  | .bl false => b E σ1
  | _ => .no
def eIf (c a b : D) : D := fun E σ => (c E σ).bind fun x σ1 => match x with
  | .bl true => a E σ1
  | .bl false => b E σ1
  | _ => .no
def eCh (f f' : T → T → Sto → R T) (a b c : D) : D := fun E σ => (a E σ).bind fun x σ1 => (b E σ1).bind fun y σ2 => (f x y σ2).bind fun z σ3 => match z with
  | .bl true => (c E σ3).bind fun w σ4 => f' y w σ4
  | .bl false => .ok (.bl false) σ3
  | _ => .no
def truT (σ : Sto) (x : T) : Option Bool := match look σ x with
  | some .non => some false
  | some (.bl b) => some b
  | some (.int i) => some (i != 0)
  | some (.str s) => if s.length ≤ 1000000 then some (!s.isEmpty) else none
  | some (.lst xs) => some (!xs.isEmpty)
  | _ => none
def eTru (a : D) : D := fun E σ => (a E σ).bind fun x σ1 => match truT σ1 x with
  | some b => .ok (.bl b) σ1
  | none => .no
section
variable {g : Cfg} {O : List Nat} {a b c : Pa.D} {ea eb ec : D}
theorem xneg (ha : XP g O a ea) : XF g O (Pa.dNeg a) (eNeg ea) := fun m0 B w E L t σ' S e => by
  obtain ⟨x, σ1, e1, e⟩ := R.bind_eq e
  refine ha.then (K := fun w r => OutF g (BO B L O) w r t σ') goF S e1 fun v w1 hs G1 S1 P1 => ?_
  subst hs
  cases x <;> first | cases e | skip
  cases P1.int
  exact oint S1.wf _
theorem xnot (ha : XP g O a ea) : XF g O (Pa.dNot a) (eNot ea) := fun m0 B w E L t σ' S e => by
  obtain ⟨x, σ1, e1, e⟩ := R.bind_eq e
  refine ha.then (K := fun w r => OutF g (BO B L O) w r t σ') goF S e1 fun v w1 hs G1 S1 P1 => ?_
  subst hs
  cases x <;> first | cases e | skip
  cases P1.bl
  exact obl S1.wf _
theorem xand (ha : XP g O a ea) (hb : XE g O b eb) : XE g O (Pa.dAnd a b) (eAnd ea eb) := fun m0 B w E L t σ' S e => by
  obtain ⟨x, σ1, e1, e⟩ := R.bind_eq e
  refine ha.then (K := fun w r => Out g (BO B L O) w r t σ') goO S e1 fun v w1 hs G1 S1 P1 => ?_
  subst hs
  cases x with
  | bl k =>
    cases P1.bl
    cases k
    · cases e
      exact (obl S1.wf _).out S1.wf
    · exact hb _ _ _ _ _ _ _ S1 e
  | _ => cases e
theorem xor (ha : XP g O a ea) (hb : XE g O b eb) : XE g O (Pa.dOr a b) (eOr ea eb) := fun m0 B w E L t σ' S e => by
  obtain ⟨x, σ1, e1, e⟩ := R.bind_eq e
  refine ha.then (K := fun w r => Out g (BO B L O) w r t σ') goO S e1 fun v w1 hs G1 S1 P1 => ?_
  subst hs
  cases x with
  | bl k =>
    cases P1.bl
    cases k
    · exact hb _ _ _ _ _ _ _ S1 e
    · cases e
      exact (obl S1.wf _).out S1.wf
  | _ => cases e
theorem xif (hc : XP g O c ec) (ha : XE g O a ea) (hb : XE g O b eb) : XE g O (Pa.dIf c a b) (eIf ec ea eb) := fun m0 B w E L t σ' S e => by
  obtain ⟨x, σ1, e1, e⟩ := R.bind_eq e
  refine hc.then (K := fun w r => Out g (BO B L O) w r t σ') goO S e1 fun v w1 hs G1 S1 P1 => ?_
  subst hs
  cases x with
  | bl k =>
    cases P1.bl
    cases k
    · exact hb _ _ _ _ _ _ _ S1 e
    · exact ha _ _ _ _ _ _ _ S1 e
  | _ => cases e
theorem xiff (hc : XP g O c ec) (ha : XF g O a ea) (hb : XF g O b eb) : XF g O (Pa.dIf c a b) (eIf ec ea eb) := fun m0 B w E L t σ' S e => by
  obtain ⟨x, σ1, e1, e⟩ := R.bind_eq e
  refine hc.then (K := fun w r => OutF g (BO B L O) w r t σ') goF S e1 fun v w1 hs G1 S1 P1 => ?_
  subst hs
  cases x with
  | bl k =>
    cases P1.bl
    cases k
    · exact hb _ _ _ _ _ _ _ S1 e
    · exact ha _ _ _ _ _ _ _ S1 e
  | _ => cases e
theorem xtru (ha : XP g O a ea) : XF g O (Pa.dTru a) (eTru ea) := fun m0 B w E L t σ' S e => by
  obtain ⟨x, σ1, e1, e⟩ := R.bind_eq e
  refine ha.then (K := fun w r => OutF g (BO B L O) w r t σ') goF S e1 fun v w1 hs G1 S1 P1 => ?_
  subst hs
  split at e
  · rename_i k hk
    cases e
    have z : Pa.truOf w1.M v = some k := by
      unfold truT at hk
      split at hk
      · rename_i h; cases (P1.look S1.wf h).non; exact hk
      · rename_i h; cases (P1.look S1.wf h).bl; exact hk
      · rename_i h; cases (P1.look S1.wf h).int; exact hk
      · rename_i h; cases (P1.look S1.wf h).str; exact hk
      · rename_i xs h
        obtain ⟨x, vs, rfl, m, _, r⟩ := (P1.look S1.wf h).lst
        cases hk
        simp only [Pa.truOf, m]
        have := r.len
        cases xs <;> cases vs <;> first | rfl | (simp at this)
      · cases hk
    simp only [z]
    exact obl S1.wf _
  · cases e
theorem xch {f f' : Val → Val → Mem → Pa.R Val} {p p' : T → T → Sto → R T} (hop : OpF g f p) (hop' : OpF g f' p') (ha : XP g O a ea) (hb : XP g O b eb) (hc : XP g O c ec) : XE g O (Pa.dCh f f' a b c) (eCh p p' ea eb ec) := fun m0 B w E L t σ' S e => by
  obtain ⟨x, σ1, e1, e⟩ := R.bind_eq e
  obtain ⟨y, σ2, e2, e⟩ := R.bind_eq e
  obtain ⟨z, σ3, e3, e⟩ := R.bind_eq e
  refine ha.then (K := fun w r => Out g (BO B L O) w r t σ') goO S e1 fun v w1 hs G1 S1 P1 => ?_
  subst hs
  refine hb.then (K := fun w r => Out g (BO B L O) w r t σ') goO S1 e2 fun u w2 hs G2 S2 P2 => ?_
  subst hs
  obtain ⟨q, w3, hs, e4, G3, W3, F3⟩ := hop _ _ _ _ _ _ _ _ S2.wf (P1.goB G2) P2 e3
  subst hs
  rw [e4]
  have S3 := S2.go G3 W3
  have R3 := F3.rp S2.wf.bB
  refine Out.go ?_ G3
  cases z with
  | bl k =>
    rw [w_bl] at R3
    subst R3
    cases k
    · cases e
      exact (obl W3 _).out W3
    · obtain ⟨r, σ4, e5, e⟩ := R.bind_eq e
      show Out g _ w3 ((c L w3.M).bind _) _ _
      refine hc.then (K := fun w r => Out g (BO B L O) w r t σ') goO S3 e5 fun s w4 hs G4 S4 P4 => ?_
      subst hs
      exact (hop' _ _ _ _ _ _ _ _ S4.wf ((P2.goB G3).goB G4) P4 e).out S4.wf
  | _ => cases e
end
/-! ### lists of arguments, displays -/
def aNil : DA := fun _ σ => .ok [] σ
def aCons (d : D) (ds : DA) : DA := fun E σ => (d E σ).bind fun v σ1 => (ds E σ1).bind fun vs σ2 => .ok (v :: vs) σ2
def eTup (ds : DA) : D := fun E σ => (ds E σ).bind fun vs σ1 => if vs.length ≤ 1000 then .ok (.tup vs) σ1 else .no
def eLst (ds : DA) : D := fun E σ => (ds E σ).bind fun vs σ1 => if vs.length ≤ 1000 then .ok (.lst vs) σ1 else .no
def eDk : D := fun _ σ => .ok (.dk [] []) σ
section
variable {g : Cfg} {O : List Nat} {a b c : Pa.D} {ea eb ec : D} {ds : Pa.DA} {es : DA}
theorem xa_nil : XA g O Pa.aNil aNil := fun m0 B w E L t σ' S e => by
  cases e
  exact ⟨[], w, rfl, rfl, .refl, S.wf, Rps.nil⟩
theorem xq_nil : XQ g O Pa.aNil aNil := xa_nil.q
theorem xa_cons (ha : XE g O a ea) (hs : XA g O ds es) : XA g O (Pa.aCons a ds) (aCons ea es) := fun m0 B w E L t σ' S e => by
  obtain ⟨x, σ1, e1, e⟩ := R.bind_eq e
  obtain ⟨y, σ2, e2, e⟩ := R.bind_eq e
  cases e
  refine ha.then (K := fun w r => OutA g (BO B L O) w r _ σ') goA S e1 fun v w1 hs1 G1 S1 P1 => ?_
  subst hs1
  refine hs.then (K := fun w r => OutA g (BO B L O) w r _ σ') goA S1 e2 fun u w2 hs2 G2 S2 P2 => ?_
  subst hs2
  exact ⟨_, w2, rfl, rfl, .refl, S2.wf, Rps.cons (P1.goB G2) P2⟩
theorem xq_cons (ha : XP g O a ea) (hs : XQ g O ds es) : XQ g O (Pa.aCons a ds) (aCons ea es) := fun m0 B w E L t σ' S e => by
  obtain ⟨x, σ1, e1, e⟩ := R.bind_eq e
  obtain ⟨y, σ2, e2, e⟩ := R.bind_eq e
  cases e
  refine ha.then (K := fun w r => OutAP g (BO B L O) w r _ σ') goQ S e1 fun v w1 hs1 G1 S1 P1 => ?_
  subst hs1
  refine hs.then (K := fun w r => OutAP g (BO B L O) w r _ σ') goQ S1 e2 fun u w2 hs2 G2 S2 P2 => ?_
  subst hs2
  exact ⟨_, w2, rfl, rfl, .refl, S2.wf, .cons (P1.goB G2) P2⟩
theorem xtup (hs : XA g O ds es) : XE g O (Pa.dTup ds) (eTup es) := fun m0 B w E L t σ' S e => by
  obtain ⟨x, σ1, e1, e⟩ := R.bind_eq e
  refine hs.then (K := fun w r => Out g (BO B L O) w r t σ') goO S e1 fun v w1 hs G1 S1 P1 => ?_
  subst hs
  split at e
  · rename_i hl
    cases e
    rw [← P1.len] at hl
    simp only [hl, if_true]
    exact Out.tup S1.wf P1
  · cases e
theorem xlst (hs : XA g O ds es) : XF g O (Pa.dLst ds) (eLst es) := fun m0 B w E L t σ' S e => by
  obtain ⟨x, σ1, e1, e⟩ := R.bind_eq e
  refine hs.then (K := fun w r => OutF g (BO B L O) w r t σ') goF S e1 fun v w1 hs G1 S1 P1 => ?_
  subst hs
  split at e
  · rename_i hl
    cases e
    rw [← P1.len] at hl
    simp only [hl, if_true]
    exact OutF.lst S1.wf P1
  · cases e
theorem xdk : XF g O Pa.dDk eDk := fun m0 B w E L t σ' S e => by
  cases e
  exact OutF.dk (ks := []) (xs := []) (vs := []) S.wf rfl Rps.nil
end
/-! ### parts of lists -/
abbrev DO := Env → Sto → R (Option Int)
def oNone : DO := fun _ σ => .ok none σ
def oSome (d : D) : DO := fun E σ => (d E σ).bind fun v σ1 => match v with
  | .int i => .ok (some i) σ1
  | _ => .no
def XO (g : Cfg) (O : List Nat) (d : Pa.DO) (e : DO) : Prop := ∀ m0 B w E L t σ', St g m0 B w O E L → e E w.σ = .ok t σ' → ∃ w', w'.σ = σ' ∧ d L w.M = .ok t w'.M ∧ Gx w w' ∧ St g m0 B w' O E L
def tSl (x : T) (lo hi : Option Int) (σ : Sto) : R T := match look σ x with
  | some (.str s) => if s.length ≤ 1000000 then .ok (.str (Pa.cut s lo hi)) σ else .no
  | some (.lst xs) => .ok (.lst (Pa.cut xs lo hi)) σ
  | some (.scr ns) => .ok (.lst (Pa.cut (ns.map .int) lo hi)) σ
  | _ => .no
def eSl (d : D) (lo hi : DO) : D := fun E σ => (d E σ).bind fun x σ1 => (lo E σ1).bind fun l σ2 => (hi E σ2).bind fun h σ3 => tSl x l h σ3
def eRev (d : D) : D := fun E σ => (d E σ).bind fun x σ1 => match look σ1 x with
  | some (.lst xs) => .ok (.lst xs.reverse) σ1
  | _ => .no
section
variable {g : Cfg} {O : List Nat} {a : Pa.D} {ea : D}
theorem xo_none : XO g O Pa.oNone oNone := fun m0 B w E L t σ' S e => by
  cases e
  exact ⟨w, rfl, rfl, .refl, S⟩
theorem xo_some (ha : XP g O a ea) : XO g O (Pa.oSome a) (oSome ea) := fun m0 B w E L t σ' S e => by
  obtain ⟨x, σ1, e1, e⟩ := R.bind_eq e
  obtain ⟨v, w1, rfl, e2, G1, W1, P1⟩ := ha _ _ _ _ _ _ _ S e1
  cases x <;> first | cases e | skip
  cases P1.int
  exact ⟨w1, rfl, by simp only [Pa.oSome, e2, Pa.R.bind], G1, S.go G1 W1⟩
theorem cut_rp {ρ : Nat → Nat} {n : Nat} {P : Nat → Prop} {M : Mem} {ts : List T} {vs : List Val} (h : Rps g ρ n P M ts vs) (lo hi : Option Int) : Rps g ρ n P M (Pa.cut ts lo hi) (Pa.cut vs lo hi) := by
  unfold Pa.cut
  rw [h.len]
  exact (h.drop _).take _
theorem xsl {lo hi : Pa.DO} {el eh : DO} (ha : XP g O a ea) (hl : XO g O lo el) (hh : XO g O hi eh) : XF g O (Pa.dSl g a lo hi) (eSl ea el eh) := fun m0 B w E L t σ' S e => by
  obtain ⟨x, σ1, e1, e⟩ := R.bind_eq e
  obtain ⟨l, σ2, e2, e⟩ := R.bind_eq e
  obtain ⟨h, σ3, e3, e⟩ := R.bind_eq e
  refine ha.then (K := fun w r => OutF g (BO B L O) w r t σ') goF S e1 fun v w1 hs G1 S1 P1 => ?_
  subst hs
  obtain ⟨w2, rfl, q2, G2, S2⟩ := hl _ _ _ _ _ _ _ S1 e2
  obtain ⟨w3, rfl, q3, G3, S3⟩ := hh _ _ _ _ _ _ _ S2 e3
  rw [q2]
  simp only [Pa.R.bind_ok]
  rw [q3]
  simp only [Pa.R.bind_ok]
  refine OutF.go ?_ (G2.trans G3)
  have P3 := (P1.goB G2).goB G3
  unfold tSl at e
  split at e
  · rename_i s hs
    cases (P3.look S3.wf hs).str
    split at e
    · rename_i hl
      cases e
      simp only [Pa.vSl, hl, if_true]
      exact ostr S3.wf _
    · cases e
  · rename_i xs hs
    obtain ⟨a, vs, rfl, m, z, r⟩ := (P3.look S3.wf hs).lst
    cases e
    simp only [Pa.vSl, Pa.lSl, z]
    exact OutF.lst S3.wf (cut_rp r l h)
  · rename_i ns hs
    have z := (P3.look S3.wf hs).scr
    cases e
    have e4 : Pa.vSl g v l h w3.M = .ok (.ref w3.M.length) (w3.M ++ [.lst (Pa.cut (ns.map .int) l h)]) := by
      cases v with
      | str s => cases z
      | _ => simp only [Pa.vSl, Pa.lSl, z]
    rw [e4]
    exact OutF.lst S3.wf (cut_rp (rws_ints ns) l h)
  · cases e
theorem xrev (ha : XP g O a ea) : XF g O (Pa.dRev g a) (eRev ea) := fun m0 B w E L t σ' S e => by
  obtain ⟨x, σ1, e1, e⟩ := R.bind_eq e
  refine ha.then (K := fun w r => OutF g (BO B L O) w r t σ') goF S e1 fun v w1 hs G1 S1 P1 => ?_
  subst hs
  split at e
  · rename_i xs hs
    obtain ⟨a, vs, rfl, m, z, r⟩ := (P1.look S1.wf hs).lst
    cases e
    simp only [z]
    exact OutF.lst S1.wf r.rev
  · cases e
end
/-! ### builtins -/
def eF (p : List T → Sto → R T) (es : DA) : D := fun E σ => (es E σ).bind fun ts σ1 => p ts σ1
def OpL (g : Cfg) (f : List Val → Mem → Pa.R Val) (p : List T → Sto → R T) : Prop := ∀ B w ts vs t σ', Wf g B w → Pks g B w ts vs → p ts w.σ = .ok t σ' → OutF g B w (f vs w.M) t σ'
theorem xf {g : Cfg} {O : List Nat} {f : List Val → Mem → Pa.R Val} {p : List T → Sto → R T} {ds : Pa.DA} {es : DA} (hop : OpL g f p) (hs : XQ g O ds es) : XF g O (Pa.dF f ds) (eF p es) := fun m0 B w E L t σ' S e => by
  obtain ⟨x, σ1, e1, e⟩ := R.bind_eq e
  refine hs.then (K := fun w r => OutF g (BO B L O) w r t σ') goF S e1 fun v w1 hs G1 S1 P1 => ?_
  subst hs
  exact hop _ _ _ _ _ _ S1.wf P1 e
def tLen (ts : List T) (σ : Sto) : R T := match ts with
  | [x] => (match look σ x with
    | some (.str s) => if s.length ≤ 1000000 then .ok (.int s.length) σ else .no
    | some (.dk ks xs) => .ok (.int ks.length) σ
    | some t => (match seqT t with
      | some xs => .ok (.int xs.length) σ
      | none => .no)
    | none => .no)
  | _ => .no
def tStr (ts : List T) (σ : Sto) : R T := match ts with
  | [.str s] => .ok (.str s) σ
  | [.int i] => if 0 ≤ i ∧ i < 18446744073709551616 then .ok (.str (TL.numL i.toNat)) σ else .no
  | _ => .no
def tInt (ts : List T) (σ : Sto) : R T := match ts with
  | [.int i] => .ok (.int i) σ
  | [.bl b] => .ok (.int (if b then 1 else 0)) σ
  | [.str s] => if Pa.digits s = true ∧ s ≠ [] ∧ s.length ≤ 640 then .ok (.int (PySem.NumText.digitsVal s : Nat)) σ else .no
  | _ => .no
def tList (ts : List T) (σ : Sto) : R T := match ts with
  | [x] => (match (look σ x).bind seqT with
    | some xs => .ok (.lst xs) σ
    | none => .no)
  | _ => .no
def tMax (ts : List T) (σ : Sto) : R T := match ts with
  | [.int i, .int j] => .ok (.int (if j > i then j else i)) σ
  | _ => .no
def tMin (ts : List T) (σ : Sto) : R T := match ts with
  | [.int i, .int j] => .ok (.int (if j < i then j else i)) σ
  | _ => .no
def blsT : List T → Option (List Bool)
  | [] => some []
  | .bl b :: r => (blsT r).map (b :: ·)
  | _ => none
def intsT : List T → Option (List Int)
  | [] => some []
  | .int b :: r => (intsT r).map (b :: ·)
  | _ => none
def strsT : List T → Option (List (List Nat))
  | [] => some []
  | .str b :: r => (strsT r).map (b :: ·)
  | _ => none
def lstT (σ : Sto) (x : T) : Option (List T) := match look σ x with
  | some (.lst xs) => some xs
  | some (.scr ns) => some (ns.map .int)
  | _ => none
def tAll (ts : List T) (σ : Sto) : R T := match ts with
  | [x] => (match (lstT σ x).bind blsT with
    | some bs => .ok (.bl (bs.all id)) σ
    | none => .no)
  | _ => .no
def tAny (ts : List T) (σ : Sto) : R T := match ts with
  | [x] => (match (lstT σ x).bind blsT with
    | some bs => .ok (.bl (bs.any id)) σ
    | none => .no)
  | _ => .no
def tSum (ts : List T) (σ : Sto) : R T := match ts with
  | [x] => (match (lstT σ x).bind intsT with
    | some bs => .ok (.int bs.sum) σ
    | none => .no)
  | _ => .no
def tMax1 (ts : List T) (σ : Sto) : R T := match ts with
  | [x] => (match (lstT σ x).bind intsT with
    | some (i :: is) => .ok (.int (Pa.mxs i is)) σ
    | _ => .no)
  | _ => .no
def tMin1 (ts : List T) (σ : Sto) : R T := match ts with
  | [x] => (match (lstT σ x).bind intsT with
    | some (i :: is) => .ok (.int (Pa.mns i is)) σ
    | _ => .no)
  | _ => .no
section
variable {g : Cfg} {B : Nat → Prop} {w : Wd}
theorem Pks.nil_ {vs : List Val} (h : Pks g B w [] vs) : vs = [] := by cases h; rfl
theorem Pks.cons_ {t : T} {ts : List T} {vs : List Val} (h : Pks g B w (t :: ts) vs) : ∃ u us, vs = u :: us ∧ Pk g B w t u ∧ Pks g B w ts us := by
  cases h with
  | cons a b => exact ⟨_, _, rfl, a, b⟩
theorem Pks.one {t : T} {vs : List Val} (h : Pks g B w [t] vs) : ∃ u, vs = [u] ∧ Pk g B w t u := by
  obtain ⟨u, us, rfl, a, b⟩ := h.cons_
  cases b.nil_
  exact ⟨u, rfl, a⟩
theorem Pks.two {t s : T} {vs : List Val} (h : Pks g B w [t, s] vs) : ∃ u v, vs = [u, v] ∧ Pk g B w t u ∧ Pk g B w s v := by
  obtain ⟨u, us, rfl, a, b⟩ := h.cons_
  obtain ⟨v, ev, b'⟩ := b.one
  subst ev
  exact ⟨u, v, rfl, a, b'⟩
theorem ints_rp : ∀ {xs : List T} {vs : List Val} {is : List Int}, RWs g B w xs vs → intsT xs = some is → Pa.intsOf vs = some is
  | [], vs, is, r, e => by
    rw [ws_nil] at r
    subst r; cases e; rfl
  | x :: xs, vs, is, r, e => by
    rw [ws_cons] at r
    obtain ⟨u, us, rfl, a, r⟩ := r
    cases x <;> first | (simp only [intsT] at e; done) | skip
    all_goals first | (simp only [intsT] at e; cases e; done) | skip
    rename_i b
    rw [w_int] at a
    subst a
    simp only [intsT] at e
    obtain ⟨js, e1, rfl⟩ := Option.map_eq_some_iff.mp e
    simp only [Pa.intsOf, ints_rp r e1, Option.map_some]
theorem bls_rp : ∀ {xs : List T} {vs : List Val} {is : List Bool}, RWs g B w xs vs → blsT xs = some is → Pa.blsOf vs = some is
  | [], vs, is, r, e => by
    rw [ws_nil] at r
    subst r; cases e; rfl
  | x :: xs, vs, is, r, e => by
    rw [ws_cons] at r
    obtain ⟨u, us, rfl, a, r⟩ := r
    cases x <;> first | (simp only [blsT] at e; done) | skip
    all_goals first | (simp only [blsT] at e; cases e; done) | skip
    rename_i b
    rw [w_bl] at a
    subst a
    simp only [blsT] at e
    obtain ⟨js, e1, rfl⟩ := Option.map_eq_some_iff.mp e
    simp only [Pa.blsOf, bls_rp r e1, Option.map_some]
theorem strs_rp : ∀ {xs : List T} {vs : List Val} {is : List (List Nat)}, RWs g B w xs vs → strsT xs = some is → Pa.strsOf vs = some is
  | [], vs, is, r, e => by
    rw [ws_nil] at r
    subst r; cases e; rfl
  | x :: xs, vs, is, r, e => by
    rw [ws_cons] at r
    obtain ⟨u, us, rfl, a, r⟩ := r
    cases x <;> first | (simp only [strsT] at e; done) | skip
    all_goals first | (simp only [strsT] at e; cases e; done) | skip
    rename_i b
    rw [w_str] at a
    subst a
    simp only [strsT] at e
    obtain ⟨js, e1, rfl⟩ := Option.map_eq_some_iff.mp e
    simp only [Pa.strsOf, strs_rp r e1, Option.map_some]
theorem Pk.lst {x : T} {v : Val} {xs : List T} (W : Wf g B w) (h : Pk g B w x v) (e : lstT w.σ x = some xs) : ∃ vs, Pa.lstOf g w.M v = some vs ∧ RWs g B w xs vs := by
  unfold lstT at e
  split at e
  · rename_i ys h1
    cases e
    obtain ⟨a, vs, rfl, m, z, r⟩ := (h.look W h1).lst
    exact ⟨vs, z, r⟩
  · rename_i ns h1
    cases e
    exact ⟨_, (h.look W h1).scr, rws_ints ns⟩
  · cases e
theorem op_len : OpL g (Pa.bLen g) tLen := fun B w ts vs t σ' W h e => by
  unfold tLen at e
  split at e
  · rename_i x
    obtain ⟨v, ev, hv⟩ := h.one
    subst ev
    split at e
    · rename_i s h1
      cases (hv.look W h1).str
      split at e
      · rename_i hl
        cases e
        simp only [Pa.bLen, hl, if_true]
        exact oint W _
      · cases e
    · rename_i ks xs h1
      obtain ⟨a, us, rfl, ns, m, l, r⟩ := (hv.look W h1).nseq_dk
      cases e
      simp only [Pa.bLen, ns, m]
      have : (ks.zip us).length = ks.length := by
        rw [List.length_zip, r.len, l]
        simp
      rw [this]
      exact oint W _
    · rename_i t' n1 n2 h1
      split at e
      · rename_i xs hs
        cases e
        have rd := hv.look W h1
        obtain ⟨us, e1, r⟩ := rd.seq hs
        have e3 : Pa.bLen g [v] w.M = .ok (.int us.length) w.M := by
          cases v with
          | str s => simp only [Pa.seqOf, Pa.lstOf, Pa.tupOf] at e1; cases e1
          | _ => simp only [Pa.bLen, e1]
        rw [e3, r.len]
        exact oint W _
      · cases e
    · cases e
  · cases e
theorem op_str : OpL g Pa.bStr tStr := fun B w ts vs t σ' W h e => by
  unfold tStr at e
  split at e
  · obtain ⟨v, ev, hv⟩ := h.one
    subst ev
    cases hv.str
    cases e
    exact ostr W _
  · obtain ⟨v, ev, hv⟩ := h.one
    subst ev
    cases hv.int
    split at e
    · rename_i hl
      cases e
      simp only [Pa.bStr, hl, and_self, if_true]
      exact ostr W _
    · cases e
  · cases e
theorem op_int : OpL g Pa.bInt tInt := fun B w ts vs t σ' W h e => by
  unfold tInt at e
  split at e
  · obtain ⟨v, ev, hv⟩ := h.one
    subst ev
    cases hv.int
    cases e
    exact oint W _
  · obtain ⟨v, ev, hv⟩ := h.one
    subst ev
    cases hv.bl
    cases e
    exact oint W _
  · obtain ⟨v, ev, hv⟩ := h.one
    subst ev
    cases hv.str
    split at e
    · rename_i hl
      cases e
      simp only [Pa.bInt, hl, and_self, if_true]
      simp only [ne_eq, hl.2.1, not_false_eq_true, and_self, if_true]
      exact oint W _
    · cases e
  · cases e
theorem op_list : OpL g (Pa.bList g) tList := fun B w ts vs t σ' W h e => by
  unfold tList at e
  split at e
  · rename_i x
    obtain ⟨v, ev, hv⟩ := h.one
    subst ev
    split at e
    · rename_i xs hx
      cases e
      obtain ⟨t', h1, h2⟩ := Option.bind_eq_some_iff.mp hx
      obtain ⟨us, e1, r⟩ := (hv.look W h1).seq h2
      simp only [Pa.bList, e1]
      exact OutF.lst W r
    · cases e
  · cases e
theorem op_max : OpL g Pa.bMax tMax := fun B w ts vs t σ' W h e => by
  unfold tMax at e
  split at e
  · obtain ⟨v, u, rfl, h1, h2⟩ := h.two
    cases h1.int; cases h2.int
    cases e
    exact oint W _
  · cases e
theorem op_min : OpL g Pa.bMin tMin := fun B w ts vs t σ' W h e => by
  unfold tMin at e
  split at e
  · obtain ⟨v, u, rfl, h1, h2⟩ := h.two
    cases h1.int; cases h2.int
    cases e
    exact oint W _
  · cases e
theorem op_all : OpL g (Pa.bAll g) tAll := fun B w ts vs t σ' W h e => by
  unfold tAll at e
  split at e
  · obtain ⟨v, ev, hv⟩ := h.one
    subst ev
    split at e
    · rename_i bs hb
      cases e
      obtain ⟨xs, h1, h2⟩ := Option.bind_eq_some_iff.mp hb
      obtain ⟨us, e1, r⟩ := hv.lst W h1
      simp only [Pa.bAll, e1, Option.bind_some, bls_rp r h2]
      exact obl W _
    · cases e
  · cases e
theorem op_any : OpL g (Pa.bAny g) tAny := fun B w ts vs t σ' W h e => by
  unfold tAny at e
  split at e
  · obtain ⟨v, ev, hv⟩ := h.one
    subst ev
    split at e
    · rename_i bs hb
      cases e
      obtain ⟨xs, h1, h2⟩ := Option.bind_eq_some_iff.mp hb
      obtain ⟨us, e1, r⟩ := hv.lst W h1
      simp only [Pa.bAny, e1, Option.bind_some, bls_rp r h2]
      exact obl W _
    · cases e
  · cases e
theorem op_sum : OpL g (Pa.bSum g) tSum := fun B w ts vs t σ' W h e => by
  unfold tSum at e
  split at e
  · obtain ⟨v, ev, hv⟩ := h.one
    subst ev
    split at e
    · rename_i bs hb
      cases e
      obtain ⟨xs, h1, h2⟩ := Option.bind_eq_some_iff.mp hb
      obtain ⟨us, e1, r⟩ := hv.lst W h1
      simp only [Pa.bSum, e1, Option.bind_some, ints_rp r h2]
      exact oint W _
    · cases e
  · cases e
theorem op_max1 : OpL g (Pa.bMax1 g) tMax1 := fun B w ts vs t σ' W h e => by
  unfold tMax1 at e
  split at e
  · obtain ⟨v, ev, hv⟩ := h.one
    subst ev
    split at e
    · rename_i bs hb
      cases e
      obtain ⟨xs, h1, h2⟩ := Option.bind_eq_some_iff.mp hb
      obtain ⟨us, e1, r⟩ := hv.lst W h1
      rw [Pa.w_max1 e1 (ints_rp r h2)]
      exact oint W _
    · cases e
  · cases e
theorem op_min1 : OpL g (Pa.bMin1 g) tMin1 := fun B w ts vs t σ' W h e => by
  unfold tMin1 at e
  split at e
  · obtain ⟨v, ev, hv⟩ := h.one
    subst ev
    split at e
    · rename_i bs hb
      cases e
      obtain ⟨xs, h1, h2⟩ := Option.bind_eq_some_iff.mp hb
      obtain ⟨us, e1, r⟩ := hv.lst W h1
      rw [Pa.w_min1 e1 (ints_rp r h2)]
      exact oint W _
    · cases e
  · cases e
end
/-! ### methods of texts, gets -/
def isS : T → Bool
  | .str _ => true
  | _ => false
def eM (p : T → List T → Sto → R T) (d : D) (ds : DA) : D := fun E σ => (d E σ).bind fun x σ1 => if isS x = true then (ds E σ1).bind fun ts σ2 => p x ts σ2 else .no
def OpM (g : Cfg) (f : Val → List Val → Mem → Pa.R Val) (p : T → List T → Sto → R T) : Prop := ∀ B w x v ts vs t σ', Wf g B w → Pk g B w x v → Pks g B w ts vs → p x ts w.σ = .ok t σ' → OutF g B w (f v vs w.M) t σ'
def tSplit (x : T) (ts : List T) (σ : Sto) : R T := match x, ts with
  | .str a, [.str b] => if b ≠ [] ∧ b.all (· < 256) = true ∧ a.length ≤ 1000000 then .ok (.lst ((TL.spl b 0 [] a).map .str)) σ else .no
  | _, _ => .no
def tJoin (x : T) (ts : List T) (σ : Sto) : R T := match x, ts with
  | .str a, [y] => (match ((look σ y).bind seqT).bind strsT with
    | some ys => if (ys.map (·.length)).sum + ys.length * a.length ≤ 1000000 then .ok (.str (TL.joinL a ys)) σ else .no
    | none => .no)
  | _, _ => .no
def isDk (σ : Sto) (x : T) : Bool := match look σ x with
  | some (.dk _ _) => true
  | _ => false
def eGet1 (d k : D) : D := fun E σ => (d E σ).bind fun x σ1 => if isDk σ1 x = true then (k E σ1).bind fun y σ2 => (match look σ2 x, keyT y with
  | some (.dk ks xs), some j => .ok ((lkpT ks xs j).getD .non) σ2
  | _, _ => .no) else .no
def eGet2 (d k z : D) : D := fun E σ => (d E σ).bind fun x σ1 => if isDk σ1 x = true then (k E σ1).bind fun y σ2 => (z E σ2).bind fun u σ3 => (match look σ3 x, keyT y with
  | some (.dk ks xs), some j => .ok ((lkpT ks xs j).getD u) σ3
  | _, _ => .no) else .no
section
variable {g : Cfg} {O : List Nat} {d k z : Pa.D} {ed ek ez : D} {ds : Pa.DA} {es : DA}
theorem xm {f : Val → List Val → Mem → Pa.R Val} {p : T → List T → Sto → R T} (hop : OpM g f p) (hd : XP g O d ed) (hs : XQ g O ds es) : XF g O (Pa.dM "str" f d ds) (eM p ed es) := fun m0 B w E L t σ' S e => by
  obtain ⟨x, σ1, e1, e⟩ := R.bind_eq e
  refine hd.then (K := fun w r => OutF g (BO B L O) w r t σ') goF S e1 fun v w1 hs1 G1 S1 P1 => ?_
  subst hs1
  split at e
  · rename_i hx
    cases x <;> first | cases hx | skip
    cases P1.str
    obtain ⟨ts, σ2, e2, e⟩ := R.bind_eq e
    simp only [Pa.isTy, beq_self_eq_true, if_true]
    refine hs.then (K := fun w r => OutF g (BO B L O) w r t σ') goF S1 e2 fun vs w2 hs1 G2 S2 P2 => ?_
    subst hs1
    exact hop _ _ _ _ _ _ _ _ S2.wf (P1.goB G2) P2 e
  · cases e
theorem rws_strs {B : Nat → Prop} {w : Wd} : ∀ ns : List (List Nat), RWs g B w (ns.map .str) (ns.map .str)
  | [] => Rps.nil
  | n :: ns => Rps.cons (by rw [rp_str]) (rws_strs ns)
theorem op_split : OpM g Pa.mSplit tSplit := fun B w x v ts vs t σ' W h hs e => by
  unfold tSplit at e
  split at e
  · rename_i a b
    cases h.str
    obtain ⟨u, rfl, h2⟩ := hs.one
    cases h2.str
    split at e
    · rename_i hl
      cases e
      simp only [Pa.mSplit, hl, and_self, if_true]
      simp only [ne_eq, hl.1, not_false_eq_true, and_self, if_true]
      exact OutF.lst W (rws_strs _)
    · cases e
  · cases e
theorem op_join : OpM g (Pa.mJoin g) tJoin := fun B w x v ts vs t σ' W h hs e => by
  unfold tJoin at e
  split at e
  · rename_i a y
    cases h.str
    obtain ⟨u, rfl, h2⟩ := hs.one
    split at e
    · rename_i ys hy
      obtain ⟨xs, h3, h4⟩ := Option.bind_eq_some_iff.mp hy
      obtain ⟨t', h5, h6⟩ := Option.bind_eq_some_iff.mp h3
      obtain ⟨us, e1, r⟩ := (h2.look W h5).seq h6
      split at e
      · rename_i hl
        cases e
        simp only [Pa.mJoin, e1, Option.bind_some, strs_rp r h4, hl, if_true]
        exact ostr W _
      · cases e
    · cases e
  · cases e
theorem Pk.isD {B : Nat → Prop} {w : Wd} {x : T} {v : Val} (W : Wf g B w) (h : Pk g B w x v) (e : isDk w.σ x = true) : Pa.isD w.M v = true := by
  unfold isDk at e
  split at e
  · rename_i ks xs h1
    obtain ⟨a, vs, rfl, m, l, r⟩ := (h.look W h1).dk
    simp only [Pa.isD, m, Option.isSome_some, Bool.true_or]
  · cases e
theorem dk_get {B : Nat → Prop} {w : Wd} {x y : T} {v u : Val} {ks : List DKey} {xs : List T} {j : DKey} (W : Wf g B w) (h : Pk g B w x v) (h1 : look w.σ x = some (.dk ks xs)) (hy : Pk g B w y u) (h2 : keyT y = some j) :
    ∃ o, Pa.dgo w.M v u = some o ∧ ((lkpT ks xs j = none ∧ o = none) ∨ ∃ t z, lkpT ks xs j = some t ∧ o = some z ∧ RW g B w t z) := by
  obtain ⟨a, vs, rfl, m, l, r⟩ := (h.look W h1).dk
  refine ⟨_, dgo_dk m (keyT_ok hy h2), ?_⟩
  exact lkp_rp j r
theorem xget1 (hd : XP g O d ed) (hk : XP g O k ek) : XE g O (Pa.dGet1 d k) (eGet1 ed ek) := fun m0 B w E L t σ' S e => by
  obtain ⟨x, σ1, e1, e⟩ := R.bind_eq e
  refine hd.then (K := fun w r => Out g (BO B L O) w r t σ') goO S e1 fun v w1 hs1 G1 S1 P1 => ?_
  subst hs1
  split at e
  · rename_i hx
    obtain ⟨y, σ2, e2, e⟩ := R.bind_eq e
    simp only [P1.isD S1.wf hx, if_true]
    refine hk.then (K := fun w r => Out g (BO B L O) w r t σ') goO S1 e2 fun u w2 hs1 G2 S2 P2 => ?_
    subst hs1
    split at e
    · rename_i ks xs j h1 h2
      cases e
      obtain ⟨o, q, z⟩ := dk_get S2.wf (P1.goB G2) h1 P2 h2
      simp only [q]
      rcases z with ⟨z1, rfl⟩ | ⟨t', z', z1, rfl, z3⟩
      · rw [z1]
        exact Out.stay S2.wf (by simp only [Option.getD_none]; rw [w_non])
      · rw [z1]
        exact Out.stay S2.wf z3
    · cases e
  · cases e
theorem xget2 (hd : XP g O d ed) (hk : XP g O k ek) (hz : XE g O z ez) : XE g O (Pa.dGet2 d k z) (eGet2 ed ek ez) := fun m0 B w E L t σ' S e => by
  obtain ⟨x, σ1, e1, e⟩ := R.bind_eq e
  refine hd.then (K := fun w r => Out g (BO B L O) w r t σ') goO S e1 fun v w1 hs1 G1 S1 P1 => ?_
  subst hs1
  split at e
  · rename_i hx
    obtain ⟨y, σ2, e2, e⟩ := R.bind_eq e
    obtain ⟨q, σ3, e3, e⟩ := R.bind_eq e
    simp only [P1.isD S1.wf hx, if_true]
    refine hk.then (K := fun w r => Out g (BO B L O) w r t σ') goO S1 e2 fun u w2 hs1 G2 S2 P2 => ?_
    subst hs1
    refine hz.then (K := fun w r => Out g (BO B L O) w r t σ') goO S2 e3 fun u3 w3 hs1 G3 S3 P3 => ?_
    subst hs1
    split at e
    · rename_i ks xs j h1 h2
      cases e
      obtain ⟨o, q, z⟩ := dk_get S3.wf ((P1.goB G2).goB G3) h1 (P2.goB G3) h2
      simp only [q]
      rcases z with ⟨z1, rfl⟩ | ⟨t', z', z1, rfl, z3⟩
      · rw [z1]
        exact Out.stay S3.wf P3
      · rw [z1]
        exact Out.stay S3.wf z3
    · cases e
  · cases e
end
/-! ### fields, classes -/
def eFld (T0 : Pa.CTab) (d : D) (f : String) : D := fun E σ => (d E σ).bind fun x σ1 => match look σ1 x with
  | some (.ins c ns xs) => if Pa.hasF T0 c f = true then R.of (getT ns xs f) σ1 else .no
  | _ => .no
def tyT (cs : List String) : T → Option String
  | .non => some "NoneType"
  | .bl _ => some "bool"
  | .int _ => some "int"
  | .str _ => some "str"
  | .lst _ => some "list"
  | .scr _ => some "list"
  | .tup _ => some "tuple"
  | .dk _ _ => some "dict"
  | .ins c _ _ => if cs.contains c = true then some c else none
  | _ => none
def eIsi (I : Pa.ITab) (cs : List String) (d : D) (t : String) : D := fun E σ => (d E σ).bind fun x σ1 => match (look σ1 x).bind (tyT cs) with
  | some s => (match Pa.isiT I s t with
    | some b => .ok (.bl b) σ1
    | none => .no)
  | none => .no
def eIsiT (I : Pa.ITab) (cs : List String) (d : D) (ts : List String) : D := fun E σ => (d E σ).bind fun x σ1 => match (look σ1 x).bind (tyT cs) with
  | some s => (match Pa.tsI I s ts with
    | some b => .ok (.bl b) σ1
    | none => .no)
  | none => .no
section
variable {g : Cfg} {O : List Nat} {d : Pa.D} {ed : D}
theorem xfld {T0 : Pa.CTab} {f : String} (hd : XP g O d ed) : XE g O (Pa.dFld T0 d f) (eFld T0 ed f) := fun m0 B w E L t σ' S e => by
  obtain ⟨x, σ1, e1, e⟩ := R.bind_eq e
  refine hd.then (K := fun w r => Out g (BO B L O) w r t σ') goO S e1 fun v w1 hs1 G1 S1 P1 => ?_
  subst hs1
  split at e
  · rename_i c ns xs h1
    obtain ⟨a, vs, rfl, m, l, r⟩ := (P1.look S1.wf h1).ins
    split at e
    · rename_i hf
      obtain ⟨e2, rfl⟩ := R.of_eq e
      rcases get_rp (ks := ns) f r with ⟨q1, q2⟩ | ⟨t', v', q1, q2, q3⟩
      · rw [q1] at e2; cases e2
      · rw [q1] at e2; cases e2
        simp only [m, hf, if_true, q2, Pa.R.of]
        exact Out.stay S1.wf q3
    · cases e
  · cases e
theorem rd_ty {B : Nat → Prop} {w : Wd} {cs : List String} {x : T} {v : Val} {s : String} (h : Rd g B w x v) (e : tyT cs x = some s) : Pa.tyOf g cs w.M v = some s := by
  cases x with
  | non => cases h.non; exact e
  | bl b => cases h.bl; exact e
  | int b => cases h.int; exact e
  | str b => cases h.str; exact e
  | lst xs => obtain ⟨a, vs, rfl, m, _⟩ := h.lst; simp only [Pa.tyOf, m]; exact e
  | dk ks xs => obtain ⟨a, vs, rfl, m, _⟩ := h.dk; (rcases dkOf_get m with m | m <;> simp only [Pa.tyOf, m]); all_goals exact e
  | ins c ns xs => obtain ⟨a, vs, rfl, m, _⟩ := h.ins; simp only [Pa.tyOf, m]; exact e
  | tup xs =>
    rcases h with h | ⟨a, rfl, h⟩
    · rw [w_tup] at h
      obtain ⟨vs, ⟨a, rfl, _, m⟩ | ⟨k, rfl, m⟩, _⟩ := h
      · simp only [Pa.tyOf, m]; exact e
      · simp only [Pa.tyOf, m]; exact e
    · exact h.elim
  | scr ns =>
    rcases h with h | ⟨a, rfl, h⟩
    · rw [w_scr] at h
      rcases h with ⟨a, rfl, _, m⟩ | ⟨k, rfl, m⟩
      · simp only [Pa.tyOf, m]; exact e
      · simp only [Pa.tyOf, m]; exact e
    · exact h.elim
  | ptr i => cases e
theorem xisi {I : Pa.ITab} {cs : List String} {t : String} (hd : XP g O d ed) : XF g O (Pa.dIsi g I cs d t) (eIsi I cs ed t) := fun m0 B w E L t' σ' S e => by
  obtain ⟨x, σ1, e1, e⟩ := R.bind_eq e
  refine hd.then (K := fun w r => OutF g (BO B L O) w r t' σ') goF S e1 fun v w1 hs1 G1 S1 P1 => ?_
  subst hs1
  split at e
  · rename_i s hs
    obtain ⟨u, h1, h2⟩ := Option.bind_eq_some_iff.mp hs
    simp only [rd_ty (P1.look S1.wf h1) h2]
    split at e
    · rename_i b hb
      cases e
      try simp only [hb]
      exact obl S1.wf _
    · cases e
  · cases e
theorem xisiT {I : Pa.ITab} {cs : List String} {ts : List String} (hd : XP g O d ed) : XF g O (Pa.dIsiT g I cs d ts) (eIsiT I cs ed ts) := fun m0 B w E L t' σ' S e => by
  obtain ⟨x, σ1, e1, e⟩ := R.bind_eq e
  refine hd.then (K := fun w r => OutF g (BO B L O) w r t' σ') goF S e1 fun v w1 hs1 G1 S1 P1 => ?_
  subst hs1
  split at e
  · rename_i s hs
    obtain ⟨u, h1, h2⟩ := Option.bind_eq_some_iff.mp hs
    simp only [rd_ty (P1.look S1.wf h1) h2]
    split at e
    · rename_i b hb
      cases e
      try simp only [hb]
      exact obl S1.wf _
    · cases e
  · cases e
end
/-! ### calls -/
abbrev Fn := List T → Sto → R T
def FS (g : Cfg) (fr : Bool) (F : Pa.Fn) (f : Fn) : Prop := ∀ B w vs ts t σ', Wf g B w → RWs g B w ts vs → f ts w.σ = .ok t σ' → Out g B w (F vs w.M) t σ' ∧ (fr = true → OutF g B w (F vs w.M) t σ')
def eArg (n : Nat) (dfl : List T) (f : Fn) (es : DA) : D := fun E σ => (es E σ).bind fun ts σ1 => if (ts ++ dfl).length = n then f (ts ++ dfl) σ1 else .no
abbrev MT := List (String × Fn)
def mfT (T0 : MT) (c : String) : Option Fn := match T0 with
  | [] => none
  | p :: r => if p.1 = c then some p.2 else mfT r c
inductive MTR (g : Cfg) (fr : Bool) : Pa.MTab → MT → Prop
  | nil : MTR g fr [] []
  | cons {c : String} {F : Pa.Fn} {f : Fn} {T0 : Pa.MTab} {T1 : MT} : FS g fr F f → MTR g fr T0 T1 → MTR g fr ((c, F) :: T0) ((c, f) :: T1)
def eMeth (T0 : MT) (m : String) (n : Nat) (d : D) (ds : DA) : D := fun E σ => (d E σ).bind fun x σ1 => match look σ1 x with
  | some (.ins c ns xs) => (match mfT T0 c, getT ns xs m with
    | some F, none => (ds E σ1).bind fun vs σ2 => if vs.length + 1 = n then F (x :: vs) σ2 else .no
    | _, _ => .no)
  | _ => .no
/-- a new object of a class that only takes its values -/
def eNewV (ok : Bool) (c : String) (ns : List String) (es : DA) : D := fun E σ => (es E σ).bind fun ts σ1 => if ok = true ∧ ts.length = ns.length then .ok (.ins c ns ts) σ1 else .no
section
variable {g : Cfg} {O : List Nat} {d : Pa.D} {ed : D} {ds : Pa.DA} {es : DA}
theorem flats_app {B : Nat → Prop} {w : Wd} {ts : List T} {vs dfl : List Val} (h : RWs g B w ts vs) (hf : dfl.all Pa.flat = true) : RWs g B w (ts ++ dfl.map tof) (vs ++ dfl) := h.app (flats_rw hf)
theorem xarg {fr : Bool} {n : Nat} {dfl : List Val} {F : Pa.Fn} {f : Fn} (hF : FS g fr F f) (hs : XA g O ds es) (hf : dfl.all Pa.flat = true := by rfl) : XE g O (Pa.dArg n dfl F ds) (eArg n (dfl.map tof) f es) := fun m0 B w E L t σ' S e => by
  obtain ⟨x, σ1, e1, e⟩ := R.bind_eq e
  refine hs.then (K := fun w r => Out g (BO B L O) w r t σ') goO S e1 fun v w1 hs1 G1 S1 P1 => ?_
  subst hs1
  have z := flats_app P1 hf
  split at e
  · rename_i hl
    rw [← z.len] at hl
    simp only [hl, if_true]
    exact (hF _ _ _ _ _ _ S1.wf z e).1
  · cases e
theorem xargf {n : Nat} {dfl : List Val} {F : Pa.Fn} {f : Fn} (hF : FS g true F f) (hs : XA g O ds es) (hf : dfl.all Pa.flat = true := by rfl) : XF g O (Pa.dArg n dfl F ds) (eArg n (dfl.map tof) f es) := fun m0 B w E L t σ' S e => by
  obtain ⟨x, σ1, e1, e⟩ := R.bind_eq e
  refine hs.then (K := fun w r => OutF g (BO B L O) w r t σ') goF S e1 fun v w1 hs1 G1 S1 P1 => ?_
  subst hs1
  have z := flats_app P1 hf
  split at e
  · rename_i hl
    rw [← z.len] at hl
    simp only [hl, if_true]
    exact (hF _ _ _ _ _ _ S1.wf z e).2 rfl
  · cases e
theorem mtr_find {fr : Bool} {T0 : Pa.MTab} {T1 : MT} (h : MTR g fr T0 T1) {c : String} {f : Fn} (e : mfT T1 c = some f) : ∃ F, Pa.mfind T0 c = some F ∧ FS g fr F f := by
  induction h with
  | nil => cases e
  | @cons c' F' f' T0 T1 h1 h2 ih =>
    simp only [mfT] at e
    by_cases z : c' = c
    · rw [if_pos z] at e
      cases e
      refine ⟨F', ?_, h1⟩
      simp only [Pa.mfind, List.find?_cons, z, beq_self_eq_true, Option.map_some]
    · rw [if_neg z] at e
      obtain ⟨F, q1, q2⟩ := ih e
      refine ⟨F, ?_, q2⟩
      have : (c' == c) = false := beq_eq_false_iff_ne.mpr z
      simp only [Pa.mfind, List.find?_cons, this]
      exact q1
theorem xmeth_ {fr : Bool} {T0 : Pa.MTab} {T1 : MT} {m : String} {n : Nat} (hT : MTR g fr T0 T1) (hd : XE g O d ed) (hs : XA g O ds es) : ∀ m0 B w E L t σ', St g m0 B w O E L → eMeth T1 m n ed es E w.σ = .ok t σ' → Out g (BO B L O) w (Pa.dMeth T0 m n d ds L w.M) t σ' ∧ (fr = true → OutF g (BO B L O) w (Pa.dMeth T0 m n d ds L w.M) t σ') := fun m0 B w E L t σ' S e => by
  obtain ⟨x, σ1, e1, e⟩ := R.bind_eq e
  have hK : ∀ w w1 r, Gx w w1 → (fun w r => Out g (BO B L O) w r t σ' ∧ (fr = true → OutF g (BO B L O) w r t σ')) w1 r → (fun w r => Out g (BO B L O) w r t σ' ∧ (fr = true → OutF g (BO B L O) w r t σ')) w r := fun w w1 r a h => ⟨h.1.go a, fun z => (h.2 z).go a⟩
  refine hd.then (K := fun w r => Out g (BO B L O) w r t σ' ∧ (fr = true → OutF g (BO B L O) w r t σ')) hK S e1 fun v w1 hs1 G1 S1 P1 => ?_
  subst hs1
  split at e
  · rename_i c ns xs h1
    have P1' : Pk g (BO B L O) w1 x v := .inl P1
    obtain ⟨a, vs, rfl, mm, l, r⟩ := (P1'.look S1.wf h1).ins
    split at e
    · rename_i f hf hg
      obtain ⟨F, q1, q2⟩ := mtr_find hT hf
      rcases get_rp (ks := ns) m r with ⟨q3, q4⟩ | ⟨t', v', q3, q4, q5⟩
      · obtain ⟨ts, σ2, e2, e⟩ := R.bind_eq e
        simp only [mm, q1, q4]
        refine hs.then (K := fun w r => Out g (BO B L O) w r t σ' ∧ (fr = true → OutF g (BO B L O) w r t σ')) hK S1 e2 fun us w2 hs1 G2 S2 P2 => ?_
        subst hs1
        split at e
        · rename_i hl
          rw [← P2.len] at hl
          simp only [hl, if_true]
          exact q2 _ _ _ _ _ _ S2.wf (Rps.cons (P1.goB G2) P2) e
        · cases e
      · rw [q3] at hg; cases hg
    · cases e
  · cases e
theorem xmeth {fr : Bool} {T0 : Pa.MTab} {T1 : MT} {m : String} {n : Nat} (hT : MTR g fr T0 T1) (hd : XE g O d ed) (hs : XA g O ds es) : XE g O (Pa.dMeth T0 m n d ds) (eMeth T1 m n ed es) := fun m0 B w E L t σ' S e => (xmeth_ hT hd hs m0 B w E L t σ' S e).1
theorem xmethf {T0 : Pa.MTab} {T1 : MT} {m : String} {n : Nat} (hT : MTR g true T0 T1) (hd : XE g O d ed) (hs : XA g O ds es) : XF g O (Pa.dMeth T0 m n d ds) (eMeth T1 m n ed es) := fun m0 B w E L t σ' S e => (xmeth_ hT hd hs m0 B w E L t σ' S e).2 rfl
theorem xnewv {ok : Bool} {n : Nat} {c : String} {F : Pa.Fn} {ns : List String} (hn : n = ns.length + 1) (hI : ok = true → ∀ (vs : List Val) (M : Mem), vs.length = ns.length → F (.ref M.length :: vs) (M ++ [.ins c []]) = .ok .non (M ++ [.ins c (ns.zip vs)]))
    (hs : XA g O ds es) : XF g O (Pa.dNew n [] c F ds) (eNewV ok c ns es) := fun m0 B w E L t σ' S e => by
  obtain ⟨x, σ1, e1, e⟩ := R.bind_eq e
  refine hs.then (K := fun w r => OutF g (BO B L O) w r t σ') goF S e1 fun v w1 hs1 G1 S1 P1 => ?_
  subst hs1
  split at e
  · rename_i hl
    cases e
    have l2 := hl.2
    rw [← P1.len] at l2
    have l3 : v.length + 1 = n := by rw [l2, hn]
    simp only [List.append_nil, l3, if_true]
    rw [hI hl.1 v w1.M l2]
    simp only [Pa.R.bind_ok]
    exact OutF.ins S1.wf hl.2.symm P1
  · cases e
end
end Tr

/-! Trees: statements. -/
namespace Tr
open Pa (Val Ob Mem Cfg DKey Loc)
inductive Fl where
  | nx (E : Env) | rt (t : T) | bk (E : Env) | ct (E : Env)
abbrev Ds := Env → Sto → R Fl
/-! ### one object is changed -/
def Wd.setM (w : Wd) (a : Nat) (o : Ob) : Wd := ⟨w.ρ, w.σ, w.M.set a o⟩
def ObR (g : Cfg) (B : Nat → Prop) (w : Wd) (t : T) (o : Ob) : Prop := match t with
  | .lst xs => ∃ vs, o = .lst vs ∧ RWs g B w xs vs
  | .ins c ns xs => ∃ vs, o = .ins c (ns.zip vs) ∧ ns.length = xs.length ∧ RWs g B w xs vs
  | .dk ks xs => ∃ vs, o = .dk (ks.zip vs) ∧ ks.length = xs.length ∧ RWs g B w xs vs
  | _ => False
section
variable {g : Cfg} {B B' : Nat → Prop} {w w' : Wd}
theorem Top.ob {t : T} {a : Nat} (h : Top g B w t a) : ∃ o, w.M[a]? = some o ∧ ObR g B w t o := by
  cases t with
  | lst xs => obtain ⟨vs, e, r⟩ := h; exact ⟨_, e, vs, rfl, r⟩
  | ins c ns xs => obtain ⟨vs, e, l, r⟩ := h; exact ⟨_, e, vs, rfl, l, r⟩
  | dk ks xs => obtain ⟨vs, e, l, r⟩ := h; exact ⟨_, e, vs, rfl, l, r⟩
  | _ => exact h.elim
theorem ObR.top {t : T} {o : Ob} {a : Nat} (h : ObR g B w t o) (m : w'.M[a]? = some o) (f : ∀ ts vs, RWs g B w ts vs → RWs g B' w' ts vs) : Top g B' w' t a := by
  cases t with
  | lst xs => obtain ⟨vs, rfl, r⟩ := h; exact ⟨vs, m, f _ _ r⟩
  | ins c ns xs => obtain ⟨vs, rfl, l, r⟩ := h; exact ⟨vs, m, l, f _ _ r⟩
  | dk ks xs => obtain ⟨vs, rfl, l, r⟩ := h; exact ⟨vs, m, l, f _ _ r⟩
  | _ => exact h.elim
theorem ObR.bad (hb : ∀ a, ¬ B a → a < w.M.length → ¬ B' a) {t : T} {o : Ob} (h : ObR g B w t o) : ObR g B' w t o := by
  cases t with
  | lst xs => obtain ⟨vs, e, r⟩ := h; exact ⟨vs, e, r.bad hb⟩
  | ins c ns xs => obtain ⟨vs, e, l, r⟩ := h; exact ⟨vs, e, l, r.bad hb⟩
  | dk ks xs => obtain ⟨vs, e, l, r⟩ := h; exact ⟨vs, e, l, r.bad hb⟩
  | _ => exact h.elim
theorem setM_ne {a x : Nat} {o : Ob} (h : a ≠ x) : (w.setM a o).M[x]? = w.M[x]? := List.getElem?_set_ne h
theorem setM_at {a : Nat} {o : Ob} (h : a < w.M.length) : (w.setM a o).M[a]? = some o := List.getElem?_set_self h
theorem setM_len {a : Nat} {o : Ob} : (w.setM a o).M.length = w.M.length := List.length_set ..
theorem Rp.setM {a : Nat} {o : Ob} (hb : ¬ w.P B a) {t : T} {v : Val} (h : RW g B w t v) : RW g B (w.setM a o) t v := Rp.mono (fun x u p m => ⟨p, by
  rw [setM_ne (show a ≠ x from fun z => hb (by rw [z]; exact p))]; exact m⟩) (Nat.le_refl _) (fun _ _ => rfl) t v h
theorem Rps.setM {a : Nat} {o : Ob} (hb : ¬ w.P B a) {t : List T} {v : List Val} (h : RWs g B w t v) : RWs g B (w.setM a o) t v := Rps.mono (fun x u p m => ⟨p, by
  rw [setM_ne (show a ≠ x from fun z => hb (by rw [z]; exact p))]; exact m⟩) (Nat.le_refl _) (fun _ _ => rfl) t v h
theorem Top.setM {a x : Nat} {o : Ob} (hb : ¬ w.P B a) (hx : a ≠ x) {t : T} (h : Top g B w t x) : Top g B (w.setM a o) t x := h.of (fun _ _ r => r.setM hb) fun u m => by rw [setM_ne hx]; exact m
/-- at a bad place -/
theorem Wf.setM (h : Wf g B w) {a : Nat} {o : Ob} (hb : B a) : Wf g B (w.setM a o) := ⟨h.inj, fun i t e => by
  obtain ⟨p, q⟩ := h.at_ i t e
  exact ⟨p.setM (fun z => z.2 hb) (fun z => q (by rw [← z]; exact hb)), q⟩, fun x z => by rw [setM_len]; exact h.bB x z⟩
/-- a cell is changed -/
def Wd.setC (w : Wd) (k : Nat) (t : T) (o : Ob) : Wd := ⟨w.ρ, w.σ.set k (some t), w.M.set (w.ρ k) o⟩
theorem setC_lv {k : Nat} {t t' : T} {o : Ob} (hk : w.σ[k]? = some (some t')) (a : Nat) : (w.setC k t o).Lv a ↔ w.Lv a := by
  have hl := (List.getElem?_eq_some_iff.mp hk).1
  constructor
  · rintro ⟨i, u, e, z⟩
    have e : (w.σ.set k (some t))[i]? = some (some u) := e
    by_cases hi : k = i
    · subst hi
      exact ⟨_, _, hk, z⟩
    · rw [List.getElem?_set_ne hi] at e
      exact ⟨i, u, e, z⟩
  · rintro ⟨i, u, e, z⟩
    by_cases hi : k = i
    · subst hi
      exact ⟨k, t, List.getElem?_set_self hl, z⟩
    · exact ⟨i, u, by show (w.σ.set k (some t))[i]? = _; rw [List.getElem?_set_ne hi]; exact e, z⟩
theorem setC_p {k : Nat} {t t' : T} {o : Ob} (hk : w.σ[k]? = some (some t')) {x : Nat} {u : Ob} (p : w.P B x) (m : w.M[x]? = some u) : (w.setC k t o).P B x ∧ (w.setC k t o).M[x]? = some u := by
  refine ⟨⟨fun z => p.1 ((setC_lv hk x).mp z), p.2⟩, ?_⟩
  show (w.M.set (w.ρ k) o)[x]? = _
  rw [List.getElem?_set_ne (fun z => p.1 ⟨k, t', hk, z⟩)]
  exact m
theorem Rp.setC {k : Nat} {t t' : T} {o : Ob} (hk : w.σ[k]? = some (some t')) {u : T} {v : Val} (h : RW g B w u v) : RW g B (w.setC k t o) u v := Rp.mono (fun x u p m => setC_p hk p m) (by simp [Wd.setC]) (fun _ _ => rfl) u v h
theorem Rps.setC {k : Nat} {t t' : T} {o : Ob} (hk : w.σ[k]? = some (some t')) {u : List T} {v : List Val} (h : RWs g B w u v) : RWs g B (w.setC k t o) u v := Rps.mono (fun x u p m => setC_p hk p m) (by simp [Wd.setC]) (fun _ _ => rfl) u v h
theorem gx_setC {k : Nat} {t t' : T} {o : Ob} (hk : w.σ[k]? = some (some t')) : Gx w (w.setC k t o) := ⟨by simp [Wd.setC], fun _ _ => rfl, by simp [Wd.setC], fun x u l _ m => ⟨fun z => l ((setC_lv hk x).mp z), fun z => z, by
  show (w.M.set (w.ρ k) o)[x]? = _
  rw [List.getElem?_set_ne (fun z => l ⟨k, t', hk, z⟩)]
  exact m⟩⟩
theorem Wf.setC (h : Wf g B w) {k : Nat} {t t' : T} {o : Ob} (hk : w.σ[k]? = some (some t')) (ho : ObR g B w t o) : Wf g B (w.setC k t o) := by
  have hl := (List.getElem?_eq_some_iff.mp hk).1
  have e0 : ∀ {i u}, (w.setC k t o).σ[i]? = some (some u) → (i = k ∧ u = t) ∨ (i ≠ k ∧ w.σ[i]? = some (some u)) := fun {i u} e => by
    have e : (w.σ.set k (some t))[i]? = some (some u) := e
    by_cases hi : k = i
    · subst hi
      rw [List.getElem?_set_self hl] at e
      cases e
      exact .inl ⟨rfl, rfl⟩
    · rw [List.getElem?_set_ne hi] at e
      exact .inr ⟨Ne.symm hi, e⟩
  have e1 : ∀ {i u}, (w.setC k t o).σ[i]? = some (some u) → ∃ u', w.σ[i]? = some (some u') := fun e => by
    rcases e0 e with ⟨rfl, _⟩ | ⟨_, e⟩
    · exact ⟨_, hk⟩
    · exact ⟨_, e⟩
  refine ⟨fun i j x y e f z => ?_, fun i u e => ?_, fun a z => ?_⟩
  · obtain ⟨x', e'⟩ := e1 e
    obtain ⟨y', f'⟩ := e1 f
    exact h.inj i j _ _ e' f' z
  · rcases e0 e with ⟨rfl, rfl⟩ | ⟨hi, e⟩
    · obtain ⟨p, q⟩ := h.at_ _ _ hk
      exact ⟨ho.top (List.getElem?_set_self p.lt) fun _ _ r => r.setC hk, q⟩
    · obtain ⟨p, q⟩ := h.at_ _ _ e
      refine ⟨p.of (fun _ _ r => r.setC hk) fun u m => ?_, q⟩
      show (w.M.set (w.ρ k) o)[w.ρ i]? = _
      rw [List.getElem?_set_ne (fun z => hi (h.inj _ _ _ _ e hk z.symm))]
      exact m
  · show a < (w.M.set (w.ρ k) o).length
    rw [List.length_set]
    exact h.bB a z
/-- a new cell of a fresh object -/
def Wd.newC (w : Wd) (t : T) (a : Nat) : Wd := ⟨fun i => if i = w.σ.length then a else w.ρ i, w.σ ++ [some t], w.M⟩
theorem newC_at {t : T} {a i : Nat} {u : T} (e : (w.newC t a).σ[i]? = some (some u)) : (i = w.σ.length ∧ u = t) ∨ (i < w.σ.length ∧ w.σ[i]? = some (some u)) := by
  have e : (w.σ ++ [some t])[i]? = some (some u) := e
  by_cases hi : i < w.σ.length
  · rw [List.getElem?_append_left hi] at e
    exact .inr ⟨hi, e⟩
  · have hl := (List.getElem?_eq_some_iff.mp e).1
    simp at hl
    have : i = w.σ.length := by omega
    subst this
    simp at e
    exact .inl ⟨rfl, e.symm⟩
theorem newC_rho {t : T} {a i : Nat} (h : i < w.σ.length) : (w.newC t a).ρ i = w.ρ i := if_neg (Nat.ne_of_lt h)
theorem newC_lv {t : T} {a x : Nat} (h : (w.newC t a).Lv x) : w.Lv x ∨ x = a := by
  obtain ⟨i, u, e, z⟩ := h
  rcases newC_at e with ⟨rfl, rfl⟩ | ⟨hi, e⟩
  · refine .inr ?_
    rw [← z]; exact if_pos rfl
  · refine .inl ⟨i, u, e, ?_⟩
    rw [← z, newC_rho hi]
theorem Rps.newC {t : T} {a : Nat} {ts : List T} {vs : List Val} (h : RWs g (fun b => B b ∨ b = a) w ts vs) : RWs g B (w.newC t a) ts vs := Rps.mono (fun x u p m => ⟨⟨fun z => (newC_lv z).elim p.1 fun e => p.2 (.inr e), fun z => p.2 (.inl z)⟩, m⟩) (by simp [Wd.newC]) (fun i h => newC_rho h) ts vs h
theorem Wf.newC {t : T} {a : Nat} (h : Wf g (fun b => B b ∨ b = a) w) (ht : Top g (fun b => B b ∨ b = a) w t a) (hB : ¬ B a) : Wf g B (w.newC t a) := by
  have na := h.nlv (.inr rfl : B a ∨ a = a)
  refine ⟨fun i j x y e f z => ?_, fun i u e => ?_, fun x z => h.bB x (.inl z)⟩
  · rcases newC_at e with ⟨rfl, rfl⟩ | ⟨hi, e⟩
    · rcases newC_at f with ⟨rfl, rfl⟩ | ⟨hj, f⟩
      · rfl
      · rw [newC_rho hj] at z
        have z2 : w.ρ j = a := by rw [← z]; exact if_pos rfl
        exact absurd ⟨j, y, f, z2⟩ na
    · rcases newC_at f with ⟨z1, z3⟩ | ⟨hj, f⟩
      · rw [newC_rho hi] at z
        have z2 : w.ρ i = a := by rw [z, z1]; exact if_pos rfl
        exact absurd ⟨i, x, e, z2⟩ na
      · rw [newC_rho hi, newC_rho hj] at z
        exact h.inj i j x y e f z
  · rcases newC_at e with ⟨rfl, rfl⟩ | ⟨hi, e⟩
    · have e2 : (w.newC u a).ρ w.σ.length = a := if_pos rfl
      rw [e2]
      exact ⟨ht.of (fun _ _ r => r.newC) fun o m => m, hB⟩
    · rw [newC_rho hi]
      obtain ⟨p, q⟩ := h.at_ i u e
      exact ⟨p.of (fun _ _ r => r.newC) fun o m => m, fun z => q (.inl z)⟩
/-- a cell is given up -/
def Wd.offC (w : Wd) (k : Nat) : Wd := ⟨w.ρ, w.σ.set k none, w.M⟩
theorem offC_at {k i : Nat} {u : T} (e : (w.offC k).σ[i]? = some (some u)) : i ≠ k ∧ w.σ[i]? = some (some u) := by
  have e : (w.σ.set k none)[i]? = some (some u) := e
  by_cases hi : k = i
  · subst hi
    by_cases hl : k < w.σ.length
    · rw [List.getElem?_set_self hl] at e; cases e
    · rw [List.getElem?_eq_none (by simpa using hl)] at e; cases e
  · rw [List.getElem?_set_ne hi] at e
    exact ⟨Ne.symm hi, e⟩
theorem offC_lv {k x : Nat} (h : (w.offC k).Lv x) : w.Lv x := by
  obtain ⟨i, u, e, z⟩ := h
  exact ⟨i, u, (offC_at e).2, z⟩
theorem gx_offC {k : Nat} : Gx w (w.offC k) := ⟨by simp [Wd.offC], fun _ _ => rfl, Nat.le_refl _, fun x o l _ m => ⟨fun z => l (offC_lv z), fun z => z, m⟩⟩
theorem Wf.offC (h : Wf g B w) {k : Nat} : Wf g B (w.offC k) := ⟨fun i j x y e f z => h.inj i j x y (offC_at e).2 (offC_at f).2 z, fun i u e => by
  obtain ⟨p, q⟩ := h.at_ i u (offC_at e).2
  exact ⟨p.of (fun _ _ r => r.goB gx_offC) fun o m => m, q⟩, h.bB⟩
end
/-! ### the state of a frame -/
section
variable {g : Cfg} {m0 : Nat} {B : Nat → Prop} {w w' : Wd} {O O' : List Nat} {E : Env} {L : Loc}
theorem Own.sub {a : Nat} (hO : ∀ i ∈ O', i ∈ O) (h : Own L O' a) : Own L O a := by
  obtain ⟨i, hi, e⟩ := h
  exact ⟨i, hO i hi, e⟩
theorem BO.sub {a : Nat} (hO : ∀ i ∈ O', i ∈ O) (h : BO B L O' a) : BO B L O a := h.imp id (Own.sub hO)
theorem St.sub (S : St g m0 B w O E L) (hO : ∀ i ∈ O', i ∈ O) : St g m0 B w O' E L := by
  have hb : ∀ a, ¬ BO B L O a → a < w.M.length → ¬ BO B L O' a := fun a h _ z => h (z.sub hO)
  refine ⟨S.wf.bad hb fun a z => S.wf.bB a (z.sub hO), S.len, fun i v e => ?_, S.non, fun i j a hi hj => S.dis i j a (hO i hi) (hO j hj), fun a h => S.om a (h.sub hO)⟩
  obtain ⟨t, e1, h1, h2⟩ := S.env i v e
  refine ⟨t, e1, fun hi => ?_, fun hi => ?_⟩
  · by_cases hi2 : i ∈ O
    · rcases h2 hi2 with ⟨_, h⟩ | ⟨a, rfl, h⟩
      · exact h.bad hb
      · refine (h.bad hb).rp ⟨S.wf.nlv (.inr ⟨i, hi2, e⟩), fun z => ?_⟩
        rcases z with z | ⟨j, hj, z⟩
        · exact (S.om a ⟨i, hi2, e⟩).2 z
        · have := S.dis i j a hi2 (hO j hj) e z
          exact hi (this ▸ hj)
    · exact (h1 hi2).bad hb
  · rcases h2 (hO i hi) with ⟨f, h⟩ | ⟨a, rfl, h⟩
    · exact .inl ⟨f, h.bad hb⟩
    · exact .inr ⟨a, rfl, h.bad hb⟩
theorem set_at {α : Type} {xs : List α} {i j : Nat} {x y : α} (e : (xs.set i x)[j]? = some y) : (i = j ∧ y = x ∧ i < xs.length) ∨ (i ≠ j ∧ xs[j]? = some y) := by
  by_cases hi : i = j
  · subst hi
    by_cases hl : i < xs.length
    · rw [List.getElem?_set_self hl] at e
      cases e
      exact .inl ⟨rfl, rfl, hl⟩
    · rw [List.getElem?_eq_none (by simpa using hl)] at e; cases e
  · rw [List.getElem?_set_ne hi] at e
    exact .inr ⟨hi, e⟩
abbrev Ox (O : List Nat) (i : Nat) : List Nat := O.filter fun j => j != i
theorem mem_Ox {i j : Nat} : j ∈ Ox O i ↔ j ∈ O ∧ j ≠ i := by simp [Ox, List.mem_filter]
theorem Own.set {i : Nat} {x : Option Val} {a : Nat} (h : Own (L.set i x) (Ox O i) a) : Own L O a := by
  obtain ⟨j, hj, e⟩ := h
  obtain ⟨h1, h2⟩ := mem_Ox.mp hj
  rw [List.getElem?_set_ne (Ne.symm h2)] at e
  exact ⟨j, h1, e⟩
theorem St.upd (S : St g m0 B w O E L) {i : Nat} {t : T} {v : Val} (hr : RW g (BO B L O) w t v) : St g m0 B w (Ox O i) (E.set i (some t)) (L.set i (some v)) := by
  have hs : ∀ a, BO B (L.set i (some v)) (Ox O i) a → BO B L O a := fun a z => z.imp id Own.set
  have hb : ∀ a, ¬ BO B L O a → a < w.M.length → ¬ BO B (L.set i (some v)) (Ox O i) a := fun a h _ z => h (hs a z)
  refine ⟨S.wf.bad hb fun a z => S.wf.bB a (hs a z), by simp [S.len], fun j u e => ?_, fun j e => ?_, fun j k a hj hk e f => ?_, fun a h => S.om a h.set⟩
  · rcases set_at e with ⟨rfl, z, hl⟩ | ⟨hi, e⟩
    · cases z
      exact ⟨t, List.getElem?_set_self (by rw [S.len]; exact hl), fun _ => hr.bad hb, fun h => absurd rfl (mem_Ox.mp h).2⟩
    · obtain ⟨t', e1, h1, h2⟩ := S.env j u e
      refine ⟨t', by rw [List.getElem?_set_ne hi]; exact e1, fun hj => (h1 fun z => hj (mem_Ox.mpr ⟨z, Ne.symm hi⟩)).bad hb, fun hj => ?_⟩
      rcases h2 (mem_Ox.mp hj).1 with ⟨f, h⟩ | ⟨a, rfl, h⟩
      · exact .inl ⟨f, h.bad hb⟩
      · exact .inr ⟨a, rfl, h.bad hb⟩
  · rcases set_at e with ⟨rfl, z, _⟩ | ⟨hi, e⟩
    · cases z
    · rw [List.getElem?_set_ne hi]; exact S.non j e
  · obtain ⟨hj1, hj2⟩ := mem_Ox.mp hj
    obtain ⟨hk1, hk2⟩ := mem_Ox.mp hk
    rw [List.getElem?_set_ne (Ne.symm hj2)] at e
    rw [List.getElem?_set_ne (Ne.symm hk2)] at f
    exact S.dis j k a hj1 hk1 e f
theorem flat_nref {B : Nat → Prop} {t : T} {a : Nat} (f : flatT t = true) (h : RW g B w t (.ref a)) : False := by
  have z := (rd_flat (.inl h) f).2
  cases z
theorem St.updF (S : St g m0 B w O E L) (hm : m0 ≤ w.M.length) (G : Gx w w') (W : Wf g (BO B L O) w') {i : Nat} {t : T} {v : Val} (hr : Frs g (BO B L O) w.M.length w' t v) : St g m0 B w' (i :: Ox O i) (E.set i (some t)) (L.set i (some v)) := by
  rcases hr with ⟨hf, hr⟩ | ⟨a, rfl, hl, hw, ht⟩
  · have S' := (S.go G W).upd (i := i) hr
    have ho : ∀ a, Own (L.set i (some v)) (i :: Ox O i) a → Own (L.set i (some v)) (Ox O i) a := fun a ⟨j, hj, e⟩ => by
      rcases List.mem_cons.mp hj with rfl | hj
      · rcases set_at e with ⟨_, z, _⟩ | ⟨z, _⟩
        · cases z
          exact absurd hr (fun h => flat_nref hf h)
        · exact absurd rfl z
      · exact ⟨j, hj, e⟩
    have hb : ∀ a, ¬ BO B (L.set i (some v)) (Ox O i) a → a < w'.M.length → ¬ BO B (L.set i (some v)) (i :: Ox O i) a := fun a h _ z => h (z.imp id (ho a))
    refine ⟨S'.wf.bad hb fun a z => S'.wf.bB a (z.imp id (ho a)), S'.len, fun j u e => ?_, S'.non, fun j k a hj hk e f => ?_, fun a h => S'.om a (ho a h)⟩
    · obtain ⟨t', e1, h1, h2⟩ := S'.env j u e
      refine ⟨t', e1, fun hj => (h1 fun z => hj (List.mem_cons_of_mem _ z)).bad hb, fun hj => ?_⟩
      by_cases hji : j = i
      · subst hji
        rcases set_at e with ⟨_, z, hl⟩ | ⟨z, _⟩
        · cases z
          rw [List.getElem?_set_self (by rw [S.len]; exact hl)] at e1
          cases e1
          exact .inl ⟨hf, (h1 (fun z => (mem_Ox.mp z).2 rfl)).bad hb⟩
        · exact absurd rfl z
      · rcases List.mem_cons.mp hj with hj | hj
        · exact absurd hj hji
        · rcases h2 hj with ⟨f, h⟩ | ⟨a, rfl, h⟩
          · exact .inl ⟨f, h.bad hb⟩
          · exact .inr ⟨a, rfl, h.bad hb⟩
    · obtain ⟨j', hj', e'⟩ := ho a ⟨j, hj, e⟩
      have nj : j ≠ i := fun z => by
        subst z
        rcases set_at e with ⟨_, z, _⟩ | ⟨z, _⟩
        · cases z
          exact flat_nref hf hr
        · exact z rfl
      have nk : k ≠ i := fun z => by
        subst z
        rcases set_at f with ⟨_, z, _⟩ | ⟨z, _⟩
        · cases z
          exact flat_nref hf hr
        · exact z rfl
      exact S'.dis j k a ((List.mem_cons.mp hj).resolve_left nj) ((List.mem_cons.mp hk).resolve_left nk) e f
  · have ho : ∀ x, Own (L.set i (some (.ref a))) (i :: Ox O i) x → Own L O x ∨ x = a := fun x ⟨j, hj, e⟩ => by
      rcases set_at e with ⟨_, z, _⟩ | ⟨hi, e'⟩
      · cases z; exact .inr rfl
      · rcases List.mem_cons.mp hj with rfl | hj
        · exact absurd rfl hi
        · exact .inl ⟨j, (mem_Ox.mp hj).1, e'⟩
    have hs : ∀ x, BO B (L.set i (some (.ref a))) (i :: Ox O i) x → BO B L O x ∨ x = a := fun x z => by
      rcases z with z | z
      · exact .inl (.inl z)
      · exact (ho x z).imp .inr id
    have hb : ∀ x, ¬ (BO B L O x ∨ x = a) → x < w'.M.length → ¬ BO B (L.set i (some (.ref a))) (i :: Ox O i) x := fun x h _ z => h (hs x z)
    have hb0 : ∀ x, ¬ BO B L O x → x < w.M.length → ¬ (BO B L O x ∨ x = a) := fun x h l z => z.elim h fun z => by omega
    have own_lt : ∀ {j x}, j ∈ O → L[j]? = some (some (.ref x)) → x < w.M.length := fun {j x} hj e => S.wf.bB x (.inr ⟨j, hj, e⟩)
    refine ⟨hw.bad hb fun x z => hw.bB x (hs x z), by simp [S.len], fun j u e => ?_, fun j e => ?_, fun j k x hj hk e f => ?_, fun x h => ?_⟩
    · rcases set_at e with ⟨rfl, z, hl⟩ | ⟨hi, e⟩
      · cases z
        exact ⟨t, List.getElem?_set_self (by rw [S.len]; exact hl), fun h => absurd List.mem_cons_self h, fun _ => .inr ⟨a, rfl, ht.bad hb⟩⟩
      · obtain ⟨t', e1, h1, h2⟩ := S.env j u e
        refine ⟨t', by rw [List.getElem?_set_ne hi]; exact e1, fun hj => ?_, fun hj => ?_⟩
        · exact (((h1 fun z => hj (List.mem_cons_of_mem _ (mem_Ox.mpr ⟨z, Ne.symm hi⟩))).bad hb0).goB G).bad hb
        · have hj2 : j ∈ O := by
            rcases List.mem_cons.mp hj with z | z
            · exact absurd z.symm hi
            · exact (mem_Ox.mp z).1
          rcases h2 hj2 with ⟨f, h⟩ | ⟨x, rfl, h⟩
          · exact .inl ⟨f, ((h.bad hb0).goB G).bad hb⟩
          · exact .inr ⟨x, rfl, ((h.bad hb0).goB G (S.wf.nlv (.inr ⟨j, hj2, e⟩))).bad hb⟩
    · rcases set_at e with ⟨rfl, z, _⟩ | ⟨hi, e⟩
      · cases z
      · rw [List.getElem?_set_ne hi]; exact S.non j e
    · have q : ∀ {j}, j ∈ i :: Ox O i → (L.set i (some (.ref a)))[j]? = some (some (.ref x)) → (j = i ∧ x = a) ∨ (j ∈ O ∧ L[j]? = some (some (.ref x)) ∧ x < w.M.length) := fun {j} hj e => by
        rcases set_at e with ⟨rfl, z, _⟩ | ⟨hi, e⟩
        · cases z; exact .inl ⟨rfl, rfl⟩
        · rcases List.mem_cons.mp hj with z | z
          · exact absurd z.symm hi
          · exact .inr ⟨(mem_Ox.mp z).1, e, own_lt (mem_Ox.mp z).1 e⟩
      rcases q hj e with ⟨rfl, z1⟩ | ⟨h1, h2, h3⟩
      · rcases q hk f with ⟨rfl, _⟩ | ⟨_, _, h3⟩
        · rfl
        · omega
      · rcases q hk f with ⟨_, z1⟩ | ⟨h4, h5, _⟩
        · omega
        · exact S.dis j k x h1 h4 h2 h5
    · rcases ho x h with h | rfl
      · exact S.om x h
      · exact ⟨by omega, fun z => by have := S.wf.bB x (.inl z); omega⟩
/-- an own object is changed -/
theorem St.mut (S : St g m0 B w O E L) {i a : Nat} (hi : i ∈ O) (hl : L[i]? = some (some (.ref a))) {t : T} {o : Ob} (ho : ObR g (BO B L O) w t o) : St g m0 B (w.setM a o) O (E.set i (some t)) L := by
  have hba : BO B L O a := .inr ⟨i, hi, hl⟩
  have np : ¬ w.P (BO B L O) a := fun z => z.2 hba
  have hla := S.wf.bB a hba
  have hil : i < E.length := by rw [S.len]; exact (List.getElem?_eq_some_iff.mp hl).1
  refine ⟨S.wf.setM hba, by simp [S.len], fun j u e => ?_, fun j e => ?_, S.dis, S.om⟩
  · by_cases hij : i = j
    · subst hij
      rw [hl] at e
      cases e
      exact ⟨t, List.getElem?_set_self hil, fun h => absurd hi h, fun _ => .inr ⟨a, rfl, ho.top (setM_at hla) fun _ _ r => r.setM np⟩⟩
    · obtain ⟨t', e1, h1, h2⟩ := S.env j u e
      refine ⟨t', by rw [List.getElem?_set_ne hij]; exact e1, fun hj => (h1 hj).setM np, fun hj => ?_⟩
      rcases h2 hj with ⟨f, h⟩ | ⟨x, rfl, h⟩
      · exact .inl ⟨f, h.setM np⟩
      · exact .inr ⟨x, rfl, h.setM np fun z => hij (S.dis i j a hi hj hl (z ▸ e))⟩
  · have hij : i ≠ j := fun z => by
      subst z
      rw [hl] at e; cases e
    rw [List.getElem?_set_ne hij]; exact S.non j e
theorem go_setM {Ow : Nat → Prop} {a : Nat} {o : Ob} (h : Ow a) : Go Ow Ow w (w.setM a o) := ⟨Nat.le_refl _, fun _ _ => rfl, by rw [setM_len]; exact Nat.le_refl _, fun x u l n m => ⟨l, n, by
  rw [setM_ne (show a ≠ x from fun z => n (by rw [← z]; exact h))]; exact m⟩⟩
end
/-! ### statements -/
def OwF (On Ol : List Nat) : Pa.Fl → Nat → Prop
  | .nx L => Own L On
  | .bk L => Own L Ol
  | .ct L => Own L Ol
  | .rt _ => Nb
def FlOk (g : Cfg) (m0 : Nat) (B : Nat → Prop) (On Ol : List Nat) (fr : Bool) (w : Wd) : Fl → Pa.Fl → Prop
  | .nx E, .nx L => St g m0 B w On E L
  | .bk E, .bk L => St g m0 B w Ol E L
  | .ct E, .ct L => St g m0 B w Ol E L
  | .rt t, .rt v => Wf g B w ∧ RW g B w t v ∧ (fr = true → Frs g B m0 w t v)
  | _, _ => False
def OutS (g : Cfg) (m0 : Nat) (B : Nat → Prop) (Ow : Nat → Prop) (On Ol : List Nat) (fr : Bool) (w : Wd) (r : Pa.R Pa.Fl) (f : Fl) (σ' : Sto) : Prop :=
  ∃ f' w', w'.σ = σ' ∧ r = .ok f' w'.M ∧ Go Ow (OwF On Ol f') w w' ∧ FlOk g m0 B On Ol fr w' f f'
def TS (g : Cfg) (O : List Nat) (d : Pa.Ds) (e : Ds) (On Ol : List Nat) (fr : Bool) : Prop :=
  ∀ m0 B w E L f σ', St g m0 B w O E L → m0 ≤ w.M.length → e E w.σ = .ok f σ' → OutS g m0 B (Own L O) On Ol fr w (d L w.M) f σ'
def sSkip : Ds := fun E σ => .ok (.nx E) σ
def sSeq (a b : Ds) : Ds := fun E σ => (a E σ).bind fun f σ1 => match f with
  | .nx E1 => b E1 σ1
  | .rt v => .ok (.rt v) σ1
  | .bk E1 => .ok (.bk E1) σ1
  | .ct E1 => .ok (.ct E1) σ1
def sIf (c : D) (a b : Ds) : Ds := fun E σ => (c E σ).bind fun v σ1 => match v with
  | .bl true => a E σ1
  | .bl false => b E σ1
  | _ => .no
def sRet (d : D) : Ds := fun E σ => (d E σ).bind fun v σ1 => .ok (.rt v) σ1
def sRetN : Ds := fun _ σ => .ok (.rt .non) σ
def sExpr (d : D) : Ds := fun E σ => (d E σ).bind fun _ σ1 => .ok (.nx E) σ1
def sBrk : Ds := fun E σ => .ok (.bk E) σ
def sCont : Ds := fun E σ => .ok (.ct E) σ
def sSet (i : Nat) (d : D) : Ds := fun E σ => (d E σ).bind fun v σ1 => .ok (.nx (E.set i (some v))) σ1
def sNever : Ds := fun _ _ => .no
section
variable {g : Cfg} {O O1 On Ol : List Nat} {fr : Bool} {d : Pa.D} {e : D} {a b : Pa.Ds} {ea eb : Ds}
theorem Go.wkO {Ow Ow1 Ow2 : Nat → Prop} {w w1 : Wd} (a : Go Ow Ow1 w w1) (h : ∀ x, Ow2 x → Ow1 x) : Go Ow Ow2 w w1 := ⟨a.sl, a.rh, a.ml, fun x o l n m => by
  obtain ⟨h1, h2, h3⟩ := a.kp x o l n m
  exact ⟨h1, fun z => h2 (h x z), h3⟩⟩
theorem Go.wkI {Ow Ow1 Ow2 : Nat → Prop} {w w1 : Wd} (a : Go Ow Ow1 w w1) (h : ∀ x, Ow x → Ow2 x) : Go Ow2 Ow1 w w1 := ⟨a.sl, a.rh, a.ml, fun x o l n m => a.kp x o l (fun z => n (h x z)) m⟩
/-- own ones are no longer changed -/
theorem ts_sub (h : TS g O1 a ea On Ol fr) (hO : ∀ i ∈ O1, i ∈ O) : TS g O a ea On Ol fr := fun m0 B w E L f σ' S hm e => by
  obtain ⟨f', w', h1, h2, h3, h4⟩ := h _ _ _ _ _ _ _ (S.sub hO) hm e
  exact ⟨f', w', h1, h2, h3.wkI fun x z => z.sub hO, h4⟩
theorem ts_end (h : TS g O a ea O1 Ol fr) (hO : ∀ i ∈ On, i ∈ O1) : TS g O a ea On Ol fr := fun m0 B w E L f σ' S hm e => by
  obtain ⟨f', w', h1, h2, h3, h4⟩ := h _ _ _ _ _ _ _ S hm e
  refine ⟨f', w', h1, h2, ?_, ?_⟩
  · cases f' with
    | nx L' => exact h3.wkO fun x z => Own.sub hO z
    | _ => exact h3
  · cases f <;> cases f' <;> first | exact h4 | exact h4.elim | exact St.sub h4 hO
theorem ts_skip : TS g O Pa.xSkip sSkip O Ol fr := fun m0 B w E L f σ' S hm e => by
  cases e
  exact ⟨.nx L, w, rfl, rfl, .refl, S⟩
theorem ts_brk : TS g Ol Pa.xBrk sBrk On Ol fr := fun m0 B w E L f σ' S hm e => by
  cases e
  exact ⟨.bk L, w, rfl, rfl, .refl, S⟩
theorem ts_cont : TS g Ol Pa.xCont sCont On Ol fr := fun m0 B w E L f σ' S hm e => by
  cases e
  exact ⟨.ct L, w, rfl, rfl, .refl, S⟩
theorem ts_never : TS g O Pa.xNever sNever On Ol fr := fun m0 B w E L f σ' S hm e => by cases e
theorem ts_seq (ha : TS g O a ea O1 Ol fr) (hb : TS g O1 b eb On Ol fr) : TS g O (Pa.xSeq a b) (sSeq ea eb) On Ol fr := fun m0 B w E L f σ' S hm e => by
  obtain ⟨f1, σ1, e1, e⟩ := R.bind_eq e
  obtain ⟨f1', w1, rfl, h2, h3, h4⟩ := ha _ _ _ _ _ _ _ S hm e1
  simp only [Pa.xSeq, h2, Pa.R.bind_ok]
  cases f1 <;> cases f1' <;> first | exact h4.elim | skip
  · obtain ⟨f2', w2, q1, q2, q3, q4⟩ := hb _ _ _ _ _ _ _ h4 (Nat.le_trans hm h3.ml) e
    exact ⟨f2', w2, q1, q2, h3.trans q3, q4⟩
  · cases e
    exact ⟨_, w1, rfl, rfl, h3, h4⟩
  · cases e
    exact ⟨_, w1, rfl, rfl, h3, h4⟩
  · cases e
    exact ⟨_, w1, rfl, rfl, h3, h4⟩
theorem OutS.go {m0 : Nat} {B : Nat → Prop} {Ow : Nat → Prop} {w w1 : Wd} {r : Pa.R Pa.Fl} {f : Fl} {σ' : Sto} (h : OutS g m0 B Ow On Ol fr w1 r f σ') (a : Gx w w1) : OutS g m0 B Ow On Ol fr w r f σ' := by
  obtain ⟨f', w', h1, h2, h3, h4⟩ := h
  exact ⟨f', w', h1, h2, a.wk.trans h3, h4⟩
theorem ts_if {c : Pa.D} {ec : D} (hc : XP g O c ec) (ha : TS g O a ea On Ol fr) (hb : TS g O b eb On Ol fr) : TS g O (Pa.xIf c a b) (sIf ec ea eb) On Ol fr := fun m0 B w E L f σ' S hm e => by
  obtain ⟨x, σ1, e1, e⟩ := R.bind_eq e
  refine hc.then (K := fun w r => m0 ≤ w.M.length → OutS g m0 B (Own L O) On Ol fr w r f σ') (fun w w1 r a h q => (h (Nat.le_trans q a.ml)).go a) S e1 (fun v w1 hs G1 S1 P1 hm1 => ?_) hm
  subst hs
  cases x with
  | bl k =>
    cases P1.bl
    cases k
    · exact hb _ _ _ _ _ _ _ S1 hm1 e
    · exact ha _ _ _ _ _ _ _ S1 hm1 e
  | _ => cases e
theorem ts_ret (hd : XE g [] d e) : TS g O (Pa.xRet d) (sRet e) On Ol false := ts_sub (O1 := []) (fun m0 B w E L f σ' S hm q => by
  obtain ⟨t, σ1, e1, q⟩ := R.bind_eq q
  cases q
  obtain ⟨v, w', h1, h2, h3, h4, h5⟩ := hd _ _ _ _ _ _ _ S e1
  have hb : ∀ a, ¬ BO B L [] a → a < w'.M.length → ¬ B a := fun a h _ z => h (.inl z)
  exact ⟨.rt v, w', h1, by simp only [Pa.xRet, h2, Pa.R.bind_ok], h3.wkI fun x z => z.elim, h4.bad hb fun a z => h4.bB a (.inl z), h5.bad hb, fun z => by cases z⟩) (fun i h => by cases h)
theorem Frs.bad0 {B : Nat → Prop} {L : Loc} {m : Nat} {w : Wd} {t : T} {v : Val} (h : Frs g (BO B L []) m w t v) : Frs g B m w t v := by
  rcases h with ⟨f, h⟩ | ⟨a, rfl, l, hw, ht⟩
  · exact .inl ⟨f, h.bad fun a h _ z => h (.inl z)⟩
  · refine .inr ⟨a, rfl, l, hw.bad (fun x h _ z => h (z.imp .inl id)) fun x z => hw.bB x (z.imp .inl id), ht.bad fun x h _ z => h (z.imp .inl id)⟩
theorem ts_retf (hd : XF g [] d e) : TS g O (Pa.xRet d) (sRet e) On Ol fr := ts_sub (O1 := []) (fun m0 B w E L f σ' S hm q => by
  obtain ⟨t, σ1, e1, q⟩ := R.bind_eq q
  cases q
  obtain ⟨v, w', h1, h2, h3, h4, h5⟩ := hd _ _ _ _ _ _ _ S e1
  have hb : ∀ a, ¬ BO B L [] a → a < w'.M.length → ¬ B a := fun a h _ z => h (.inl z)
  have h6 := h5.bad0
  exact ⟨.rt v, w', h1, by simp only [Pa.xRet, h2, Pa.R.bind_ok], h3.wkI fun x z => z.elim, h4.bad hb fun a z => h4.bB a (.inl z), h6.rp fun a z => S.wf.bB a (.inl z), fun _ => h6.le hm⟩) (fun i h => by cases h)
/-- an own one is told -/
theorem ts_retv {i : Nat} (hi : i ∈ O) : TS g O (Pa.xRet (Pa.dV i)) (sRet (eV i)) On Ol fr := fun m0 B w E L f σ' S hm q => by
  obtain ⟨t, σ1, e1, q⟩ := R.bind_eq q
  cases q
  obtain ⟨e2, rfl⟩ := eV_eq e1
  obtain ⟨v, hl, h1, h2⟩ := S.get e2
  have hb : ∀ a, ¬ BO B L O a → a < w.M.length → ¬ B a := fun a h _ z => h (.inl z)
  have W := S.wf.bad hb fun a z => S.wf.bB a (.inl z)
  refine ⟨.rt v, w, rfl, by simp only [Pa.xRet, Pa.dV, hl, Pa.R.bind_ok], Go.refl.wkO fun x z => z.elim, W, ?_⟩
  have hf : Frs g B m0 w t v := by
    rcases h2 hi with ⟨f, h⟩ | ⟨a, rfl, h⟩
    · exact .inl ⟨f, h.bad hb⟩
    · have z : Own L O a := ⟨i, hi, hl⟩
      have hs : ∀ x, (B x ∨ x = a) → BO B L O x := fun x y => y.elim .inl fun y => .inr (y ▸ z)
      exact .inr ⟨a, rfl, (S.om a z).1, S.wf.bad (fun x h _ y => h (hs x y)) fun x y => S.wf.bB x (hs x y), h.bad fun x h _ y => h (hs x y)⟩
  refine ⟨?_, fun _ => hf⟩
  rcases hf with h | ⟨a, rfl, l, hw, ht⟩
  · exact h.2
  · have z : Own L O a := ⟨i, hi, hl⟩
    exact (ht.bad fun x h _ y => h (.inl y)).rp ⟨S.wf.nlv (.inr z), (S.om a z).2⟩
theorem ts_retN : TS g O Pa.xRetN sRetN On Ol fr := ts_sub (O1 := []) (fun m0 B w E L f σ' S hm e => by
  cases e
  have hb : ∀ a, ¬ BO B L [] a → a < w.M.length → ¬ B a := fun a h _ z => h (.inl z)
  have W := S.wf.bad hb fun a z => S.wf.bB a (.inl z)
  have r : RW g B w .non .non := by rw [w_non]
  exact ⟨.rt .non, w, rfl, rfl, Go.refl.wkO fun x z => z.elim, W, r, fun _ => .inl ⟨rfl, r⟩⟩) (fun i h => by cases h)
theorem ts_expr (hd : XP g O d e) : TS g O (Pa.xExpr d) (sExpr e) O Ol fr := fun m0 B w E L f σ' S hm q => by
  obtain ⟨t, σ1, e1, q⟩ := R.bind_eq q
  cases q
  obtain ⟨v, w', h1, h2, h3, h4, h5⟩ := hd _ _ _ _ _ _ _ S e1
  exact ⟨.nx L, w', h1, by simp only [Pa.xExpr, h2, Pa.R.bind_ok], h3.wk, S.go h3 h4⟩
theorem own_set_sub {L : Loc} {i : Nat} {v : Option Val} : ∀ x, Own (L.set i v) (Ox O i) x → Own L O x := fun x z => z.set
theorem ts_set {i : Nat} (hd : XE g O d e) : TS g O (Pa.xSet i d) (sSet i e) (Ox O i) Ol fr := fun m0 B w E L f σ' S hm q => by
  obtain ⟨t, σ1, e1, q⟩ := R.bind_eq q
  cases q
  obtain ⟨v, w', h1, h2, h3, h4, h5⟩ := hd _ _ _ _ _ _ _ S e1
  exact ⟨.nx (L.set i (some v)), w', h1, by simp only [Pa.xSet, h2, Pa.R.bind_ok], h3.wk.wkO own_set_sub, (S.go h3 h4).upd h5⟩
theorem ts_setf {i : Nat} (hd : XF g O d e) : TS g O (Pa.xSet i d) (sSet i e) (i :: Ox O i) Ol fr := fun m0 B w E L f σ' S hm q => by
  obtain ⟨t, σ1, e1, q⟩ := R.bind_eq q
  cases q
  obtain ⟨v, w', h1, h2, h3, h4, h5⟩ := hd _ _ _ _ _ _ _ S e1
  refine ⟨.nx (L.set i (some v)), w', h1, by simp only [Pa.xSet, h2, Pa.R.bind_ok], ⟨h3.sl, h3.rh, h3.ml, fun x o l n m => ?_⟩, S.updF hm h3 h4 h5⟩
  obtain ⟨k1, _, k3⟩ := h3.kp x o l (fun z => z) m
  refine ⟨k1, ?_, k3⟩
  rintro ⟨j, hj, q⟩
  rcases set_at q with ⟨_, z, _⟩ | ⟨hi, q⟩
  · cases z
    have lx := (List.getElem?_eq_some_iff.mp m).1
    rcases h5 with ⟨hf, hr⟩ | ⟨a, e, hl, _, _⟩
    · exact flat_nref hf hr
    · cases e
      omega
  · rcases List.mem_cons.mp hj with z | z
    · exact hi z.symm
    · exact n ⟨j, (mem_Ox.mp z).1, q⟩
end
end Tr

/-! Trees: what changes objects; loops; defs. -/
namespace Tr
open Pa (Val Ob Mem Cfg DKey Loc)
/-! ### methods of lists that change them -/
def LM (g : Cfg) (f : Val → List Val → Mem → Pa.R Val) (p : List T → List T → Option (List T × T)) : Prop :=
  ∀ B (w : Wd) a xs vs ts us xs' r, w.M[a]? = some (.lst vs) → RWs g B w xs vs → RWs g B w ts us → p xs ts = some (xs', r) → ∃ vs' rv, f (.ref a) us w.M = .ok rv (w.M.set a (.lst vs')) ∧ RWs g B w xs' vs' ∧ RW g B w r rv
def pAppend (xs ts : List T) : Option (List T × T) := match ts with
  | [t] => if xs.length < 1000000 then some (xs ++ [t], .non) else none
  | _ => none
def pExtend (xs ts : List T) : Option (List T × T) := match ts with
  | [.lst ys] => if xs.length + ys.length ≤ 1000000 then some (xs ++ ys, .non) else none
  | _ => none
def pPop (xs ts : List T) : Option (List T × T) := match ts, xs[xs.length - 1]? with
  | [], some t => some (xs.dropLast, t)
  | _, _ => none
def pClear (xs ts : List T) : Option (List T × T) := match ts with
  | [] => some ([], .non)
  | _ => none
def pReverse (xs ts : List T) : Option (List T × T) := match ts with
  | [] => some (xs.reverse, .non)
  | _ => none
section
variable {g : Cfg}
theorem lm_append : LM g Pa.mAppend pAppend := fun B w a xs vs ts us xs' r m h hs e => by
  unfold pAppend at e
  split at e
  · rename_i t
    split at e
    · rename_i hl
      cases e
      rw [ws_cons] at hs
      obtain ⟨u, us', rfl, hu, hs⟩ := hs
      rw [ws_nil] at hs
      subst hs
      rw [← h.len] at hl
      exact ⟨vs ++ [u], .non, by simp only [Pa.mAppend, m, hl, if_true], h.app (Rps.one hu), by rw [w_non]⟩
    · cases e
  · cases e
theorem lm_extend : LM g Pa.mExtend pExtend := fun B w a xs vs ts us xs' r m h hs e => by
  unfold pExtend at e
  split at e
  · rename_i ys
    split at e
    · rename_i hl
      cases e
      rw [ws_cons] at hs
      obtain ⟨u, us', rfl, hu, hs⟩ := hs
      rw [ws_nil] at hs
      subst hs
      have hu' : Rd g B w (.lst ys) u := .inl hu
      obtain ⟨b, vs', rfl, m', _, r'⟩ := hu'.lst
      rw [← h.len, ← r'.len] at hl
      exact ⟨vs ++ vs', .non, by simp only [Pa.mExtend, m, m', hl, if_true], h.app r', by rw [w_non]⟩
    · cases e
  · cases e
theorem Rps.dropLast {ρ : Nat → Nat} {n : Nat} {P : Nat → Prop} {M : Mem} {ts : List T} {vs : List Val} (h : Rps g ρ n P M ts vs) : Rps g ρ n P M ts.dropLast vs.dropLast := by
  rw [List.dropLast_eq_take, List.dropLast_eq_take, h.len]
  exact h.take _
theorem lm_pop : LM g Pa.mPop pPop := fun B w a xs vs ts us xs' r m h hs e => by
  unfold pPop at e
  split at e
  · rename_i t ht
    cases e
    rw [ws_nil] at hs
    subst hs
    obtain ⟨v, e1, hv⟩ := h.get ht
    rw [← h.len] at e1
    exact ⟨vs.dropLast, v, by simp only [Pa.mPop, m, e1], h.dropLast, hv⟩
  · cases e
theorem lm_clear : LM g Pa.mClear pClear := fun B w a xs vs ts us xs' r m h hs e => by
  unfold pClear at e
  split at e
  · cases e
    rw [ws_nil] at hs
    subst hs
    exact ⟨[], .non, Pa.w_clear m, Rps.nil, by rw [w_non]⟩
  · cases e
theorem lm_reverse : LM g Pa.mReverse pReverse := fun B w a xs vs ts us xs' r m h hs e => by
  unfold pReverse at e
  split at e
  · cases e
    rw [ws_nil] at hs
    subst hs
    exact ⟨vs.reverse, .non, Pa.w_reverse m, h.rev, by rw [w_non]⟩
  · cases e
end
/-! own ones -/
def sMut (p : List T → List T → Option (List T × T)) (i : Nat) (es : DA) : Ds := fun E σ => (es E σ).bind fun ts σ1 => match E[i]? with
  | some (some (.lst xs)) => (match p xs ts with
    | some (xs', _) => .ok (.nx (E.set i (some (.lst xs')))) σ1
    | none => .no)
  | _ => .no
def sMutR (p : List T → List T → Option (List T × T)) (i j : Nat) (es : DA) : Ds := fun E σ => (es E σ).bind fun ts σ1 => match E[i]? with
  | some (some (.lst xs)) => (match p xs ts with
    | some (xs', r) => .ok (.nx ((E.set i (some (.lst xs'))).set j (some r))) σ1
    | none => .no)
  | _ => .no
section
variable {g : Cfg} {O Ol On : List Nat} {fr : Bool} {ds : Pa.DA} {es : DA} {f : Val → List Val → Mem → Pa.R Val} {p : List T → List T → Option (List T × T)}
theorem St.own {m0 : Nat} {B : Nat → Prop} {w : Wd} {E : Env} {L : Loc} (S : St g m0 B w O E L) {i : Nat} {t : T} (hi : i ∈ O) (e : E[i]? = some (some t)) (nf : flatT t = false) : ∃ a, L[i]? = some (some (.ref a)) ∧ Top g (BO B L O) w t a := by
  obtain ⟨v, hl, _, h2⟩ := S.get e
  rcases h2 hi with ⟨f, _⟩ | ⟨a, rfl, h⟩
  · rw [nf] at f; cases f
  · exact ⟨a, hl, h⟩
/-- the step that all own changes share -/
theorem mut_step (hf : LM g f p) {i : Nat} (hi : i ∈ O) (hs : XA g O ds es) {m0 : Nat} {B : Nat → Prop} {w : Wd} {E : Env} {L : Loc} {ts : List T} {σ1 : Sto} {xs xs' : List T} {r : T} (S : St g m0 B w O E L) (hm : m0 ≤ w.M.length)
    (e1 : es E w.σ = .ok ts σ1) (e2 : E[i]? = some (some (.lst xs))) (e3 : p xs ts = some (xs', r)) :
    ∃ rv w', w'.σ = σ1 ∧ Pa.dM "list" f (Pa.dV i) ds L w.M = .ok rv w'.M ∧ Go (Own L O) (Own L O) w w' ∧ St g m0 B w' O (E.set i (some (.lst xs'))) L ∧ RW g (BO B L O) w' r rv := by
  obtain ⟨a, hl, z⟩ := S.own hi e2 rfl
  obtain ⟨us, w1, rfl, q2, G1, W1, R1⟩ := hs _ _ _ _ _ _ _ S e1
  have S1 := S.go G1 W1
  obtain ⟨a', hl', z1⟩ := S1.own hi e2 rfl
  rw [hl] at hl'
  cases hl'
  obtain ⟨vs0, m0', _⟩ := z
  obtain ⟨vs, m1, r1⟩ := z1
  obtain ⟨vs', rv, q3, r2, r3⟩ := hf _ _ _ _ _ _ _ _ _ m1 r1 R1 e3
  have hba : Own L O a := ⟨i, hi, hl⟩
  refine ⟨rv, w1.setM a (.lst vs'), rfl, ?_, (Go.wk G1).trans (go_setM hba), S1.mut hi hl (t := .lst xs') ⟨vs', rfl, r2⟩, r3.setM fun z => z.2 (.inr hba)⟩
  simp only [Pa.dM, Pa.dV, hl, Pa.R.bind_ok, Pa.isTy, m0', beq_self_eq_true, if_true, q2]
  exact q3
theorem ts_mut (hf : LM g f p) {i : Nat} (hi : i ∈ O) (hs : XA g O ds es) : TS g O (Pa.xExpr (Pa.dM "list" f (Pa.dV i) ds)) (sMut p i es) O Ol fr := fun m0 B w E L fl σ' S hm e => by
  obtain ⟨ts, σ1, e1, e⟩ := R.bind_eq e
  split at e
  · rename_i xs e2
    split at e
    · rename_i xs' r e3
      cases e
      obtain ⟨rv, w', h1, h2, h3, h4, h5⟩ := mut_step hf hi hs S hm e1 e2 e3
      exact ⟨.nx L, w', h1, by simp only [Pa.xExpr, h2, Pa.R.bind_ok], h3, h4⟩
    · cases e
  · cases e
theorem ts_mutR (hf : LM g f p) {i j : Nat} (hi : i ∈ O) (hs : XA g O ds es) : TS g O (Pa.xSet j (Pa.dM "list" f (Pa.dV i) ds)) (sMutR p i j es) (Ox O j) Ol fr := fun m0 B w E L fl σ' S hm e => by
  obtain ⟨ts, σ1, e1, e⟩ := R.bind_eq e
  split at e
  · rename_i xs e2
    split at e
    · rename_i xs' r e3
      cases e
      obtain ⟨rv, w', h1, h2, h3, h4, h5⟩ := mut_step hf hi hs S hm e1 e2 e3
      exact ⟨.nx (L.set j (some rv)), w', h1, by simp only [Pa.xSet, h2, Pa.R.bind_ok], h3.wkO own_set_sub, h4.upd h5⟩
    · cases e
  · cases e
/-- a method without arguments -/
theorem dM0_eq {d : Pa.D} : Pa.dM0 "list" f d = Pa.dM "list" f d Pa.aNil := rfl
theorem ts_mut0 (hf : LM g f p) {i : Nat} (hi : i ∈ O) : TS g O (Pa.xExpr (Pa.dM0 "list" f (Pa.dV i))) (sMut p i aNil) O Ol fr := by
  rw [dM0_eq]
  exact ts_mut hf hi xa_nil
theorem ts_mutR0 (hf : LM g f p) {i j : Nat} (hi : i ∈ O) : TS g O (Pa.xSet j (Pa.dM0 "list" f (Pa.dV i))) (sMutR p i j aNil) (Ox O j) Ol fr := by
  rw [dM0_eq]
  exact ts_mutR hf hi xa_nil
end
/-! cells -/
def isLc (σ : Sto) (x : T) : Bool := match x with
  | .ptr k => (match σ[k]? with
    | some (some (.lst _)) => true
    | _ => false)
  | _ => false
def mutC (p : List T → List T → Option (List T × T)) (x : T) (ts : List T) (σ : Sto) : R T := match x with
  | .ptr k => (match σ[k]? with
    | some (some (.lst xs)) => (match p xs ts with
      | some (xs', r) => .ok r (σ.set k (some (.lst xs')))
      | none => .no)
    | _ => .no)
  | _ => .no
def eMut (p : List T → List T → Option (List T × T)) (d : D) (es : DA) : D := fun E σ => (d E σ).bind fun x σ1 => if isLc σ1 x = true then (es E σ1).bind fun ts σ2 => mutC p x ts σ2 else .no
def eCell (d : D) : D := fun E σ => (d E σ).bind fun x σ1 => if flatT x = true then .ok x σ1 else .ok (.ptr σ1.length) (σ1 ++ [some x])
def eFrz (d : D) : D := fun E σ => (d E σ).bind fun x σ1 => match x with
  | .ptr k => (match σ1[k]? with
    | some (some t) => .ok t (σ1.set k none)
    | _ => .no)
  | _ => .no
section
variable {g : Cfg} {O Ol On : List Nat} {d : Pa.D} {ed : D} {ds : Pa.DA} {es : DA} {f : Val → List Val → Mem → Pa.R Val} {p : List T → List T → Option (List T × T)}
theorem cell_lst {B : Nat → Prop} {w : Wd} {k : Nat} {v : Val} {t : T} (W : Wf g B w) (h : RW g B w (.ptr k) v) (e : w.σ[k]? = some (some t)) : v = .ref (w.ρ k) ∧ Top g B w t (w.ρ k) := by
  rw [w_ptr] at h
  exact ⟨h.2, (W.at_ k t e).1⟩
theorem xmut (hf : LM g f p) (hd : XE g O d ed) (hs : XA g O ds es) : XE g O (Pa.dM "list" f d ds) (eMut p ed es) := fun m0 B w E L t σ' S e => by
  obtain ⟨x, σ1, e1, e⟩ := R.bind_eq e
  refine hd.then (K := fun w r => Out g (BO B L O) w r t σ') goO S e1 fun v w1 hs1 G1 S1 P1 => ?_
  subst hs1
  split at e
  · rename_i hx
    obtain ⟨ts, σ2, e2, e⟩ := R.bind_eq e
    cases x with
    | ptr k =>
      simp only [isLc] at hx
      split at hx
      · rename_i xs0 hk0
        obtain ⟨rfl, vs0, mm0, _⟩ := cell_lst S1.wf P1 hk0
        simp only [Pa.isTy, mm0, beq_self_eq_true, if_true]
        refine hs.then (K := fun w r => Out g (BO B L O) w r t σ') goO S1 e2 fun us w2 hs1 G2 S2 P2 => ?_
        subst hs1
        have P1' := P1.goB G2
        simp only [mutC] at e
        split at e
        · rename_i xs hk
          split at e
          · rename_i xs' r hp
            cases e
            obtain ⟨ev, vs, mm, rr⟩ := cell_lst S2.wf P1' hk
            rw [ev]
            obtain ⟨vs', rv, q3, r2, r3⟩ := hf _ _ _ _ _ _ _ _ _ mm rr P2 hp
            rw [q3]
            have ho : ObR g (BO B L O) w2 (.lst xs') (.lst vs') := ⟨vs', rfl, r2⟩
            exact ⟨rv, w2.setC k (.lst xs') (.lst vs'), rfl, rfl, gx_setC hk, S2.wf.setC hk ho, r3.setC hk⟩
          · cases e
        · cases e
      · cases hx
    | _ => cases hx
  · cases e
theorem xmut0 (hf : LM g f p) (hd : XE g O d ed) : XE g O (Pa.dM0 "list" f d) (eMut p ed aNil) := by
  rw [dM0_eq]
  exact xmut hf hd xa_nil
theorem xcell (hd : XF g O d ed) : XE g O d (eCell ed) := fun m0 B w E L t σ' S e => by
  obtain ⟨x, σ1, e1, e⟩ := R.bind_eq e
  obtain ⟨v, w1, rfl, q2, G1, W1, F1⟩ := hd _ _ _ _ _ _ _ S e1
  split at e
  · cases e
    exact ⟨v, w1, rfl, q2, G1, W1, F1.rp S.wf.bB⟩
  · rename_i hx
    cases e
    rcases F1 with ⟨z, _⟩ | ⟨a, rfl, hl, hw, ht⟩
    · exact absurd z hx
    · refine ⟨.ref a, w1.newC x a, rfl, q2, ⟨by simp [Wd.newC]; exact Nat.le_succ_of_le G1.sl, fun i h => ?_, G1.ml, fun y o l n m => ?_⟩, hw.newC ht fun z => ?_, ?_⟩
      · rw [newC_rho (Nat.lt_of_lt_of_le h G1.sl)]
        exact G1.rh i h
      · obtain ⟨k1, k2, k3⟩ := G1.kp y o l n m
        refine ⟨fun z => (newC_lv z).elim k1 fun e => ?_, k2, k3⟩
        have := (List.getElem?_eq_some_iff.mp m).1
        omega
      · have := S.wf.bB a z
        omega
      · rw [w_ptr]
        refine ⟨by simp [Wd.newC], ?_⟩
        exact congrArg Val.ref (show a = if w1.σ.length = w1.σ.length then a else _ by rw [if_pos rfl])
theorem xfrz (hd : XE g O d ed) : XE g O d (eFrz ed) := fun m0 B w E L t σ' S e => by
  obtain ⟨x, σ1, e1, e⟩ := R.bind_eq e
  obtain ⟨v, w1, rfl, q2, G1, W1, R1⟩ := hd _ _ _ _ _ _ _ S e1
  split at e
  · rename_i k
    split at e
    · rename_i t' hk
      cases e
      obtain ⟨rfl, ht⟩ := cell_lst W1 R1 hk
      refine ⟨_, w1.offC k, rfl, q2, G1.trans gx_offC, W1.offC, ?_⟩
      refine (ht.of (fun _ _ r => r.goB gx_offC) fun o m => m).rp ⟨fun ⟨i, u, e, z⟩ => ?_, (W1.at_ k t hk).2⟩
      obtain ⟨n, e⟩ := offC_at e
      exact n (W1.inj i k _ _ e hk z)
    · cases e
  · cases e
end
/-! ### a[b] = c, a.f = c -/
def rplT : List DKey → List T → DKey → T → List T
  | k :: ks, x :: xs, j, t => (if k = j then t else x) :: rplT ks xs j t
  | _, _, _, _ => []
def putKs (ks : List DKey) (j : DKey) : List DKey := if (ks.any fun k => decide (k = j)) = true then ks else ks ++ [j]
def putXs (ks : List DKey) (xs : List T) (j : DKey) (t : T) : List T := if (ks.any fun k => decide (k = j)) = true then rplT ks xs j t else xs ++ [t]
def setT (x y v : T) : Option T := match x with
  | .lst xs => (match y with
    | .int i => (match L2.ixN xs.length i with
      | some j => some (.lst (xs.set j v))
      | none => none)
    | _ => none)
  | .dk ks xs => (match keyT y with
    | some k => if ks.length < 1000000 then some (.dk (putKs ks k) (putXs ks xs k v)) else none
    | none => none)
  | _ => none
def putN (ns : List String) (f : String) : List String := match ns with
  | [] => [f]
  | n :: r => if n = f then n :: r else n :: putN r f
def putX (ns : List String) (xs : List T) (f : String) (t : T) : List T := match ns, xs with
  | n :: ns, x :: xs => if n = f then t :: xs else x :: putX ns xs f t
  | _, _ => [t]
section
variable {g : Cfg}
theorem rpl_rp {ρ : Nat → Nat} {n : Nat} {P : Nat → Prop} {M : Mem} {t : T} {v : Val} {j : DKey} (ht : Rp g ρ n P M t v) : ∀ {ks : List DKey} {xs : List T} {vs : List Val}, ks.length = xs.length → Rps g ρ n P M xs vs → ∃ vs', (ks.zip vs).map (fun p => if p.1 = j then (p.1, v) else p) = ks.zip vs' ∧ Rps g ρ n P M (rplT ks xs j t) vs' ∧ (rplT ks xs j t).length = ks.length
  | [], xs, vs, l, r => ⟨[], rfl, by simp only [rplT]; exact Rps.nil, by simp [rplT]⟩
  | k :: ks, [], vs, l, r => by simp at l
  | k :: ks, x :: xs, vs, l, r => by
    rw [rps_cons] at r
    obtain ⟨u, us, rfl, a, r⟩ := r
    obtain ⟨vs', e1, r1, l1⟩ := rpl_rp (j := j) ht (ks := ks) (by simpa using l) r
    refine ⟨(if k = j then v else u) :: vs', ?_, ?_, by simp only [rplT, List.length_cons, l1]⟩
    · rw [List.zip_cons_cons, List.map_cons, e1, List.zip_cons_cons]
      by_cases e : k = j <;> simp [e]
    · simp only [rplT]
      refine Rps.cons ?_ r1
      by_cases e : k = j
      · rw [if_pos e, if_pos e]; exact ht
      · rw [if_neg e, if_neg e]; exact a
theorem zip_any {ks : List DKey} {vs : List Val} {j : DKey} (l : ks.length = vs.length) : ((ks.zip vs).any fun p => decide (p.1 = j)) = ks.any fun k => decide (k = j) := by
  induction ks generalizing vs with
  | nil => simp
  | cons k ks ih =>
    cases vs with
    | nil => simp at l
    | cons v vs => rw [List.zip_cons_cons, List.any_cons, List.any_cons, ih (by simpa using l)]
theorem put_rp {ρ : Nat → Nat} {n : Nat} {P : Nat → Prop} {M : Mem} {t : T} {v : Val} {j : DKey} (ht : Rp g ρ n P M t v) {ks : List DKey} {xs : List T} {vs : List Val} (l : ks.length = xs.length) (r : Rps g ρ n P M xs vs) :
    ∃ vs', Pa.putk (ks.zip vs) j v = (putKs ks j).zip vs' ∧ Rps g ρ n P M (putXs ks xs j t) vs' ∧ (putKs ks j).length = (putXs ks xs j t).length := by
  have l2 : ks.length = vs.length := by rw [r.len, l]
  unfold Pa.putk putKs putXs
  rw [zip_any l2]
  by_cases h : (ks.any fun k => decide (k = j)) = true
  · obtain ⟨vs', e1, r1, l1⟩ := rpl_rp (j := j) ht l r
    rw [if_pos h, if_pos h, if_pos h]
    exact ⟨vs', e1, r1, l1.symm⟩
  · rw [if_neg h, if_neg h, if_neg h]
    refine ⟨vs ++ [v], ?_, r.app (Rps.one ht), by simp [l]⟩
    rw [List.zip_append l2]
    rfl
theorem fput_rp {ρ : Nat → Nat} {n : Nat} {P : Nat → Prop} {M : Mem} {t : T} {v : Val} {f : String} (ht : Rp g ρ n P M t v) : ∀ {ns : List String} {xs : List T} {vs : List Val}, ns.length = xs.length → Rps g ρ n P M xs vs → ∃ vs', Pa.putf f v (ns.zip vs) = (putN ns f).zip vs' ∧ Rps g ρ n P M (putX ns xs f t) vs' ∧ (putN ns f).length = (putX ns xs f t).length
  | [], xs, vs, l, r => by
    have : xs = [] := List.length_eq_zero_iff.mp l.symm
    subst this
    exact ⟨[v], rfl, by simp only [putX]; exact Rps.one ht, by simp only [putX, putN]; rfl⟩
  | k :: ks, [], vs, l, r => by simp at l
  | k :: ks, x :: xs, vs, l, r => by
    rw [rps_cons] at r
    obtain ⟨u, us, rfl, a, r⟩ := r
    simp only [List.zip_cons_cons, Pa.putf, putN, putX]
    by_cases e : k = f
    · rw [if_pos e, if_pos e, if_pos e]
      exact ⟨v :: us, rfl, Rps.cons ht r, l⟩
    · rw [if_neg e, if_neg e, if_neg e]
      obtain ⟨vs', e1, r1, l1⟩ := fput_rp ht (ns := ks) (by simpa using l) r
      exact ⟨u :: vs', by rw [e1]; rfl, Rps.cons a r1, by simp [l1]⟩
theorem set_ob {B : Nat → Prop} {w : Wd} {x y z x' : T} {a : Nat} {yv zv : Val} (h : Top g B w x a) (hy : Pk g B w y yv) (hz : RW g B w z zv) (e : setT x y z = some x') : ∃ o, Pa.setIx (.ref a) yv zv w.M = .ok () (w.M.set a o) ∧ ObR g B w x' o := by
  cases x with
  | lst xs =>
    obtain ⟨vs, m, r⟩ := h
    cases y <;> simp only [setT] at e <;> first | cases e | skip
    rename_i i
    cases hy.int
    split at e
    · rename_i j hj
      cases e
      rw [← r.len] at hj
      exact ⟨.lst (vs.set j zv), Pa.n_setL m hj, _, rfl, r.set j hz⟩
    · cases e
  | dk ks xs =>
    obtain ⟨vs, m, l, r⟩ := h
    simp only [setT] at e
    split at e
    · rename_i k hk
      split at e
      · rename_i hl
        cases e
        have z := keyT_ok hy hk
        obtain ⟨vs', e1, r1, l1⟩ := put_rp (j := k) hz l r
        have hl2 : (ks.zip vs).length < 1000000 := by
          rw [List.length_zip, r.len, ← l]
          simpa using hl
        refine ⟨.dk ((putKs ks k).zip vs'), ?_, vs', rfl, l1, r1⟩
        simp only [Pa.setIx, m, z, hl2, if_true, e1]
      · cases e
    · cases e
  | ins c ns xs => simp only [setT] at e; cases e
  | _ => exact h.elim
end
def sSub (i : Nat) (k d : D) : Ds := fun E σ => (d E σ).bind fun v σ1 => (k E σ1).bind fun y σ2 => match E[i]? with
  | some (some x) => (match setT x y v with
    | some x' => .ok (.nx (E.set i (some x'))) σ2
    | none => .no)
  | _ => .no
def setC (x y v : T) (σ : Sto) : R Unit := match x with
  | .ptr k => (match σ[k]? with
    | some (some t) => (match setT t y v with
      | some t' => .ok () (σ.set k (some t'))
      | none => .no)
    | _ => .no)
  | _ => .no
def sSubC (o k d : D) : Ds := fun E σ => (d E σ).bind fun v σ1 => (o E σ1).bind fun x σ2 => (k E σ2).bind fun y σ3 => (setC x y v σ3).bind fun _ σ4 => .ok (.nx E) σ4
def fldC (T0 : Pa.CTab) (x : T) (f : String) (v : T) (σ : Sto) : R Unit := match x with
  | .ptr k => (match σ[k]? with
    | some (some (.ins c ns xs)) => if Pa.hasF T0 c f = true ∧ ns.length < 100 then .ok () (σ.set k (some (.ins c (putN ns f) (putX ns xs f v)))) else .no
    | _ => .no)
  | _ => .no
def sFldC (T0 : Pa.CTab) (o : D) (f : String) (d : D) : Ds := fun E σ => (d E σ).bind fun v σ1 => (o E σ1).bind fun x σ2 => (fldC T0 x f v σ2).bind fun _ σ3 => .ok (.nx E) σ3
section
variable {g : Cfg} {O Ol On : List Nat} {fr : Bool} {o k d : Pa.D} {eo ek ed : D}
theorem ts_sub_own {i : Nat} (hi : i ∈ O) (hk : XP g O k ek) (hd : XE g O d ed) : TS g O (Pa.xSub (Pa.dV i) k d) (sSub i ek ed) O Ol fr := fun m0 B w E L fl σ' S hm e => by
  obtain ⟨z, σ1, e1, e⟩ := R.bind_eq e
  obtain ⟨y, σ2, e2, e⟩ := R.bind_eq e
  obtain ⟨zv, w1, rfl, q1, G1, W1, R1⟩ := hd _ _ _ _ _ _ _ S e1
  have S1 := S.go G1 W1
  obtain ⟨yv, w2, rfl, q2, G2, W2, R2⟩ := hk _ _ _ _ _ _ _ S1 e2
  have S2 := S1.go G2 W2
  split at e
  · rename_i x e3
    split at e
    · rename_i x' hx
      cases e
      have nf : flatT x = false := by
        cases x <;> first | rfl | (simp [setT] at hx)
      obtain ⟨a, hl, ht⟩ := S2.own hi e3 nf
      obtain ⟨o, q3, ho⟩ := set_ob ht R2 (R1.goB G2) hx
      have hba : Own L O a := ⟨i, hi, hl⟩
      refine ⟨.nx L, w2.setM a o, rfl, ?_, ((Go.wk G1).trans (Go.wk G2)).trans (go_setM hba), S2.mut hi hl ho⟩
      simp only [Pa.xSub, q1, Pa.R.bind_ok, Pa.dV, hl, q2]
      rw [q3]
      rfl
    · cases e
  · cases e
theorem ts_sub_c (ho : XE g O o eo) (hk : XP g O k ek) (hd : XE g O d ed) : TS g O (Pa.xSub o k d) (sSubC eo ek ed) O Ol fr := fun m0 B w E L fl σ' S hm e => by
  obtain ⟨z, σ1, e1, e⟩ := R.bind_eq e
  obtain ⟨x, σ2, e2, e⟩ := R.bind_eq e
  obtain ⟨y, σ3, e3, e⟩ := R.bind_eq e
  obtain ⟨_, σ4, e4, e⟩ := R.bind_eq e
  cases e
  obtain ⟨zv, w1, rfl, q1, G1, W1, R1⟩ := hd _ _ _ _ _ _ _ S e1
  have S1 := S.go G1 W1
  obtain ⟨xv, w2, rfl, q2, G2, W2, R2⟩ := ho _ _ _ _ _ _ _ S1 e2
  have S2 := S1.go G2 W2
  obtain ⟨yv, w3, rfl, q3, G3, W3, R3⟩ := hk _ _ _ _ _ _ _ S2 e3
  have S3 := S2.go G3 W3
  cases x with
  | ptr k' =>
    simp only [setC] at e4
    split at e4
    · rename_i t hk'
      split at e4
      · rename_i t' ht'
        cases e4
        obtain ⟨ev, ht⟩ := cell_lst W3 (R2.goB G3) hk'
        obtain ⟨ob, q4, hob⟩ := set_ob ht R3 ((R1.goB G2).goB G3) ht'
        refine ⟨.nx L, w3.setC k' t' ob, rfl, ?_, (((G1.trans G2).trans G3).trans (gx_setC hk')).wk, S3.go (gx_setC hk') (W3.setC hk' hob)⟩
        simp only [Pa.xSub, q1, Pa.R.bind_ok, q2, q3]
        rw [ev, q4]
        rfl
      · cases e4
    · cases e4
  | _ => cases e4
theorem ts_fld_c {T0 : Pa.CTab} {f : String} (ho : XE g O o eo) (hd : XE g O d ed) : TS g O (Pa.xFld T0 o f d) (sFldC T0 eo f ed) O Ol fr := fun m0 B w E L fl σ' S hm e => by
  obtain ⟨z, σ1, e1, e⟩ := R.bind_eq e
  obtain ⟨x, σ2, e2, e⟩ := R.bind_eq e
  obtain ⟨_, σ4, e4, e⟩ := R.bind_eq e
  cases e
  obtain ⟨zv, w1, rfl, q1, G1, W1, R1⟩ := hd _ _ _ _ _ _ _ S e1
  have S1 := S.go G1 W1
  obtain ⟨xv, w2, rfl, q2, G2, W2, R2⟩ := ho _ _ _ _ _ _ _ S1 e2
  have S2 := S1.go G2 W2
  cases x with
  | ptr k' =>
    simp only [fldC] at e4
    split at e4
    · rename_i c ns xs hk'
      split at e4
      · rename_i hc
        cases e4
        obtain ⟨ev, vs, m, l, r⟩ := cell_lst W2 R2 hk'
        obtain ⟨vs', p1, p2, p3⟩ := fput_rp (f := f) (R1.goB G2) l r
        have hl : (ns.zip vs).length < 100 := by
          rw [List.length_zip, r.len, ← l]
          simpa using hc.2
        have hob : ObR g (BO B L O) w2 (.ins c (putN ns f) (putX ns xs f z)) (.ins c ((putN ns f).zip vs')) := ⟨vs', rfl, p3, p2⟩
        refine ⟨.nx L, w2.setC k' _ _, rfl, ?_, ((G1.trans G2).trans (gx_setC hk')).wk, S2.go (gx_setC hk') (W2.setC hk' hob)⟩
        simp only [Pa.xFld, q1, Pa.R.bind_ok, q2]
        rw [ev]
        simp only [m, hc.1, hl, and_self, if_true, p1]
        rfl
      · cases e4
    · cases e4
  | _ => cases e4
end
/-! ### targets -/
abbrev DT := T → Env → Sto → R Env
def tNm (i : Nat) : DT := fun t E σ => .ok (E.set i (some t)) σ
def setAll (E : Env) : List Nat → List T → Env
  | i :: is, v :: vs => setAll (E.set i (some v)) is vs
  | _, _ => E
def tTp (is : List Nat) : DT := fun t E σ => match look σ t with
  | some (.tup xs) => if xs.length = is.length then .ok (setAll E is xs) σ else .no
  | _ => .no
def Oxs (O : List Nat) : List Nat → List Nat
  | [] => O
  | i :: is => Oxs (Ox O i) is
structure XT (g : Cfg) (O : List Nat) (t : Pa.DT) (e : DT) (O' : List Nat) : Prop where
  ok : ∀ {m0 B w E L x v E' σ'}, St g m0 B w O E L → RW g (BO B L O) w x v → e x E w.σ = .ok E' σ' → ∃ L', t v L w.M = .ok L' w.M ∧ σ' = w.σ ∧ St g m0 B w O' E' L' ∧ (∀ a, Own L' O' a → Own L O a) ∧ ∀ i ∈ O', L'[i]? = L[i]?
section
variable {g : Cfg} {O : List Nat}
theorem xt_nm {i : Nat} : XT g O (Pa.tNm i) (tNm i) (Ox O i) := ⟨fun {m0 B w E L x v E' σ'} S h e => by
  cases e
  exact ⟨L.set i (some v), rfl, rfl, S.upd h, fun a z => z.set, fun j hj => List.getElem?_set_ne (Ne.symm (mem_Ox.mp hj).2)⟩⟩
theorem setAll_st {m0 : Nat} {B : Nat → Prop} {w : Wd} : ∀ {is : List Nat} {O : List Nat} {E : Env} {L : Loc} {xs : List T} {vs : List Val}, St g m0 B w O E L → RWs g (BO B L O) w xs vs → xs.length = is.length → St g m0 B w (Oxs O is) (setAll E is xs) (Pa.setAll L is vs) ∧ (∀ a, Own (Pa.setAll L is vs) (Oxs O is) a → Own L O a) ∧ ∀ i ∈ Oxs O is, i ∈ O ∧ (Pa.setAll L is vs)[i]? = L[i]?
  | [], O, E, L, xs, vs, S, h, l => by
    have : xs = [] := List.length_eq_zero_iff.mp l
    subst this
    rw [ws_nil] at h
    subst h
    exact ⟨S, fun a z => z, fun i h => ⟨h, rfl⟩⟩
  | i :: is, O, E, L, [], vs, S, h, l => by simp at l
  | i :: is, O, E, L, x :: xs, vs, S, h, l => by
    rw [ws_cons] at h
    obtain ⟨u, us, rfl, a, r⟩ := h
    have S1 := S.upd (i := i) a
    have r1 : RWs g (BO B (L.set i (some u)) (Ox O i)) w xs us := r.bad fun x h _ z => h (z.imp id Own.set)
    obtain ⟨q1, q2, q3⟩ := setAll_st S1 r1 (by simpa using l)
    refine ⟨q1, fun a z => (q2 a z).set, fun j hj => ?_⟩
    obtain ⟨h1, h2⟩ := q3 j hj
    obtain ⟨h3, h4⟩ := mem_Ox.mp h1
    exact ⟨h3, h2.trans (List.getElem?_set_ne (Ne.symm h4))⟩
theorem xt_tp {is : List Nat} : XT g O (Pa.tTp g is) (tTp is) (Oxs O is) := ⟨fun {m0 B w E L x v E' σ'} S h e => by
  unfold tTp at e
  split at e
  · rename_i xs hx
    have h' : Pk g (BO B L O) w x v := .inl h
    obtain ⟨vs, h0, h1, r⟩ := (h'.look S.wf hx).tup
    split at e
    · rename_i hl
      cases e
      obtain ⟨q1, q2, q3⟩ := setAll_st S r hl
      rw [← r.len] at hl
      exact ⟨Pa.setAll L is vs, by simp only [Pa.tTp, h1, hl, if_true], rfl, q1, q2, fun j hj => (q3 j hj).2⟩
    · cases e
  · cases e⟩
end
def sAsg (d : D) (t : DT) : Ds := fun E σ => (d E σ).bind fun v σ1 => (t v E σ1).bind fun E1 σ2 => .ok (.nx E1) σ2
theorem ts_asg {g : Cfg} {O O' Ol : List Nat} {fr : Bool} {d : Pa.D} {e : D} {t : Pa.DT} {et : DT} (hd : XE g O d e) (ht : XT g O t et O') : TS g O (Pa.xAsg d t) (sAsg e et) O' Ol fr := fun m0 B w E L f σ' S hm q => by
  obtain ⟨x, σ1, e1, q⟩ := R.bind_eq q
  obtain ⟨E1, σ2, e2, q⟩ := R.bind_eq q
  cases q
  obtain ⟨v, w', rfl, h2, h3, h4, h5⟩ := hd _ _ _ _ _ _ _ S e1
  obtain ⟨L', q1, rfl, q3, q4, _⟩ := ht.ok (S.go h3 h4) h5 e2
  exact ⟨.nx L', w', rfl, by simp only [Pa.xAsg, h2, Pa.R.bind_ok, q1], h3.wk.wkO q4, q3⟩
/-! ### iteration -/
inductive Itb where
  | lst (t : T) (n : Nat) | tup (xs : List T) (n : Nat) | rng (lo c : Int) (n : Nat) | str (s : List Nat) | zip (t u : T) (n : Nat) | fix (xs : List T) | prs (ks xs : List T)
def Itb.num : Itb → Nat
  | .lst _ n => n
  | .tup _ n => n
  | .rng _ _ n => n
  | .str s => s.length
  | .zip _ _ n => n
  | .fix xs => xs.length
  | .prs ks _ => ks.length
def yld : Itb → Nat → Sto → R T
  | .lst t _, i, σ => (match lstT σ t with
    | some xs => R.of xs[i]? σ
    | none => .no)
  | .tup xs _, i, σ => R.of xs[i]? σ
  | .rng lo c _, i, σ => .ok (.int (lo + (i : Int) * c)) σ
  | .str s, i, σ => (match s[i]? with
    | some c => .ok (.str [c]) σ
    | none => .no)
  | .zip t u _, i, σ => (match lstT σ t, lstT σ u with
    | some xs, some ys => (match xs[i]?, ys[i]? with
      | some x, some y => .ok (.tup [x, y]) σ
      | _, _ => .no)
    | _, _ => .no)
  | .fix xs, i, σ => R.of xs[i]? σ
  | .prs ks xs, i, σ => (match ks[i]?, xs[i]? with
    | some x, some y => .ok (.tup [x, y]) σ
    | _, _ => .no)
def fin : Itb → Nat → Sto → Bool
  | .lst t _, i, σ => (match lstT σ t with
    | some xs => decide (xs.length ≤ i)
    | none => false)
  | .tup xs _, i, _ => decide (xs.length ≤ i)
  | .rng _ _ n, i, _ => decide (n ≤ i)
  | .str s, i, _ => decide (s.length ≤ i)
  | .zip t u _, i, σ => (match lstT σ t, lstT σ u with
    | some xs, some ys => decide (xs.length ≤ i ∨ ys.length ≤ i)
    | _, _ => false)
  | .fix xs, i, _ => decide (xs.length ≤ i)
  | .prs ks xs, i, _ => decide (ks.length ≤ i) && decide (ks.length = xs.length)
inductive ItR (g : Cfg) (B : Nat → Prop) (w : Wd) : Itb → Pa.Itb → Prop
  | lst {t : T} {v : Val} {n : Nat} : RW g B w t v → ItR g B w (.lst t n) (.lst v n)
  | tup {xs : List T} {v : Val} {n : Nat} : RW g B w (.tup xs) v → ItR g B w (.tup xs n) (.tup v n)
  | rng {lo c : Int} {n : Nat} : ItR g B w (.rng lo c n) (.rng lo c n)
  | str {s : List Nat} : ItR g B w (.str s) (.str s)
  | zip {t u : T} {v z : Val} {n : Nat} : RW g B w t v → RW g B w u z → ItR g B w (.zip t u n) (.zip v z n)
  | fix {xs : List T} {vs : List Val} : RWs g B w xs vs → ItR g B w (.fix xs) (.fix vs)
  | prs {ks xs : List T} {us vs : List Val} : RWs g B w ks us → RWs g B w xs vs → ItR g B w (.prs ks xs) (.prs us vs)
theorem Rps.map {g : Cfg} {ρ ρ' : Nat → Nat} {n n' : Nat} {P P' : Nat → Prop} {M M' : Mem} (f : ∀ t v, Rp g ρ n P M t v → Rp g ρ' n' P' M' t v) : ∀ {ts : List T} {vs : List Val}, Rps g ρ n P M ts vs → Rps g ρ' n' P' M' ts vs
  | [], vs, r => by rw [rps_nil] at r ⊢; exact r
  | t :: ts, vs, r => by
    rw [rps_cons] at r ⊢
    obtain ⟨w, ws, e, a, b⟩ := r
    exact ⟨w, ws, e, f t w a, Rps.map f b⟩
section
variable {g : Cfg} {B B' : Nat → Prop} {w w1 : Wd} {it : Itb} {b : Pa.Itb}
theorem ItR.of (h : ItR g B w it b) (f : ∀ t v, RW g B w t v → RW g B' w1 t v) : ItR g B' w1 it b := by
  cases h with
  | lst h => exact .lst (f _ _ h)
  | tup h => exact .tup (f _ _ h)
  | rng => exact .rng
  | str => exact .str
  | zip h k => exact .zip (f _ _ h) (f _ _ k)
  | fix h => exact .fix (Rps.map f h)
  | prs h k => exact .prs (Rps.map f h) (Rps.map f k)
theorem ItR.num (h : ItR g B w it b) : b.num = it.num := by
  cases h with
  | fix h => exact h.len
  | prs h k => exact h.len
  | _ => rfl
theorem yld_ok (W : Wf g B w) (h : ItR g B w it b) {i : Nat} {t : T} {σ' : Sto} (e : yld it i w.σ = .ok t σ') : Out g B w (Pa.yld g b i w.M) t σ' := by
  cases h with
  | @lst t' v n h =>
    simp only [yld] at e
    split at e
    · rename_i xs hx
      obtain ⟨hg, rfl⟩ := R.of_eq e
      have h' : Pk g B w t' v := .inl h
      obtain ⟨vs, e1, r⟩ := h'.lst W hx
      obtain ⟨u, e2, r2⟩ := r.get hg
      simp only [Pa.yld, e1, e2, Pa.R.of]
      exact Out.stay W r2
    · cases e
  | @tup xs v n h =>
    simp only [yld] at e
    obtain ⟨hg, rfl⟩ := R.of_eq e
    have h' : Rd g B w (.tup xs) v := .inl h
    obtain ⟨vs, _, e1, r⟩ := h'.tup
    obtain ⟨u, e2, r2⟩ := r.get hg
    simp only [Pa.yld, e1, e2, Pa.R.of]
    exact Out.stay W r2
  | rng =>
    simp only [yld] at e
    cases e
    exact (oint W _).out W
  | str =>
    simp only [yld] at e
    split at e
    · rename_i c hc
      cases e
      simp only [Pa.yld, hc]
      exact (ostr W _).out W
    · cases e
  | @zip t1 t2 v1 v2 n h k =>
    simp only [yld] at e
    split at e
    · rename_i xs ys hx hy
      split at e
      · rename_i x y gx gy
        cases e
        have h' : Pk g B w t1 v1 := .inl h
        have k' : Pk g B w t2 v2 := .inl k
        obtain ⟨vs, e1, r⟩ := h'.lst W hx
        obtain ⟨us, e2, r'⟩ := k'.lst W hy
        obtain ⟨u1, q1, r1⟩ := r.get gx
        obtain ⟨u2, q2, r2⟩ := r'.get gy
        simp only [Pa.yld, e1, e2, q1, q2]
        exact Out.tup W (Rps.cons r1 (Rps.one r2))
      · cases e
    · cases e
  | @fix xs vs h =>
    simp only [yld] at e
    obtain ⟨hg, rfl⟩ := R.of_eq e
    obtain ⟨u, e2, r2⟩ := h.get hg
    simp only [Pa.yld, e2, Pa.R.of]
    exact Out.stay W r2
  | @prs ks xs us vs h k =>
    simp only [yld] at e
    split at e
    · rename_i x y gx gy
      cases e
      obtain ⟨u1, q1, r1⟩ := h.get gx
      obtain ⟨u2, q2, r2⟩ := k.get gy
      simp only [Pa.yld, q1, q2]
      exact Out.tup W (Rps.cons r1 (Rps.one r2))
    · cases e
theorem fin_ok (W : Wf g B w) (h : ItR g B w it b) {i : Nat} (e : fin it i w.σ = true) : Pa.fin g b i w.M = true := by
  cases h with
  | @lst t' v n h =>
    simp only [fin] at e
    split at e
    · rename_i xs hx
      have h' : Pk g B w t' v := .inl h
      obtain ⟨vs, e1, r⟩ := h'.lst W hx
      simp only [Pa.fin, e1, r.len]
      exact e
    · cases e
  | @tup xs v n h =>
    simp only [fin] at e
    have h' : Rd g B w (.tup xs) v := .inl h
    obtain ⟨vs, _, e1, r⟩ := h'.tup
    simp only [Pa.fin, e1, r.len]
    exact e
  | rng => exact e
  | str => exact e
  | @zip t1 t2 v1 v2 n h k =>
    simp only [fin] at e
    split at e
    · rename_i xs ys hx hy
      have h' : Pk g B w t1 v1 := .inl h
      have k' : Pk g B w t2 v2 := .inl k
      obtain ⟨vs, e1, r⟩ := h'.lst W hx
      obtain ⟨us, e2, r'⟩ := k'.lst W hy
      simp only [Pa.fin, e1, e2, r.len, r'.len]
      exact e
    · cases e
  | fix h =>
    simp only [Pa.fin, h.len]
    exact e
  | prs h k =>
    simp only [Pa.fin, h.len, k.len]
    exact e
end
abbrev DI := Env → Sto → R Itb
def OutI (g : Cfg) (B : Nat → Prop) (w : Wd) (r : Pa.R Pa.Itb) (t : Itb) (σ' : Sto) : Prop := ∃ b w', w'.σ = σ' ∧ r = .ok b w'.M ∧ Gx w w' ∧ Wf g B w' ∧ ItR g B w' t b
def XI (g : Cfg) (O : List Nat) (d : Pa.DI) (e : DI) : Prop := ∀ m0 B w E L t σ', St g m0 B w O E L → e E w.σ = .ok t σ' → OutI g (BO B L O) w (d L w.M) t σ'
theorem goI {g : Cfg} {B : Nat → Prop} {t : Itb} {σ' : Sto} (w w1 : Wd) (r : Pa.R Pa.Itb) (a : Gx w w1) (h : OutI g B w1 r t σ') : OutI g B w r t σ' := by
  obtain ⟨v, w', x, b, c, d, e⟩ := h
  exact ⟨v, w', x, b, a.trans c, d, e⟩
def iSeq (d : D) : DI := fun E σ => (d E σ).bind fun v σ1 => match look σ1 v with
  | some (.str s) => .ok (.str s) σ1
  | some (.lst xs) => .ok (.lst v xs.length) σ1
  | some (.scr ns) => .ok (.lst v ns.length) σ1
  | some (.tup xs) => .ok (.tup xs xs.length) σ1
  | _ => .no
def iR1 (a : DA) : DI := fun E σ => (a E σ).bind fun vs σ1 => match vs with
  | [.int j] => if -1000000 ≤ j ∧ j ≤ 1000000 then .ok (.rng 0 1 j.toNat) σ1 else .no
  | _ => .no
def iR2 (a : DA) : DI := fun E σ => (a E σ).bind fun vs σ1 => match vs with
  | [.int i, .int j] => if -1000000 ≤ j ∧ j ≤ 1000000 ∧ -1000000 ≤ i ∧ i ≤ 1000000 then .ok (.rng i 1 (j - i).toNat) σ1 else .no
  | _ => .no
def iR3 (a : DA) : DI := fun E σ => (a E σ).bind fun vs σ1 => match vs with
  | [.int i, .int j, .int c] => if -1000000 ≤ j ∧ j ≤ 1000000 ∧ -1000000 ≤ i ∧ i ≤ 1000000 ∧ 0 < c ∧ c ≤ 1000 then .ok (.rng i c (Pa.rcount i j c)) σ1 else .no
  | _ => .no
def jZip (a : DA) : DI := fun E σ => (a E σ).bind fun vs σ1 => match vs with
  | [v, u] => (match lstT σ1 v, lstT σ1 u with
    | some xs, some ys => .ok (.zip v u (min xs.length ys.length)) σ1
    | _, _ => .no)
  | _ => .no
section
variable {g : Cfg} {O : List Nat} {d : Pa.D} {ed : D} {ds : Pa.DA} {es : DA}
theorem xi_seq (hd : XE g O d ed) : XI g O (Pa.iSeq g d) (iSeq ed) := fun m0 B w E L t σ' S e => by
  obtain ⟨x, σ1, e1, e⟩ := R.bind_eq e
  refine hd.then (K := fun w r => OutI g (BO B L O) w r t σ') goI S e1 fun v w1 hs G1 S1 P1 => ?_
  subst hs
  have P1' : Pk g (BO B L O) w1 x v := .inl P1
  split at e
  · rename_i s hx
    cases e
    cases (P1'.look S1.wf hx).str
    exact ⟨_, w1, rfl, rfl, .refl, S1.wf, .str⟩
  · rename_i xs hx
    cases e
    obtain ⟨a, vs, rfl, m, z, r⟩ := (P1'.look S1.wf hx).lst
    simp only [z]
    rw [← r.len]
    exact ⟨_, w1, rfl, rfl, .refl, S1.wf, .lst P1⟩
  · rename_i xs hx
    cases e
    have z := (P1'.look S1.wf hx).scr
    have nr : ∀ s, v ≠ .str s := fun s h => by subst h; cases z
    refine ⟨.lst v xs.length, w1, rfl, ?_, .refl, S1.wf, .lst P1⟩
    cases v with
    | str s => exact absurd rfl (nr s)
    | _ => simp only [z, List.length_map]
  · rename_i xs hx
    cases e
    obtain ⟨vs, z0, z1, r⟩ := (P1'.look S1.wf hx).tup
    have nr : ∀ s, v ≠ .str s := fun s h => by subst h; cases z1
    have rt : RW g (BO B L O) w1 (.tup xs) v := by
      rcases P1'.look S1.wf hx with h | ⟨a, _, h⟩
      · exact h
      · exact h.elim
    refine ⟨.tup v vs.length, w1, rfl, ?_, .refl, S1.wf, by rw [r.len]; exact .tup rt⟩
    cases v with
    | str s => exact absurd rfl (nr s)
    | _ => simp only [z0, z1]
  · cases e
theorem xi_r1 (hs : XQ g O ds es) : XI g O (Pa.iR1 ds) (iR1 es) := fun m0 B w E L t σ' S e => by
  obtain ⟨x, σ1, e1, e⟩ := R.bind_eq e
  refine hs.then (K := fun w r => OutI g (BO B L O) w r t σ') goI S e1 fun v w1 hs G1 S1 P1 => ?_
  subst hs
  split at e
  · obtain ⟨u, ev, h1⟩ := P1.one
    subst ev
    cases h1.int
    split at e
    · rename_i hl
      cases e
      simp only [hl, and_self, if_true]
      exact ⟨_, w1, rfl, rfl, .refl, S1.wf, .rng⟩
    · cases e
  · cases e
theorem xi_r2 (hs : XQ g O ds es) : XI g O (Pa.iR2 ds) (iR2 es) := fun m0 B w E L t σ' S e => by
  obtain ⟨x, σ1, e1, e⟩ := R.bind_eq e
  refine hs.then (K := fun w r => OutI g (BO B L O) w r t σ') goI S e1 fun v w1 hs G1 S1 P1 => ?_
  subst hs
  split at e
  · obtain ⟨u, v, ev, h1, h2⟩ := P1.two
    subst ev
    cases h1.int
    cases h2.int
    split at e
    · rename_i hl
      cases e
      simp only [hl, and_self, if_true]
      exact ⟨_, w1, rfl, rfl, .refl, S1.wf, .rng⟩
    · cases e
  · cases e
theorem xi_r3 (hs : XQ g O ds es) : XI g O (Pa.iR3 ds) (iR3 es) := fun m0 B w E L t σ' S e => by
  obtain ⟨x, σ1, e1, e⟩ := R.bind_eq e
  refine hs.then (K := fun w r => OutI g (BO B L O) w r t σ') goI S e1 fun v w1 hs G1 S1 P1 => ?_
  subst hs
  split at e
  · obtain ⟨u, us, ev, h1, P1'⟩ := P1.cons_
    subst ev
    obtain ⟨u2, u3, ev, h2, h3⟩ := P1'.two
    subst ev
    cases h1.int
    cases h2.int
    cases h3.int
    split at e
    · rename_i hl
      cases e
      simp only [hl, and_self, if_true]
      exact ⟨_, w1, rfl, rfl, .refl, S1.wf, .rng⟩
    · cases e
  · cases e
theorem xi_zip (hs : XA g O ds es) : XI g O (Pa.jZip g ds) (jZip es) := fun m0 B w E L t σ' S e => by
  obtain ⟨x, σ1, e1, e⟩ := R.bind_eq e
  refine hs.then (K := fun w r => OutI g (BO B L O) w r t σ') goI S e1 fun v w1 hs G1 S1 P1 => ?_
  subst hs
  split at e
  · rename_i t1 t2
    rw [ws_cons] at P1
    obtain ⟨v1, us, rfl, r1, P1⟩ := P1
    rw [ws_cons] at P1
    obtain ⟨v2, us, rfl, r2, P1⟩ := P1
    rw [ws_nil] at P1
    subst P1
    split at e
    · rename_i xs ys hx hy
      cases e
      have h' : Pk g (BO B L O) w1 t1 v1 := .inl r1
      have k' : Pk g (BO B L O) w1 t2 v2 := .inl r2
      obtain ⟨vs, q1, p1⟩ := h'.lst S1.wf hx
      obtain ⟨us, q2, p2⟩ := k'.lst S1.wf hy
      simp only [q1, q2]
      rw [← p1.len, ← p2.len]
      exact ⟨_, w1, rfl, rfl, .refl, S1.wf, .zip r1 r2⟩
    · cases e
  · cases e
end
/-! ### for, while -/
def forL (it : Itb) (tg : DT) (body : Ds) : Nat → Nat → Ds
  | 0, i, E, σ => if fin it i σ = true then .ok (.nx E) σ else .no
  | n + 1, i, E, σ => (yld it i σ).bind fun v σ1 => (tg v E σ1).bind fun E1 σ2 => (body E1 σ2).bind fun f σ3 => match f with
    | .nx E2 => forL it tg body n (i + 1) E2 σ3
    | .ct E2 => forL it tg body n (i + 1) E2 σ3
    | .bk E2 => .ok (.nx E2) σ3
    | .rt v => .ok (.rt v) σ3
def sFor (it : DI) (tg : DT) (body : Ds) : Ds := fun E σ => (it E σ).bind fun b σ1 => forL b tg body b.num 0 E σ1
def whL (c : D) (body : Ds) : Nat → Ds
  | 0, _, _ => .no
  | n + 1, E, σ => (c E σ).bind fun v σ1 => match v with
    | .bl false => .ok (.nx E) σ1
    | .bl true => (body E σ1).bind fun f σ2 => match f with
      | .nx E2 => whL c body n E2 σ2
      | .ct E2 => whL c body n E2 σ2
      | .bk E2 => .ok (.nx E2) σ2
      | .rt v => .ok (.rt v) σ2
    | _ => .no
def sWhile (n : Nat) (c : D) (body : Ds) : Ds := fun E σ => whL c body n E σ
section
variable {g : Cfg} {O O1 Ol Ob_ : List Nat} {fr : Bool} {b : Pa.Ds} {eb : Ds}
theorem OutS.goW {m0 : Nat} {B : Nat → Prop} {Ow Ow1 : Nat → Prop} {On : List Nat} {w w1 : Wd} {r : Pa.R Pa.Fl} {f : Fl} {σ' : Sto} (h : OutS g m0 B Ow1 On Ol fr w1 r f σ') (a : Go Ow Ow1 w w1) : OutS g m0 B Ow On Ol fr w r f σ' := by
  obtain ⟨f', w', h1, h2, h3, h4⟩ := h
  exact ⟨f', w', h1, h2, a.trans h3, h4⟩
theorem forL_ok {it : Itb} {bi : Pa.Itb} {tg : Pa.DT} {et : DT} (ht : XT g O tg et O1) (hb : TS g O1 b eb O O fr) : ∀ (n i : Nat) {m0 B w E L f σ'}, St g m0 B w O E L → m0 ≤ w.M.length → ItR g (BO B L O) w it bi → forL it et eb n i E w.σ = .ok f σ' → OutS g m0 B (Own L O) O Ol fr w (Pa.forL g bi tg b n i L w.M) f σ'
  | 0, i, m0, B, w, E, L, f, σ', S, hm, hi, e => by
    simp only [forL] at e
    split at e
    · rename_i hf
      cases e
      have z := fin_ok S.wf hi hf
      simp only [Pa.forL, z, if_true]
      exact ⟨.nx L, w, rfl, rfl, .refl, S⟩
    · cases e
  | n + 1, i, m0, B, w, E, L, f, σ', S, hm, hi, e => by
    simp only [forL] at e
    obtain ⟨x, σ1, e1, e⟩ := R.bind_eq e
    obtain ⟨E1, σ2, e2, e⟩ := R.bind_eq e
    obtain ⟨f1, σ3, e3, e⟩ := R.bind_eq e
    obtain ⟨v, w1, rfl, q1, G1, W1, R1⟩ := yld_ok S.wf hi e1
    have S1 := S.go G1 W1
    obtain ⟨L1, q2, rfl, S2, hO, _⟩ := ht.ok S1 R1 e2
    obtain ⟨f1', w3, rfl, q3, G3, F3⟩ := hb _ _ _ _ _ _ _ S2 (Nat.le_trans hm G1.ml) e3
    simp only [Pa.forL, q1, Pa.R.bind_ok, q2, q3]
    have Ga : Go (Own L O) (Own L1 O1) w w1 := (Go.wk G1).wkO hO
    have G' := Ga.trans G3
    have hm3 := Nat.le_trans hm G'.ml
    cases f1 <;> cases f1' <;> first | exact F3.elim | skip
    · rename_i E2 L2
      exact (forL_ok ht hb n (i + 1) F3 hm3 (hi.of fun t v r => r.goS G') e).goW G'
    · cases e
      exact ⟨_, w3, rfl, rfl, G', F3⟩
    · cases e
      exact ⟨_, w3, rfl, rfl, G', F3⟩
    · rename_i E2 L2
      exact (forL_ok ht hb n (i + 1) F3 hm3 (hi.of fun t v r => r.goS G') e).goW G'
theorem ts_for {di : Pa.DI} {ei : DI} {tg : Pa.DT} {et : DT} (hi : XI g O di ei) (ht : XT g O tg et O1) (hb : TS g O1 b eb O O fr) : TS g O (Pa.xFor g di tg b) (sFor ei et eb) O Ol fr := fun m0 B w E L f σ' S hm e => by
  obtain ⟨it, σ1, e1, e⟩ := R.bind_eq e
  obtain ⟨bi, w1, rfl, q1, G1, W1, R1⟩ := hi _ _ _ _ _ _ _ S e1
  simp only [Pa.xFor, q1, Pa.R.bind_ok, R1.num]
  exact (forL_ok ht hb it.num 0 (S.go G1 W1) (Nat.le_trans hm G1.ml) R1 e).go G1
theorem whL_ok {c : Pa.D} {ec : D} (hc : XP g O c ec) (hb : TS g O b eb O O fr) : ∀ (n : Nat) {m0 B w E L f σ'}, St g m0 B w O E L → m0 ≤ w.M.length → whL ec eb n E w.σ = .ok f σ' → OutS g m0 B (Own L O) O Ol fr w (Pa.whL c b n L w.M) f σ'
  | 0, m0, B, w, E, L, f, σ', S, hm, e => by cases e
  | n + 1, m0, B, w, E, L, f, σ', S, hm, e => by
    simp only [whL] at e
    obtain ⟨x, σ1, e1, e⟩ := R.bind_eq e
    obtain ⟨v, w1, rfl, q1, G1, W1, P1⟩ := hc _ _ _ _ _ _ _ S e1
    have S1 := S.go G1 W1
    simp only [Pa.whL, q1, Pa.R.bind_ok]
    cases x with
    | bl k =>
      cases P1.bl
      cases k
      · cases e
        exact ⟨.nx L, w1, rfl, rfl, G1.wk, S1⟩
      · obtain ⟨f1, σ3, e3, e⟩ := R.bind_eq e
        obtain ⟨f1', w3, rfl, q3, G3, F3⟩ := hb _ _ _ _ _ _ _ S1 (Nat.le_trans hm G1.ml) e3
        simp only [q3, Pa.R.bind_ok]
        have G' := (Go.wk (A := Own L O) G1).trans G3
        have hm3 := Nat.le_trans hm G'.ml
        cases f1 <;> cases f1' <;> first | exact F3.elim | skip
        · exact (whL_ok hc hb n F3 hm3 e).goW G'
        · cases e
          exact ⟨_, w3, rfl, rfl, G', F3⟩
        · cases e
          exact ⟨_, w3, rfl, rfl, G', F3⟩
        · exact (whL_ok hc hb n F3 hm3 e).goW G'
    | _ => cases e
theorem ts_while {n : Nat} {c : Pa.D} {ec : D} (hc : XP g O c ec) (hb : TS g O b eb O O fr) : TS g O (Pa.xWhile n c b) (sWhile n ec eb) O Ol fr := fun m0 B w E L f σ' S hm e => whL_ok hc hb n S hm e
end
end Tr

/-! Trees: comprehensions, displays, defs, a law. -/
namespace Tr
open Pa (Val Ob Mem Cfg DKey Loc)
section
variable {g : Cfg} {m0 : Nat} {B : Nat → Prop} {w w' w1 : Wd} {O : List Nat} {E : Env} {L : Loc}
/-- an object that is being made -/
theorem St.tmp (S : St g m0 B w O E L) (hm : m0 ≤ w.M.length) {o : Ob} : St g m0 (fun b => B b ∨ b = w.M.length) (w.ext o) O E L := by
  have hs : ∀ x, BO (fun b => B b ∨ b = w.M.length) L O x → BO B L O x ∨ x = w.M.length := fun x z => by
    rcases z with (z | z) | z
    · exact .inl (.inl z)
    · exact .inr z
    · exact .inl (.inr z)
  have hb : ∀ a, ¬ BO B L O a → a < w.M.length → ¬ BO (fun b => B b ∨ b = w.M.length) L O a := fun a h l z => (hs a z).elim h fun z => by omega
  have W := S.wf.extA (o := o)
  refine ⟨W.bad (fun x h _ z => h (hs x z)) fun x z => W.bB x (hs x z), S.len, fun i v e => ?_, S.non, S.dis, fun a h => ⟨(S.om a h).1, fun z => z.elim (S.om a h).2 fun z => ?_⟩⟩
  · obtain ⟨t, e1, h1, h2⟩ := S.env i v e
    refine ⟨t, e1, fun hi => ((h1 hi).bad hb).goB gx_ext, fun hi => ?_⟩
    rcases h2 hi with ⟨f, h⟩ | ⟨a, rfl, h⟩
    · exact .inl ⟨f, (h.bad hb).goB gx_ext⟩
    · exact .inr ⟨a, rfl, (h.bad hb).goB gx_ext (S.wf.nlv (.inr ⟨i, hi, e⟩))⟩
  · have := S.wf.bB a (.inr h)
    omega
theorem St.setB (S : St g m0 B w O E L) {a : Nat} {o : Ob} (hB : B a) : St g m0 B (w.setM a o) O E L := by
  have hba : BO B L O a := .inl hB
  have np : ¬ w.P (BO B L O) a := fun z => z.2 hba
  refine ⟨S.wf.setM hba, S.len, fun j u e => ?_, S.non, S.dis, S.om⟩
  obtain ⟨t', e1, h1, h2⟩ := S.env j u e
  refine ⟨t', e1, fun hj => (h1 hj).setM np, fun hj => ?_⟩
  rcases h2 hj with ⟨f, h⟩ | ⟨x, rfl, h⟩
  · exact .inl ⟨f, h.setM np⟩
  · exact .inr ⟨x, rfl, h.setM np fun z => (S.om x ⟨j, hj, e⟩).2 (by rw [← z]; exact hB)⟩
theorem OutF.tmp {n : Nat} {o ob : Ob} {t : T} (hn : n = w.M.length) (G : Go (fun b => b = n) (fun b => b = n) (w.ext o) w1) (W : Wf g (fun b => B b ∨ b = n) w1) (ho : ObR g (fun b => B b ∨ b = n) w1 t ob) : OutF g B w (.ok (.ref n) (w1.M.set n ob)) t w1.σ := by
  subst hn
  have hl : w.M.length < w1.M.length := by
    have := G.ml
    simp [Wd.ext] at this
    omega
  refine ⟨_, w1.setM w.M.length ob, rfl, rfl, ⟨G.sl, G.rh, ?_, fun x u l _ m => ?_⟩, (W.setM (.inr rfl)).bad (fun x h _ z => h (.inl z)) (fun x z => by rw [setM_len]; exact W.bB x (.inl z)), .inr ⟨_, rfl, Nat.le_refl _, W.setM (.inr rfl), ho.top (setM_at hl) fun _ _ r => r.setM fun z => z.2 (.inr rfl)⟩⟩
  · rw [setM_len]
    omega
  · have hx := (List.getElem?_eq_some_iff.mp m).1
    have m' : (w.ext o).M[x]? = some u := by
      show (w.M ++ [o])[x]? = _
      rw [List.getElem?_append_left hx]; exact m
    obtain ⟨k1, k2, k3⟩ := G.kp x u l (fun z => by omega) m'
    refine ⟨k1, fun z => z, ?_⟩
    rw [setM_ne (fun z => by omega)]
    exact k3
theorem St.wipe1 (S : St g m0 B w O E L) {i : Nat} (hi : i ∉ O) : St g m0 B w O (E.set i none) (L.set i none) ∧ ∀ j ∈ O, (L.set i none)[j]? = L[j]? := by
  have hk : ∀ j ∈ O, (L.set i none)[j]? = L[j]? := fun j hj => List.getElem?_set_ne fun z => hi (by rw [z]; exact hj)
  have ho : ∀ a, Own (L.set i none) O a → Own L O a := fun a ⟨j, hj, e⟩ => ⟨j, hj, by rw [← hk j hj]; exact e⟩
  have hb : ∀ a, ¬ BO B L O a → a < w.M.length → ¬ BO B (L.set i none) O a := fun a h _ z => h (z.imp id (ho a))
  refine ⟨⟨S.wf.bad hb fun a z => S.wf.bB a (z.imp id (ho a)), by simp [S.len], fun j u e => ?_, fun j e => ?_, fun j k a hj hk' e f => ?_, fun a h => S.om a (ho a h)⟩, hk⟩
  · rcases set_at e with ⟨_, z, _⟩ | ⟨hij, e⟩
    · cases z
    · obtain ⟨t', e1, h1, h2⟩ := S.env j u e
      refine ⟨t', by rw [List.getElem?_set_ne hij]; exact e1, fun hj => (h1 hj).bad hb, fun hj => ?_⟩
      rcases h2 hj with ⟨f, h⟩ | ⟨a, rfl, h⟩
      · exact .inl ⟨f, h.bad hb⟩
      · exact .inr ⟨a, rfl, h.bad hb⟩
  · rcases set_at e with ⟨rfl, _, hl⟩ | ⟨hij, e⟩
    · exact List.getElem?_set_self (by rw [S.len]; exact hl)
    · rw [List.getElem?_set_ne hij]; exact S.non j e
  · rw [hk j hj] at e
    rw [hk k hk'] at f
    exact S.dis j k a hj hk' e f
def wipeE (E : Env) : List Nat → Env
  | [] => E
  | v :: vs => (wipeE E vs).set v none
theorem St.wipe (S : St g m0 B w O E L) : ∀ {vs : List Nat}, (∀ i ∈ vs, i ∉ O) → St g m0 B w O (wipeE E vs) (Pa.wipeL L vs) ∧ ∀ j ∈ O, (Pa.wipeL L vs)[j]? = L[j]?
  | [], _ => ⟨S, fun _ _ => rfl⟩
  | v :: vs, h => by
    obtain ⟨S1, h1⟩ := S.wipe (vs := vs) fun i hi => h i (List.mem_cons_of_mem _ hi)
    obtain ⟨S2, h2⟩ := S1.wipe1 (h v List.mem_cons_self)
    exact ⟨S2, fun j hj => (h2 j hj).trans (h1 j hj)⟩
end
/-! ### comprehensions -/
def cYes : D := fun _ σ => .ok (.bl true) σ
def compL (it : Itb) (tg : DT) (tt te : D) (E0 : Env) : Nat → Nat → List T → Sto → R (List T)
  | 0, i, acc, σ => if fin it i σ = true then .ok acc σ else .no
  | n + 1, i, acc, σ => (yld it i σ).bind fun v σ1 => (tg v E0 σ1).bind fun E1 σ2 => (tt E1 σ2).bind fun b σ3 => match b with
    | .bl true => (te E1 σ3).bind fun y σ4 => if acc.length < 1000000 then compL it tg tt te E0 n (i + 1) (acc ++ [y]) σ4 else .no
    | .bl false => compL it tg tt te E0 n (i + 1) acc σ3
    | _ => .no
def eComp (it : DI) (tg : DT) (tt te : D) (vs : List Nat) : D := fun E σ => (it E σ).bind fun b σ1 => (compL b tg tt te (wipeE E vs) b.num 0 [] σ1).bind fun acc σ2 => .ok (.lst acc) σ2
section
variable {g : Cfg} {O O1 : List Nat}
theorem xyes : XF g O Pa.cYes cYes := fun m0 B w E L t σ' S e => by
  cases e
  exact obl S.wf true
theorem compL_ok {it : Itb} {bi : Pa.Itb} {tg : Pa.DT} {et : DT} {tt te : Pa.D} {ett ete : D} {D0 : Nat} (ht : XT g O tg et O1) (hO1 : ∀ i ∈ O, i ∈ O1) (htt : XP g O1 tt ett) (hte : XE g O1 te ete) :
    ∀ (n i : Nat) {m0 : Nat} {B : Nat → Prop} {w : Wd} {E : Env} {L : Loc} {acc acc' : List T} {accv : List Val} {σ' : Sto}, St g m0 B w O E L → B D0 → w.M[D0]? = some (.lst accv) → RWs g (BO B L O) w acc accv → ItR g (BO B L O) w it bi → compL it et ett ete E n i acc w.σ = .ok acc' σ' →
      ∃ w' accv', w'.σ = σ' ∧ Pa.compL g bi tg tt te D0 L n i w.M = .ok () w'.M ∧ Go (fun b => b = D0) (fun b => b = D0) w w' ∧ Wf g (BO B L O) w' ∧ w'.M[D0]? = some (.lst accv') ∧ RWs g (BO B L O) w' acc' accv'
  | 0, i, m0, B, w, E, L, acc, acc', accv, σ', S, hD, hm, hr, hi, e => by
    simp only [compL] at e
    split at e
    · rename_i hf
      cases e
      have z := fin_ok S.wf hi hf
      simp only [Pa.compL, z, if_true]
      exact ⟨w, accv, rfl, rfl, .refl, S.wf, hm, hr⟩
    · cases e
  | n + 1, i, m0, B, w, E, L, acc, acc', accv, σ', S, hD, hm, hr, hi, e => by
    simp only [compL] at e
    obtain ⟨x, σ1, e1, e⟩ := R.bind_eq e
    obtain ⟨E1, σ2, e2, e⟩ := R.bind_eq e
    obtain ⟨b, σ3, e3, e⟩ := R.bind_eq e
    obtain ⟨v, w1, rfl, q1, G1, W1, R1⟩ := yld_ok S.wf hi e1
    have S1 := S.go G1 W1
    obtain ⟨L1, q2, rfl, S2, hO, hs⟩ := ht.ok S1 R1 e2
    obtain ⟨u, w3, rfl, q3, G3, W3, P3⟩ := htt _ _ _ _ _ _ _ S2 e3
    have back : ∀ a, BO B L O a → BO B L1 O1 a := fun a z => z.imp id fun ⟨j, hj, e⟩ => ⟨j, hO1 j hj, by rw [hs j (hO1 j hj)]; exact e⟩
    have fwd : ∀ a, BO B L1 O1 a → BO B L O a := fun a z => z.imp id (hO a)
    have W3' : Wf g (BO B L O) w3 := W3.bad (fun a h _ z => h (back a z)) fun a z => W3.bB a (back a z)
    have S3 : St g m0 B w3 O E L := S1.go G3 W3'
    simp only [Pa.compL, q1, Pa.R.bind_ok, q2, q3]
    have hD0 : ¬ w.Lv D0 := S.wf.nlv (.inl hD)
    have hm3 : w3.M[D0]? = some (.lst accv) := ((G1.trans G3).kp D0 _ hD0 (fun z => z) hm).2.2
    cases b with
    | bl k =>
      cases P3.bl
      cases k
      · simp only
        obtain ⟨w', accv', h1, h2, h3, h4⟩ := compL_ok ht hO1 htt hte n (i + 1) S3 hD hm3 ((hr.goB G1).goB G3) ((hi.of fun t v r => r.goB G1).of fun t v r => r.goB G3) e
        exact ⟨w', accv', h1, h2, (Go.wk (G1.trans G3)).trans h3, h4⟩
      · simp only
        obtain ⟨y, σ4, e4, e⟩ := R.bind_eq e
        obtain ⟨yv, w4, rfl, q4, G4, W4, R4⟩ := hte _ _ _ _ _ _ _ (S2.go G3 W3) e4
        have W4' : Wf g (BO B L O) w4 := W4.bad (fun a h _ z => h (back a z)) fun a z => W4.bB a (back a z)
        have S4 : St g m0 B w4 O E L := S3.go G4 W4'
        have R4' : RW g (BO B L O) w4 y yv := R4.bad fun a h _ z => h (back a z)
        have G := (G1.trans G3).trans G4
        have hm4 : w4.M[D0]? = some (.lst accv) := (G.kp D0 _ hD0 (fun z => z) hm).2.2
        split at e
        · rename_i hl
          have hr4 := hr.goB G
          rw [← hr4.len] at hl
          have hb : BO B L O D0 := .inl hD
          have np : ¬ w4.P (BO B L O) D0 := fun z => z.2 hb
          have hlt := (List.getElem?_eq_some_iff.mp hm4).1
          obtain ⟨w', accv', h1, h2, h3, h4⟩ := compL_ok ht hO1 htt hte n (i + 1) (w := w4.setM D0 (.lst (accv ++ [yv]))) (S4.setB hD) hD (setM_at hlt) ((hr4.app (Rps.one R4')).setM np) ((hi.of fun t v r => r.goB G).of fun t v r => r.setM np) e
          refine ⟨w', accv', h1, ?_, ((Go.wk G).trans (go_setM (Ow := fun b => b = D0) rfl)).trans h3, h4⟩
          rw [q4]
          simp only [Pa.R.bind_ok, hm4, hl, if_true]
          exact h2
        · cases e
    | _ => cases e
theorem xcomp_ {di : Pa.DI} {ei : DI} {tg : Pa.DT} {et : DT} {tt te : Pa.D} {ett ete : D} {vs : List Nat} (hi : XI g O di ei) (ht : XT g O tg et O1) (hv : ∀ i ∈ vs, i ∉ O) (hO1 : ∀ i ∈ O, i ∈ O1) (htt : XP g O1 tt ett) (hte : XE g O1 te ete) : XF g O (Pa.dComp g di tg tt te vs) (eComp ei et ett ete vs) := fun m0 B w E L t σ' S e => by
  obtain ⟨it, σ1, e1, e⟩ := R.bind_eq e
  obtain ⟨acc, σ2, e2, e⟩ := R.bind_eq e
  cases e
  obtain ⟨bi, w1, rfl, q1, G1, W1, R1⟩ := hi _ _ _ _ _ _ _ S e1
  have S1 := S.go G1 W1
  obtain ⟨Sw, hw⟩ := S1.wipe hv
  have S1' : St g 0 B w1 O (wipeE E vs) (Pa.wipeL L vs) := ⟨Sw.wf, Sw.len, Sw.env, Sw.non, Sw.dis, fun a h => ⟨Nat.zero_le _, (Sw.om a h).2⟩⟩
  have S2 := S1'.tmp (Nat.zero_le _) (o := .lst [])
  have fwd : ∀ a, BO B (Pa.wipeL L vs) O a → BO B L O a := fun a z => z.imp id fun ⟨j, hj, e⟩ => ⟨j, hj, by rw [← hw j hj]; exact e⟩
  have back : ∀ a, BO B L O a → BO B (Pa.wipeL L vs) O a := fun a z => z.imp id fun ⟨j, hj, e⟩ => ⟨j, hj, by rw [hw j hj]; exact e⟩
  have tos : ∀ x, BO (fun b => B b ∨ b = w1.M.length) (Pa.wipeL L vs) O x → BO B L O x ∨ x = w1.M.length := fun x z => by
    rcases z with (z | z) | z
    · exact .inl (.inl z)
    · exact .inr z
    · exact .inl (fwd x (.inr z))
  have tob : ∀ x, (BO B L O x ∨ x = w1.M.length) → BO (fun b => B b ∨ b = w1.M.length) (Pa.wipeL L vs) O x := fun x z => by
    rcases z with z | z
    · exact (back x z).imp .inl id
    · exact .inl (.inr z)
  have R2 : ItR g (BO (fun b => B b ∨ b = w1.M.length) (Pa.wipeL L vs) O) (w1.ext (.lst [])) it bi := R1.of fun t v r => (r.bad fun x h l z => (tos x z).elim h fun z => by omega).goB gx_ext
  obtain ⟨w', accv', h1, h2, h3, h4, h5, h6⟩ := compL_ok ht hO1 htt hte it.num 0 (w := w1.ext (.lst [])) (D0 := w1.M.length) (acc := []) (accv := []) S2 (.inr rfl) ext_at Rps.nil R2 e2
  simp only [Pa.dComp, q1, Pa.R.bind_ok, R1.num]
  refine OutF.go ?_ G1
  show OutF g _ w1 ((Pa.compL g bi tg tt te w1.M.length (Pa.wipeL L vs) it.num 0 (w1.M ++ [.lst []])).bind _) _ _
  have h2' : Pa.compL g bi tg tt te w1.M.length (Pa.wipeL L vs) it.num 0 (w1.M ++ [.lst []]) = .ok () w'.M := h2
  rw [h2']
  subst h1
  simp only [Pa.R.bind_ok]
  have W' : Wf g (fun b => BO B L O b ∨ b = w1.M.length) w' := h4.bad (fun a h _ z => h (tob a z)) fun a z => h4.bB a (tob a z)
  have hob : ObR g (fun b => BO B L O b ∨ b = w1.M.length) w' (.lst acc) (.lst accv') := ⟨accv', rfl, h6.bad fun a h _ z => h (tob a z)⟩
  have z := OutF.tmp rfl h3 W' hob
  have hset : w'.M.set w1.M.length (.lst accv') = w'.M := by
    apply List.ext_getElem?
    intro k
    by_cases hk : w1.M.length = k
    · subst hk
      rw [List.getElem?_set_self (List.getElem?_eq_some_iff.mp h5).1, h5]
    · rw [List.getElem?_set_ne hk]
  rw [hset] at z
  exact z
end
/-! ### displays of dicts -/
def prs : List (D × D) → Env → Sto → R (List DKey × List T)
  | [], _, σ => .ok ([], []) σ
  | p :: r, E, σ => (p.1 E σ).bind fun x σ1 => (p.2 E σ1).bind fun y σ2 => (prs r E σ2).bind fun ps σ3 => (match keyT x with
    | some k => .ok (k :: ps.1, y :: ps.2) σ3
    | none => .no)
def foldP : List DKey → List T → List DKey → List T → List DKey × List T
  | k :: ks, x :: xs, ks0, xs0 => foldP ks xs (putKs ks0 k) (putXs ks0 xs0 k x)
  | _, _, ks0, xs0 => (ks0, xs0)
def eDisp (ps : List (D × D)) : D := fun E σ => (prs ps E σ).bind fun kv σ1 => if kv.1.length ≤ 15 then .ok (.dk (foldP kv.1 kv.2 [] []).1 (foldP kv.1 kv.2 [] []).2) σ1 else .no
inductive XPs (g : Cfg) (O : List Nat) : List (Pa.D × Pa.D) → List (D × D) → Prop
  | nil : XPs g O [] []
  | cons {k v : Pa.D} {ek ev : D} {ps : List (Pa.D × Pa.D)} {es : List (D × D)} : XP g O k ek → XE g O v ev → XPs g O ps es → XPs g O ((k, v) :: ps) ((ek, ev) :: es)
section
variable {g : Cfg} {O : List Nat}
theorem prs_ok {ps : List (Pa.D × Pa.D)} {es : List (D × D)} (h : XPs g O ps es) : ∀ {m0 B w E L kv σ'}, St g m0 B w O E L → prs es E w.σ = .ok kv σ' → ∃ vs w', w'.σ = σ' ∧ Pa.prs ps L w.M = .ok (kv.1.zip vs) w'.M ∧ Gx w w' ∧ St g m0 B w' O E L ∧ kv.1.length = kv.2.length ∧ RWs g (BO B L O) w' kv.2 vs := by
  induction h with
  | nil =>
    intro m0 B w E L kv σ' S e
    cases e
    exact ⟨[], w, rfl, rfl, .refl, S, rfl, Rps.nil⟩
  | @cons k v ek ev ps es hk hv _ ih =>
    intro m0 B w E L kv σ' S e
    simp only [prs] at e
    obtain ⟨x, σ1, e1, e⟩ := R.bind_eq e
    obtain ⟨y, σ2, e2, e⟩ := R.bind_eq e
    obtain ⟨qs, σ3, e3, e⟩ := R.bind_eq e
    split at e
    · rename_i key hkey
      cases e
      obtain ⟨xv, w1, rfl, q1, G1, W1, P1⟩ := hk _ _ _ _ _ _ _ S e1
      have S1 := S.go G1 W1
      obtain ⟨yv, w2, rfl, q2, G2, W2, R2⟩ := hv _ _ _ _ _ _ _ S1 e2
      have S2 := S1.go G2 W2
      obtain ⟨vs, w3, rfl, q3, G3, S3, l, r⟩ := ih S2 e3
      refine ⟨yv :: vs, w3, rfl, ?_, (G1.trans G2).trans G3, S3, by simp [l], Rps.cons (R2.goB G3) r⟩
      simp only [Pa.prs, q1, Pa.R.bind_ok, q2, q3, keyT_ok P1 hkey]
      rfl
    · cases e
theorem foldP_rp {ρ : Nat → Nat} {n : Nat} {P : Nat → Prop} {M : Mem} : ∀ {ks : List DKey} {xs : List T} {vs : List Val} {ks0 : List DKey} {xs0 : List T} {vs0 : List Val}, ks.length = xs.length → Rps g ρ n P M xs vs → ks0.length = xs0.length → Rps g ρ n P M xs0 vs0 →
    ∃ vs', (ks.zip vs).foldl (fun acc p => Pa.putk acc p.1 p.2) (ks0.zip vs0) = (foldP ks xs ks0 xs0).1.zip vs' ∧ Rps g ρ n P M (foldP ks xs ks0 xs0).2 vs' ∧ (foldP ks xs ks0 xs0).1.length = (foldP ks xs ks0 xs0).2.length
  | [], xs, vs, ks0, xs0, vs0, l, r, l0, r0 => ⟨vs0, by simp only [List.zip_nil_left, List.foldl_nil, foldP], by simpa only [foldP] using r0, by simpa only [foldP] using l0⟩
  | k :: ks, [], vs, ks0, xs0, vs0, l, r, l0, r0 => by simp at l
  | k :: ks, x :: xs, vs, ks0, xs0, vs0, l, r, l0, r0 => by
    rw [rps_cons] at r
    obtain ⟨u, us, rfl, a, r⟩ := r
    obtain ⟨vs1, e1, r1, l1⟩ := put_rp (j := k) a l0 r0
    obtain ⟨vs', e2, r2, l2⟩ := foldP_rp (ks := ks) (xs := xs) (by simpa using l) r l1 r1
    refine ⟨vs', ?_, r2, l2⟩
    rw [List.zip_cons_cons, List.foldl_cons, e1, e2]
    rfl
theorem xdisp {ps : List (Pa.D × Pa.D)} {es : List (D × D)} (h : XPs g O ps es) : XF g O (Pa.dDisp ps) (eDisp es) := fun m0 B w E L t σ' S e => by
  obtain ⟨kv, σ1, e1, e⟩ := R.bind_eq e
  split at e
  · rename_i hl
    cases e
    have S0 : St g 0 B w O E L := ⟨S.wf, S.len, S.env, S.non, S.dis, fun a h => ⟨Nat.zero_le _, (S.om a h).2⟩⟩
    have S1 := S0.tmp (Nat.zero_le _) (o := .dk [])
    obtain ⟨vs, w', rfl, q, G, S2, l, r⟩ := prs_ok h (w := w.ext (.dk [])) S1 e1
    obtain ⟨vs', e2, r2, l2⟩ := foldP_rp (ks0 := []) (xs0 := []) (vs0 := []) l r rfl Rps.nil
    have hm : w'.M[w.M.length]? = some (.dk []) := (G.kp w.M.length _ (fun z => S.wf.fresh.1 z) (fun z => z) ext_at).2.2
    have q' : Pa.prs ps L (w.M ++ [.dk []]) = .ok (kv.1.zip vs) w'.M := q
    have hz : (kv.1.zip vs).length ≤ 15 := by
      rw [List.length_zip, r.len, ← l]
      simpa using hl
    simp only [Pa.dDisp, q', Pa.R.bind_ok, hz, if_true, hm]
    have e3 : (kv.1.zip vs).foldl (fun acc p => Pa.putk acc p.1 p.2) [] = (foldP kv.1 kv.2 [] []).1.zip vs' := e2
    rw [e3]
    have tob : ∀ x, (BO B L O x ∨ x = w.M.length) → BO (fun b => B b ∨ b = w.M.length) L O x := fun x z => by
      rcases z with z | z
      · exact z.imp .inl id
      · exact .inl (.inr z)
    have W' : Wf g (fun b => BO B L O b ∨ b = w.M.length) w' := S2.wf.bad (fun a h _ z => h (tob a z)) fun a z => S2.wf.bB a (tob a z)
    exact OutF.tmp (t := .dk (foldP kv.1 kv.2 [] []).1 (foldP kv.1 kv.2 [] []).2) rfl (Go.wk G) W' ⟨vs', rfl, l2, r2.bad fun a h _ z => h (tob a z)⟩
  · cases e
end
/-! ### defs -/
def trun (n : Nat) (d : Ds) : Fn := fun args σ => (d (args.map some ++ List.replicate (n - args.length) none) σ).bind fun f σ1 => match f with
  | .nx _ => .ok .non σ1
  | .rt v => .ok v σ1
  | _ => .no
section
variable {g : Cfg}
theorem fs_run {n : Nat} {d : Pa.Ds} {e : Ds} {On Ol : List Nat} {fr : Bool} (h : TS g [] d e On Ol fr) : FS g fr (Pa.runD n d) (trun n e) := fun B w vs ts t σ' W r q => by
  obtain ⟨f, σ1, e1, q⟩ := R.bind_eq q
  have hl := r.len
  have no : ∀ {L : Loc} {a}, ¬ Own L [] a := fun ⟨_, h, _⟩ => by cases h
  have S : St g w.M.length B w [] (ts.map some ++ List.replicate (n - ts.length) none) (vs.map some ++ List.replicate (n - vs.length) none) := by
    have hb : ∀ a, ¬ B a → a < w.M.length → ¬ BO B (vs.map some ++ List.replicate (n - vs.length) none) [] a := fun a h _ z => z.elim h no
    refine ⟨W.bad hb fun a z => z.elim (W.bB a) fun z => absurd z no, by simp [hl], fun i v e => ?_, fun i e => ?_, fun i j a hi => (by cases hi), fun a h => absurd h no⟩
    · by_cases hi : i < vs.length
      · rw [List.getElem?_append_left (by simpa using hi), List.getElem?_map] at e
        obtain ⟨u, e2, e3⟩ := Option.map_eq_some_iff.mp e
        cases e3
        obtain ⟨t, e4, r4⟩ := r.getv e2
        refine ⟨t, ?_, fun _ => r4.bad hb, fun z => by cases z⟩
        rw [List.getElem?_append_left (by simp; omega), List.getElem?_map, e4]
        rfl
      · rw [List.getElem?_append_right (by simpa using hi), List.getElem?_replicate] at e
        split at e
        · cases e
        · cases e
    · by_cases hi : i < vs.length
      · rw [List.getElem?_append_left (by simpa using hi), List.getElem?_map] at e
        obtain ⟨u, e2, e3⟩ := Option.map_eq_some_iff.mp e
        cases e3
      · rw [List.getElem?_append_right (by simpa using hi)] at e
        rw [List.getElem?_append_right (by simp; omega)]
        simp only [List.length_map] at e ⊢
        rw [← hl]
        rw [List.getElem?_replicate] at e ⊢
        split at e
        · rename_i hz
          rw [if_pos hz]
        · cases e
  obtain ⟨f', w', rfl, q1, q2, q3⟩ := h _ _ _ _ _ _ _ S (Nat.le_refl _) e1
  have G : Gx w w' := (q2.wkI fun x z => absurd z no).wkO fun x z => z.elim
  simp only [Pa.runD, q1, Pa.R.bind_ok]
  cases f <;> cases f' <;> first | exact q3.elim | cases q | skip
  · rename_i E' L'
    have S' : St g _ B w' On E' L' := q3
    have W' : Wf g B w' := S'.wf.bad (fun a h _ z => h (.inl z)) fun a z => S'.wf.bB a (.inl z)
    have r' : RW g B w' .non .non := by rw [w_non]
    exact ⟨⟨.non, w', rfl, rfl, G, W', r'⟩, fun _ => ⟨.non, w', rfl, rfl, G, W', .inl ⟨rfl, r'⟩⟩⟩
  · rename_i v
    obtain ⟨h1, h2, h3⟩ := q3
    exact ⟨⟨v, w', rfl, rfl, G, h1, h2⟩, fun z => ⟨v, w', rfl, rfl, G, h1, h3 z⟩⟩
end
end Tr

/-! Trees: ends. -/
namespace Tr
open Pa (Val Ob Mem Cfg DKey Loc)
def Ev {α : Type} (r : R α) (Q : α → Sto → Prop) : Prop := ∃ a σ, r = .ok a σ ∧ Q a σ
@[simp] theorem ev_ok {α : Type} (a : α) (σ : Sto) (Q : α → Sto → Prop) : Ev (R.ok a σ) Q = Q a σ := by
  refine propext ⟨fun ⟨_, _, e, q⟩ => ?_, fun q => ⟨_, _, rfl, q⟩⟩
  cases e
  exact q
@[simp] theorem ev_no {α : Type} (Q : α → Sto → Prop) : Ev (R.no : R α) Q = False := by
  refine propext ⟨fun ⟨_, _, e, _⟩ => ?_, fun h => h.elim⟩
  cases e
@[simp high] theorem ev_guard {α : Type} {p : Prop} [Decidable p] (r : R α) (Q : α → Sto → Prop) : Ev (if p then r else R.no) Q = (p ∧ Ev r Q) := by
  by_cases h : p <;> simp [h]
@[simp] theorem ev_ite {α : Type} {p : Prop} [Decidable p] (x y : R α) (Q : α → Sto → Prop) : Ev (if p then x else y) Q = ((p → Ev x Q) ∧ (¬p → Ev y Q)) := by
  by_cases h : p <;> simp [h]
theorem ev_bind {α β : Type} (r : R α) (f : α → Sto → R β) (Q : β → Sto → Prop) : Ev (r.bind f) Q = Ev r (fun a σ => Ev (f a σ) Q) := by
  cases r with
  | ok a σ => simp only [R.bind_ok, ev_ok]
  | exc c fs σ => exact propext ⟨fun ⟨_, _, e, _⟩ => (by cases e), fun ⟨_, _, e, _⟩ => (by cases e)⟩
  | no => simp only [R.bind_no, ev_no]
theorem Ev.mono {α : Type} {r : R α} {Q Q' : α → Sto → Prop} (h : Ev r Q) (k : ∀ a σ, Q a σ → Q' a σ) : Ev r Q' := by
  obtain ⟨a, σ, e, q⟩ := h
  exact ⟨a, σ, e, k a σ q⟩
theorem ev_eq {α : Type} {r : R α} {a : α} {σ : Sto} (h : Ev r fun b s => b = a ∧ s = σ) : r = .ok a σ := by
  obtain ⟨b, s, e, rfl, rfl⟩ := h
  exact e
theorem ev_of {α : Type} {r : R α} {a : α} {σ : Sto} {Q : α → Sto → Prop} (h : r = .ok a σ) (q : Q a σ) : Ev r Q := ⟨a, σ, h, q⟩
@[simp] theorem u_of {α : Type} (a : α) (σ : Sto) : R.of (some a) σ = R.ok a σ := rfl
@[simp] theorem u_ofn {α : Type} (σ : Sto) : R.of (none : Option α) σ = R.no := rfl
@[simp] theorem u_eV (i : Nat) (E : Env) (σ : Sto) (Q : T → Sto → Prop) : Ev (eV i E σ) Q = Ev (R.of (E[i]?.getD none) σ) Q := by
  unfold eV
  cases h : E[i]? with
  | none => rfl
  | some o => cases o <;> rfl
@[simp] theorem u_eC (t : T) (E : Env) (σ : Sto) (Q : T → Sto → Prop) : Ev (eC t E σ) Q = Q t σ := by
  unfold eC
  exact ev_ok _ _ _

def PeB2 (p : T → T → Sto → R T) (a b : D) (E : Env) (x1 : T) (Q : T → Sto → Prop) : T → Sto → Prop := fun x2 σ => Ev (p x1 x2 σ) Q
@[simp] theorem v_eB2 (p : T → T → Sto → R T) (a b : D) (E : Env) (x1 : T) (Q : T → Sto → Prop) (x2 : T) (σ : Sto) : PeB2 p a b E x1 Q x2 σ = (Ev (p x1 x2 σ) Q) := rfl
def PeB1 (p : T → T → Sto → R T) (a b : D) (E : Env)  (Q : T → Sto → Prop) : T → Sto → Prop := fun x1 σ => Ev (b E σ) (PeB2 p a b E x1 Q)
@[simp] theorem v_eB1 (p : T → T → Sto → R T) (a b : D) (E : Env)  (Q : T → Sto → Prop) (x1 : T) (σ : Sto) : PeB1 p a b E  Q x1 σ = (Ev (b E σ) (PeB2 p a b E x1 Q)) := rfl
@[simp] theorem u_eB (p : T → T → Sto → R T) (a b : D) (E : Env) (σ : Sto) (Q : T → Sto → Prop) : Ev (eB p a b E σ) Q = Ev (a E σ) (PeB1 p a b E Q) := by
  unfold eB
  rw [ev_bind]
  refine congrArg _ (funext fun x1 => funext fun σ => ?_)
  rw [ev_bind]
  refine congrArg _ (funext fun x2 => funext fun σ => ?_)
  show _ = PeB2 p a b E x1 Q x2 σ
  first | rfl | exact ev_ok _ _ _ | exact ev_guard _ _ | (rw [ev_guard, ev_ok]; rfl) | (rw [ev_guard, ev_bind]; rfl) | (cases x2 <;> first | rfl | exact ev_ok _ _ _ | exact ev_no _) | (split <;> first | rfl | exact ev_ok _ _ _ | exact ev_no _ | simp_all)
def PeAnd (a b : D) (E : Env) (Q : T → Sto → Prop) : T → Sto → Prop := fun x σ => match x with
  | .bl true => Ev (b E σ) Q
  | .bl false => Q (.bl false) σ
  | _ => False
@[simp] theorem u_eAnd (a b : D) (E : Env) (σ : Sto) (Q : T → Sto → Prop) : Ev (eAnd a b E σ) Q = Ev (a E σ) (PeAnd a b E Q) := by
  unfold eAnd
  rw [ev_bind]
  refine congrArg _ (funext fun x => funext fun σ => ?_)
  cases x with
  | bl k => cases k <;> first | exact ev_ok _ _ _ | rfl
  | _ => exact ev_no _
@[simp] theorem v_eAnd (a b : D) (E : Env) (Q : T → Sto → Prop) (k : Bool) (σ : Sto) : PeAnd a b E Q (.bl k) σ = ((k = true → Ev (b E σ) Q) ∧ (k = false → Q (.bl false) σ)) := by
  cases k <;> simp [PeAnd]
def PeOr (a b : D) (E : Env) (Q : T → Sto → Prop) : T → Sto → Prop := fun x σ => match x with
  | .bl true => Q (.bl true) σ
  | .bl false => Ev (b E σ) Q
  | _ => False
@[simp] theorem u_eOr (a b : D) (E : Env) (σ : Sto) (Q : T → Sto → Prop) : Ev (eOr a b E σ) Q = Ev (a E σ) (PeOr a b E Q) := by
  unfold eOr
  rw [ev_bind]
  refine congrArg _ (funext fun x => funext fun σ => ?_)
  cases x with
  | bl k => cases k <;> first | exact ev_ok _ _ _ | rfl
  | _ => exact ev_no _
@[simp] theorem v_eOr (a b : D) (E : Env) (Q : T → Sto → Prop) (k : Bool) (σ : Sto) : PeOr a b E Q (.bl k) σ = ((k = true → Q (.bl true) σ) ∧ (k = false → Ev (b E σ) Q)) := by
  cases k <;> simp [PeOr]
def PeIf (c a b : D) (E : Env) (Q : T → Sto → Prop) : T → Sto → Prop := fun x σ => match x with
  | .bl true => Ev (a E σ) Q
  | .bl false => Ev (b E σ) Q
  | _ => False
@[simp] theorem u_eIf (c a b : D) (E : Env) (σ : Sto) (Q : T → Sto → Prop) : Ev (eIf c a b E σ) Q = Ev (c E σ) (PeIf c a b E Q) := by
  unfold eIf
  rw [ev_bind]
  refine congrArg _ (funext fun x => funext fun σ => ?_)
  cases x with
  | bl k => cases k <;> first | exact ev_ok _ _ _ | rfl
  | _ => exact ev_no _
@[simp] theorem v_eIf (c a b : D) (E : Env) (Q : T → Sto → Prop) (k : Bool) (σ : Sto) : PeIf c a b E Q (.bl k) σ = ((k = true → Ev (a E σ) Q) ∧ (k = false → Ev (b E σ) Q)) := by
  cases k <;> simp [PeIf]
def PsIf (c : D) (a b : Ds) (E : Env) (Q : Fl → Sto → Prop) : T → Sto → Prop := fun x σ => match x with
  | .bl true => Ev (a E σ) Q
  | .bl false => Ev (b E σ) Q
  | _ => False
@[simp] theorem u_sIf (c : D) (a b : Ds) (E : Env) (σ : Sto) (Q : Fl → Sto → Prop) : Ev (sIf c a b E σ) Q = Ev (c E σ) (PsIf c a b E Q) := by
  unfold sIf
  rw [ev_bind]
  refine congrArg _ (funext fun x => funext fun σ => ?_)
  cases x with
  | bl k => cases k <;> first | exact ev_ok _ _ _ | rfl
  | _ => exact ev_no _
@[simp] theorem v_sIf (c : D) (a b : Ds) (E : Env) (Q : Fl → Sto → Prop) (k : Bool) (σ : Sto) : PsIf c a b E Q (.bl k) σ = ((k = true → Ev (a E σ) Q) ∧ (k = false → Ev (b E σ) Q)) := by
  cases k <;> simp [PsIf]
def PeNot1 (a : D) (E : Env)  (Q : T → Sto → Prop) : T → Sto → Prop := fun x1 σ => match x1 with
  | .bl k => Q (.bl (!k)) σ
  | _ => False
@[simp] theorem u_eNot (a : D) (E : Env) (σ : Sto) (Q : T → Sto → Prop) : Ev (eNot a E σ) Q = Ev (a E σ) (PeNot1 a E Q) := by
  unfold eNot
  rw [ev_bind]
  refine congrArg _ (funext fun x1 => funext fun σ => ?_)
  show _ = PeNot1 a E  Q x1 σ
  first | rfl | exact ev_ok _ _ _ | exact ev_guard _ _ | (rw [ev_guard, ev_ok]; rfl) | (rw [ev_guard, ev_bind]; rfl) | (cases x1 <;> first | rfl | exact ev_ok _ _ _ | exact ev_no _) | (split <;> first | rfl | exact ev_ok _ _ _ | exact ev_no _ | simp_all)
@[simp] theorem v_eNot (a : D) (E : Env) (Q : T → Sto → Prop) (k : Bool) (σ : Sto) : PeNot1 a E Q (.bl k) σ = Q (.bl (!k)) σ := rfl
def PeNeg1 (a : D) (E : Env)  (Q : T → Sto → Prop) : T → Sto → Prop := fun x1 σ => match x1 with
  | .int k => Q (.int (-k)) σ
  | _ => False
@[simp] theorem u_eNeg (a : D) (E : Env) (σ : Sto) (Q : T → Sto → Prop) : Ev (eNeg a E σ) Q = Ev (a E σ) (PeNeg1 a E Q) := by
  unfold eNeg
  rw [ev_bind]
  refine congrArg _ (funext fun x1 => funext fun σ => ?_)
  show _ = PeNeg1 a E  Q x1 σ
  first | rfl | exact ev_ok _ _ _ | exact ev_guard _ _ | (rw [ev_guard, ev_ok]; rfl) | (rw [ev_guard, ev_bind]; rfl) | (cases x1 <;> first | rfl | exact ev_ok _ _ _ | exact ev_no _) | (split <;> first | rfl | exact ev_ok _ _ _ | exact ev_no _ | simp_all)
@[simp] theorem v_eNeg (a : D) (E : Env) (Q : T → Sto → Prop) (k : Int) (σ : Sto) : PeNeg1 a E Q (.int k) σ = Q (.int (-k)) σ := rfl
def PeTru (Q : T → Sto → Prop) : T → Sto → Prop := fun x σ => ∃ b, truT σ x = some b ∧ Q (.bl b) σ
@[simp] theorem u_eTru (a : D) (E : Env) (σ : Sto) (Q : T → Sto → Prop) : Ev (eTru a E σ) Q = Ev (a E σ) (PeTru Q) := by
  unfold eTru
  rw [ev_bind]
  refine congrArg _ (funext fun x => funext fun σ => ?_)
  unfold PeTru
  cases h : truT σ x <;> simp
@[simp] theorem v_eTru (Q : T → Sto → Prop) (x : T) (σ : Sto) : PeTru Q x σ = ∃ b, truT σ x = some b ∧ Q (.bl b) σ := rfl
def PCh4 (f' : T → T → Sto → R T) (y : T) (Q : T → Sto → Prop) : T → Sto → Prop := fun w σ => Ev (f' y w σ) Q
def PCh3 (f' : T → T → Sto → R T) (y : T) (c : D) (E : Env) (Q : T → Sto → Prop) : T → Sto → Prop := fun z σ => match z with
  | .bl true => Ev (c E σ) (PCh4 f' y Q)
  | .bl false => Q (.bl false) σ
  | _ => False
def PCh2 (f f' : T → T → Sto → R T) (x : T) (c : D) (E : Env) (Q : T → Sto → Prop) : T → Sto → Prop := fun y σ => Ev (f x y σ) (PCh3 f' y c E Q)
def PCh1 (f f' : T → T → Sto → R T) (b c : D) (E : Env) (Q : T → Sto → Prop) : T → Sto → Prop := fun x σ => Ev (b E σ) (PCh2 f f' x c E Q)
@[simp] theorem u_eCh (f f' : T → T → Sto → R T) (a b c : D) (E : Env) (σ : Sto) (Q : T → Sto → Prop) : Ev (eCh f f' a b c E σ) Q = Ev (a E σ) (PCh1 f f' b c E Q) := by
  unfold eCh
  rw [ev_bind]
  refine congrArg _ (funext fun x => funext fun σ => ?_)
  rw [ev_bind]
  refine congrArg _ (funext fun y => funext fun σ => ?_)
  rw [ev_bind]
  refine congrArg _ (funext fun z => funext fun σ => ?_)
  cases z with
  | bl b =>
    cases b
    · exact ev_ok _ _ _
    · show Ev ((c E σ).bind _) Q = _
      rw [ev_bind]; rfl
  | _ => exact ev_no _
@[simp] theorem v_PCh1 (f f' : T → T → Sto → R T) (b c : D) (E : Env) (Q : T → Sto → Prop) (x : T) (σ : Sto) : PCh1 f f' b c E Q x σ = Ev (b E σ) (PCh2 f f' x c E Q) := rfl
@[simp] theorem v_PCh2 (f f' : T → T → Sto → R T) (x : T) (c : D) (E : Env) (Q : T → Sto → Prop) (y : T) (σ : Sto) : PCh2 f f' x c E Q y σ = Ev (f x y σ) (PCh3 f' y c E Q) := rfl
@[simp] theorem v_PCh3 (f' : T → T → Sto → R T) (y : T) (c : D) (E : Env) (Q : T → Sto → Prop) (k : Bool) (σ : Sto) : PCh3 f' y c E Q (.bl k) σ = ((k = true → Ev (c E σ) (PCh4 f' y Q)) ∧ (k = false → Q (.bl false) σ)) := by
  cases k <;> simp [PCh3]
@[simp] theorem v_PCh4 (f' : T → T → Sto → R T) (y : T) (Q : T → Sto → Prop) (w : T) (σ : Sto) : PCh4 f' y Q w σ = Ev (f' y w σ) Q := rfl
@[simp] theorem u_aNil (E : Env) (σ : Sto) (Q : List T → Sto → Prop) : Ev (aNil E σ) Q = Q [] σ := by
  unfold aNil
  exact ev_ok _ _ _
@[simp] theorem u_eDk (E : Env) (σ : Sto) (Q : T → Sto → Prop) : Ev (eDk E σ) Q = Q (.dk [] []) σ := by
  unfold eDk
  exact ev_ok _ _ _
@[simp] theorem u_oNone (E : Env) (σ : Sto) (Q : Option Int → Sto → Prop) : Ev (oNone E σ) Q = Q none σ := by
  unfold oNone
  exact ev_ok _ _ _
@[simp] theorem u_cYes (E : Env) (σ : Sto) (Q : T → Sto → Prop) : Ev (cYes E σ) Q = Q (.bl true) σ := by
  unfold cYes
  exact ev_ok _ _ _
def PaCons2 (d : D) (ds : DA) (E : Env) (x1 : T) (Q : List T → Sto → Prop) : List T → Sto → Prop := fun x2 σ => Q (x1 :: x2) σ
@[simp] theorem v_aCons2 (d : D) (ds : DA) (E : Env) (x1 : T) (Q : List T → Sto → Prop) (x2 : List T) (σ : Sto) : PaCons2 d ds E x1 Q x2 σ = (Q (x1 :: x2) σ) := rfl
def PaCons1 (d : D) (ds : DA) (E : Env)  (Q : List T → Sto → Prop) : T → Sto → Prop := fun x1 σ => Ev (ds E σ) (PaCons2 d ds E x1 Q)
@[simp] theorem v_aCons1 (d : D) (ds : DA) (E : Env)  (Q : List T → Sto → Prop) (x1 : T) (σ : Sto) : PaCons1 d ds E  Q x1 σ = (Ev (ds E σ) (PaCons2 d ds E x1 Q)) := rfl
@[simp] theorem u_aCons (d : D) (ds : DA) (E : Env) (σ : Sto) (Q : List T → Sto → Prop) : Ev (aCons d ds E σ) Q = Ev (d E σ) (PaCons1 d ds E Q) := by
  unfold aCons
  rw [ev_bind]
  refine congrArg _ (funext fun x1 => funext fun σ => ?_)
  rw [ev_bind]
  refine congrArg _ (funext fun x2 => funext fun σ => ?_)
  show _ = PaCons2 d ds E x1 Q x2 σ
  first | rfl | exact ev_ok _ _ _ | exact ev_guard _ _ | (rw [ev_guard, ev_ok]; rfl) | (rw [ev_guard, ev_bind]; rfl) | (cases x2 <;> first | rfl | exact ev_ok _ _ _ | exact ev_no _) | (split <;> first | rfl | exact ev_ok _ _ _ | exact ev_no _ | simp_all)
def PeTup1 (ds : DA) (E : Env)  (Q : T → Sto → Prop) : List T → Sto → Prop := fun x1 σ => x1.length ≤ 1000 ∧ Q (.tup x1) σ
@[simp] theorem v_eTup1 (ds : DA) (E : Env)  (Q : T → Sto → Prop) (x1 : List T) (σ : Sto) : PeTup1 ds E  Q x1 σ = (x1.length ≤ 1000 ∧ Q (.tup x1) σ) := rfl
@[simp] theorem u_eTup (ds : DA) (E : Env) (σ : Sto) (Q : T → Sto → Prop) : Ev (eTup ds E σ) Q = Ev (ds E σ) (PeTup1 ds E Q) := by
  unfold eTup
  rw [ev_bind]
  refine congrArg _ (funext fun x1 => funext fun σ => ?_)
  show _ = PeTup1 ds E  Q x1 σ
  first | rfl | exact ev_ok _ _ _ | exact ev_guard _ _ | (rw [ev_guard, ev_ok]; rfl) | (rw [ev_guard, ev_bind]; rfl) | (cases x1 <;> first | rfl | exact ev_ok _ _ _ | exact ev_no _) | (split <;> first | rfl | exact ev_ok _ _ _ | exact ev_no _ | simp_all)
def PeLst1 (ds : DA) (E : Env)  (Q : T → Sto → Prop) : List T → Sto → Prop := fun x1 σ => x1.length ≤ 1000 ∧ Q (.lst x1) σ
@[simp] theorem v_eLst1 (ds : DA) (E : Env)  (Q : T → Sto → Prop) (x1 : List T) (σ : Sto) : PeLst1 ds E  Q x1 σ = (x1.length ≤ 1000 ∧ Q (.lst x1) σ) := rfl
@[simp] theorem u_eLst (ds : DA) (E : Env) (σ : Sto) (Q : T → Sto → Prop) : Ev (eLst ds E σ) Q = Ev (ds E σ) (PeLst1 ds E Q) := by
  unfold eLst
  rw [ev_bind]
  refine congrArg _ (funext fun x1 => funext fun σ => ?_)
  show _ = PeLst1 ds E  Q x1 σ
  first | rfl | exact ev_ok _ _ _ | exact ev_guard _ _ | (rw [ev_guard, ev_ok]; rfl) | (rw [ev_guard, ev_bind]; rfl) | (cases x1 <;> first | rfl | exact ev_ok _ _ _ | exact ev_no _) | (split <;> first | rfl | exact ev_ok _ _ _ | exact ev_no _ | simp_all)
def PeF1 (p : List T → Sto → R T) (es : DA) (E : Env)  (Q : T → Sto → Prop) : List T → Sto → Prop := fun x1 σ => Ev (p x1 σ) Q
@[simp] theorem v_eF1 (p : List T → Sto → R T) (es : DA) (E : Env)  (Q : T → Sto → Prop) (x1 : List T) (σ : Sto) : PeF1 p es E  Q x1 σ = (Ev (p x1 σ) Q) := rfl
@[simp] theorem u_eF (p : List T → Sto → R T) (es : DA) (E : Env) (σ : Sto) (Q : T → Sto → Prop) : Ev (eF p es E σ) Q = Ev (es E σ) (PeF1 p es E Q) := by
  unfold eF
  rw [ev_bind]
  refine congrArg _ (funext fun x1 => funext fun σ => ?_)
  show _ = PeF1 p es E  Q x1 σ
  first | rfl | exact ev_ok _ _ _ | exact ev_guard _ _ | (rw [ev_guard, ev_ok]; rfl) | (rw [ev_guard, ev_bind]; rfl) | (cases x1 <;> first | rfl | exact ev_ok _ _ _ | exact ev_no _) | (split <;> first | rfl | exact ev_ok _ _ _ | exact ev_no _ | simp_all)
def PeArg1 (n : Nat) (dfl : List T) (f : Fn) (es : DA) (E : Env)  (Q : T → Sto → Prop) : List T → Sto → Prop := fun x1 σ => (x1 ++ dfl).length = n ∧ Ev (f (x1 ++ dfl) σ) Q
@[simp] theorem v_eArg1 (n : Nat) (dfl : List T) (f : Fn) (es : DA) (E : Env)  (Q : T → Sto → Prop) (x1 : List T) (σ : Sto) : PeArg1 n dfl f es E  Q x1 σ = ((x1 ++ dfl).length = n ∧ Ev (f (x1 ++ dfl) σ) Q) := rfl
@[simp] theorem u_eArg (n : Nat) (dfl : List T) (f : Fn) (es : DA) (E : Env) (σ : Sto) (Q : T → Sto → Prop) : Ev (eArg n dfl f es E σ) Q = Ev (es E σ) (PeArg1 n dfl f es E Q) := by
  unfold eArg
  rw [ev_bind]
  refine congrArg _ (funext fun x1 => funext fun σ => ?_)
  show _ = PeArg1 n dfl f es E  Q x1 σ
  first | rfl | exact ev_ok _ _ _ | exact ev_guard _ _ | (rw [ev_guard, ev_ok]; rfl) | (rw [ev_guard, ev_bind]; rfl) | (cases x1 <;> first | rfl | exact ev_ok _ _ _ | exact ev_no _) | (split <;> first | rfl | exact ev_ok _ _ _ | exact ev_no _ | simp_all)
def PeNewV1 (ok : Bool) (c : String) (ns : List String) (es : DA) (E : Env)  (Q : T → Sto → Prop) : List T → Sto → Prop := fun x1 σ => (ok = true ∧ x1.length = ns.length) ∧ Q (.ins c ns x1) σ
@[simp] theorem v_eNewV1 (ok : Bool) (c : String) (ns : List String) (es : DA) (E : Env)  (Q : T → Sto → Prop) (x1 : List T) (σ : Sto) : PeNewV1 ok c ns es E  Q x1 σ = ((ok = true ∧ x1.length = ns.length) ∧ Q (.ins c ns x1) σ) := rfl
@[simp] theorem u_eNewV (ok : Bool) (c : String) (ns : List String) (es : DA) (E : Env) (σ : Sto) (Q : T → Sto → Prop) : Ev (eNewV ok c ns es E σ) Q = Ev (es E σ) (PeNewV1 ok c ns es E Q) := by
  unfold eNewV
  rw [ev_bind]
  refine congrArg _ (funext fun x1 => funext fun σ => ?_)
  show _ = PeNewV1 ok c ns es E  Q x1 σ
  first | rfl | exact ev_ok _ _ _ | exact ev_guard _ _ | (rw [ev_guard, ev_ok]; rfl) | (rw [ev_guard, ev_bind]; rfl) | (cases x1 <;> first | rfl | exact ev_ok _ _ _ | exact ev_no _) | (split <;> first | rfl | exact ev_ok _ _ _ | exact ev_no _ | simp_all)
def PoSome1 (d : D) (E : Env)  (Q : Option Int → Sto → Prop) : T → Sto → Prop := fun x1 σ => match x1 with
  | .int k => Q (some k) σ
  | _ => False
@[simp] theorem u_oSome (d : D) (E : Env) (σ : Sto) (Q : Option Int → Sto → Prop) : Ev (oSome d E σ) Q = Ev (d E σ) (PoSome1 d E Q) := by
  unfold oSome
  rw [ev_bind]
  refine congrArg _ (funext fun x1 => funext fun σ => ?_)
  show _ = PoSome1 d E  Q x1 σ
  first | rfl | exact ev_ok _ _ _ | exact ev_guard _ _ | (rw [ev_guard, ev_ok]; rfl) | (rw [ev_guard, ev_bind]; rfl) | (cases x1 <;> first | rfl | exact ev_ok _ _ _ | exact ev_no _) | (split <;> first | rfl | exact ev_ok _ _ _ | exact ev_no _ | simp_all)
@[simp] theorem v_oSome (d : D) (E : Env) (Q : Option Int → Sto → Prop) (k : Int) (σ : Sto) : PoSome1 d E Q (.int k) σ = Q (some k) σ := rfl
def PeSl3 (d : D) (lo hi : DO) (E : Env) (x1 : T) (x2 : Option Int) (Q : T → Sto → Prop) : Option Int → Sto → Prop := fun x3 σ => Ev (tSl x1 x2 x3 σ) Q
@[simp] theorem v_eSl3 (d : D) (lo hi : DO) (E : Env) (x1 : T) (x2 : Option Int) (Q : T → Sto → Prop) (x3 : Option Int) (σ : Sto) : PeSl3 d lo hi E x1 x2 Q x3 σ = (Ev (tSl x1 x2 x3 σ) Q) := rfl
def PeSl2 (d : D) (lo hi : DO) (E : Env) (x1 : T) (Q : T → Sto → Prop) : Option Int → Sto → Prop := fun x2 σ => Ev (hi E σ) (PeSl3 d lo hi E x1 x2 Q)
@[simp] theorem v_eSl2 (d : D) (lo hi : DO) (E : Env) (x1 : T) (Q : T → Sto → Prop) (x2 : Option Int) (σ : Sto) : PeSl2 d lo hi E x1 Q x2 σ = (Ev (hi E σ) (PeSl3 d lo hi E x1 x2 Q)) := rfl
def PeSl1 (d : D) (lo hi : DO) (E : Env)  (Q : T → Sto → Prop) : T → Sto → Prop := fun x1 σ => Ev (lo E σ) (PeSl2 d lo hi E x1 Q)
@[simp] theorem v_eSl1 (d : D) (lo hi : DO) (E : Env)  (Q : T → Sto → Prop) (x1 : T) (σ : Sto) : PeSl1 d lo hi E  Q x1 σ = (Ev (lo E σ) (PeSl2 d lo hi E x1 Q)) := rfl
@[simp] theorem u_eSl (d : D) (lo hi : DO) (E : Env) (σ : Sto) (Q : T → Sto → Prop) : Ev (eSl d lo hi E σ) Q = Ev (d E σ) (PeSl1 d lo hi E Q) := by
  unfold eSl
  rw [ev_bind]
  refine congrArg _ (funext fun x1 => funext fun σ => ?_)
  rw [ev_bind]
  refine congrArg _ (funext fun x2 => funext fun σ => ?_)
  rw [ev_bind]
  refine congrArg _ (funext fun x3 => funext fun σ => ?_)
  show _ = PeSl3 d lo hi E x1 x2 Q x3 σ
  first | rfl | exact ev_ok _ _ _ | exact ev_guard _ _ | (rw [ev_guard, ev_ok]; rfl) | (rw [ev_guard, ev_bind]; rfl) | (cases x3 <;> first | rfl | exact ev_ok _ _ _ | exact ev_no _) | (split <;> first | rfl | exact ev_ok _ _ _ | exact ev_no _ | simp_all)
def tRev (x : T) (σ : Sto) : R T := match look σ x with
  | some (.lst xs) => .ok (.lst xs.reverse) σ
  | _ => .no
def fldR (T0 : Pa.CTab) (f : String) (x : T) (σ : Sto) : R T := match look σ x with
  | some (.ins c ns xs) => if Pa.hasF T0 c f = true then R.of (getT ns xs f) σ else .no
  | _ => .no
def isiR (I : Pa.ITab) (cs : List String) (t : String) (x : T) (σ : Sto) : R T := match (look σ x).bind (tyT cs) with
  | some s => (match Pa.isiT I s t with
    | some b => .ok (.bl b) σ
    | none => .no)
  | none => .no
def isiTR (I : Pa.ITab) (cs : List String) (ts : List String) (x : T) (σ : Sto) : R T := match (look σ x).bind (tyT cs) with
  | some s => (match Pa.tsI I s ts with
    | some b => .ok (.bl b) σ
    | none => .no)
  | none => .no
def methR (T0 : MT) (m : String) (n : Nat) (ds : DA) (E : Env) (x : T) (σ1 : Sto) : R T := match look σ1 x with
  | some (.ins c ns xs) => (match mfT T0 c, getT ns xs m with
    | some F, none => (ds E σ1).bind fun vs σ2 => if vs.length + 1 = n then F (x :: vs) σ2 else .no
    | _, _ => .no)
  | _ => .no
def asgR (t : DT) (v : T) (E : Env) (σ : Sto) : R Fl := (t v E σ).bind fun E1 σ2 => .ok (.nx E1) σ2
def mutR (p : List T → List T → Option (List T × T)) (i : Nat) (E : Env) (ts : List T) (σ1 : Sto) : R Fl := match E[i]? with
  | some (some (.lst xs)) => (match p xs ts with
    | some (xs', _) => .ok (.nx (E.set i (some (.lst xs')))) σ1
    | none => .no)
  | _ => .no
def mutRR (p : List T → List T → Option (List T × T)) (i j : Nat) (E : Env) (ts : List T) (σ1 : Sto) : R Fl := match E[i]? with
  | some (some (.lst xs)) => (match p xs ts with
    | some (xs', r) => .ok (.nx ((E.set i (some (.lst xs'))).set j (some r))) σ1
    | none => .no)
  | _ => .no
def subR (i : Nat) (E : Env) (v y : T) (σ2 : Sto) : R Fl := match E[i]? with
  | some (some x) => (match setT x y v with
    | some x' => .ok (.nx (E.set i (some x'))) σ2
    | none => .no)
  | _ => .no
def frzR (x : T) (σ1 : Sto) : R T := match x with
  | .ptr k => (match σ1[k]? with
    | some (some t) => .ok t (σ1.set k none)
    | _ => .no)
  | _ => .no
def PeRev1 (d : D) (E : Env)  (Q : T → Sto → Prop) : T → Sto → Prop := fun x1 σ => Ev (tRev x1 σ) Q
@[simp] theorem v_eRev1 (d : D) (E : Env)  (Q : T → Sto → Prop) (x1 : T) (σ : Sto) : PeRev1 d E  Q x1 σ = (Ev (tRev x1 σ) Q) := rfl
@[simp] theorem u_eRev (d : D) (E : Env) (σ : Sto) (Q : T → Sto → Prop) : Ev (eRev d E σ) Q = Ev (d E σ) (PeRev1 d E Q) := by
  unfold eRev
  rw [ev_bind]
  refine congrArg _ (funext fun x1 => funext fun σ => ?_)
  show _ = PeRev1 d E  Q x1 σ
  first | rfl | exact ev_ok _ _ _ | exact ev_guard _ _ | (rw [ev_guard, ev_ok]; rfl) | (rw [ev_guard, ev_bind]; rfl) | (cases x1 <;> first | rfl | exact ev_ok _ _ _ | exact ev_no _) | (split <;> first | rfl | exact ev_ok _ _ _ | exact ev_no _ | simp_all)
def PeFld1 (T0 : Pa.CTab) (d : D) (f : String) (E : Env)  (Q : T → Sto → Prop) : T → Sto → Prop := fun x1 σ => Ev (fldR T0 f x1 σ) Q
@[simp] theorem v_eFld1 (T0 : Pa.CTab) (d : D) (f : String) (E : Env)  (Q : T → Sto → Prop) (x1 : T) (σ : Sto) : PeFld1 T0 d f E  Q x1 σ = (Ev (fldR T0 f x1 σ) Q) := rfl
@[simp] theorem u_eFld (T0 : Pa.CTab) (d : D) (f : String) (E : Env) (σ : Sto) (Q : T → Sto → Prop) : Ev (eFld T0 d f E σ) Q = Ev (d E σ) (PeFld1 T0 d f E Q) := by
  unfold eFld
  rw [ev_bind]
  refine congrArg _ (funext fun x1 => funext fun σ => ?_)
  show _ = PeFld1 T0 d f E  Q x1 σ
  first | rfl | exact ev_ok _ _ _ | exact ev_guard _ _ | (rw [ev_guard, ev_ok]; rfl) | (rw [ev_guard, ev_bind]; rfl) | (cases x1 <;> first | rfl | exact ev_ok _ _ _ | exact ev_no _) | (split <;> first | rfl | exact ev_ok _ _ _ | exact ev_no _ | simp_all)
def PeIsi1 (I : Pa.ITab) (cs : List String) (d : D) (t : String) (E : Env)  (Q : T → Sto → Prop) : T → Sto → Prop := fun x1 σ => Ev (isiR I cs t x1 σ) Q
@[simp] theorem v_eIsi1 (I : Pa.ITab) (cs : List String) (d : D) (t : String) (E : Env)  (Q : T → Sto → Prop) (x1 : T) (σ : Sto) : PeIsi1 I cs d t E  Q x1 σ = (Ev (isiR I cs t x1 σ) Q) := rfl
@[simp] theorem u_eIsi (I : Pa.ITab) (cs : List String) (d : D) (t : String) (E : Env) (σ : Sto) (Q : T → Sto → Prop) : Ev (eIsi I cs d t E σ) Q = Ev (d E σ) (PeIsi1 I cs d t E Q) := by
  unfold eIsi
  rw [ev_bind]
  refine congrArg _ (funext fun x1 => funext fun σ => ?_)
  show _ = PeIsi1 I cs d t E  Q x1 σ
  first | rfl | exact ev_ok _ _ _ | exact ev_guard _ _ | (rw [ev_guard, ev_ok]; rfl) | (rw [ev_guard, ev_bind]; rfl) | (cases x1 <;> first | rfl | exact ev_ok _ _ _ | exact ev_no _) | (split <;> first | rfl | exact ev_ok _ _ _ | exact ev_no _ | simp_all)
def PeIsiT1 (I : Pa.ITab) (cs : List String) (d : D) (t : List String) (E : Env)  (Q : T → Sto → Prop) : T → Sto → Prop := fun x1 σ => Ev (isiTR I cs t x1 σ) Q
@[simp] theorem v_eIsiT1 (I : Pa.ITab) (cs : List String) (d : D) (t : List String) (E : Env)  (Q : T → Sto → Prop) (x1 : T) (σ : Sto) : PeIsiT1 I cs d t E  Q x1 σ = (Ev (isiTR I cs t x1 σ) Q) := rfl
@[simp] theorem u_eIsiT (I : Pa.ITab) (cs : List String) (d : D) (t : List String) (E : Env) (σ : Sto) (Q : T → Sto → Prop) : Ev (eIsiT I cs d t E σ) Q = Ev (d E σ) (PeIsiT1 I cs d t E Q) := by
  unfold eIsiT
  rw [ev_bind]
  refine congrArg _ (funext fun x1 => funext fun σ => ?_)
  show _ = PeIsiT1 I cs d t E  Q x1 σ
  first | rfl | exact ev_ok _ _ _ | exact ev_guard _ _ | (rw [ev_guard, ev_ok]; rfl) | (rw [ev_guard, ev_bind]; rfl) | (cases x1 <;> first | rfl | exact ev_ok _ _ _ | exact ev_no _) | (split <;> first | rfl | exact ev_ok _ _ _ | exact ev_no _ | simp_all)
def PeMeth1 (T0 : MT) (m : String) (n : Nat) (d : D) (ds : DA) (E : Env)  (Q : T → Sto → Prop) : T → Sto → Prop := fun x1 σ => Ev (methR T0 m n ds E x1 σ) Q
@[simp] theorem v_eMeth1 (T0 : MT) (m : String) (n : Nat) (d : D) (ds : DA) (E : Env)  (Q : T → Sto → Prop) (x1 : T) (σ : Sto) : PeMeth1 T0 m n d ds E  Q x1 σ = (Ev (methR T0 m n ds E x1 σ) Q) := rfl
@[simp] theorem u_eMeth (T0 : MT) (m : String) (n : Nat) (d : D) (ds : DA) (E : Env) (σ : Sto) (Q : T → Sto → Prop) : Ev (eMeth T0 m n d ds E σ) Q = Ev (d E σ) (PeMeth1 T0 m n d ds E Q) := by
  unfold eMeth
  rw [ev_bind]
  refine congrArg _ (funext fun x1 => funext fun σ => ?_)
  show _ = PeMeth1 T0 m n d ds E  Q x1 σ
  first | rfl | exact ev_ok _ _ _ | exact ev_guard _ _ | (rw [ev_guard, ev_ok]; rfl) | (rw [ev_guard, ev_bind]; rfl) | (cases x1 <;> first | rfl | exact ev_ok _ _ _ | exact ev_no _) | (split <;> first | rfl | exact ev_ok _ _ _ | exact ev_no _ | simp_all)
def PeFrz1 (d : D) (E : Env)  (Q : T → Sto → Prop) : T → Sto → Prop := fun x1 σ => Ev (frzR x1 σ) Q
@[simp] theorem v_eFrz1 (d : D) (E : Env)  (Q : T → Sto → Prop) (x1 : T) (σ : Sto) : PeFrz1 d E  Q x1 σ = (Ev (frzR x1 σ) Q) := rfl
@[simp] theorem u_eFrz (d : D) (E : Env) (σ : Sto) (Q : T → Sto → Prop) : Ev (eFrz d E σ) Q = Ev (d E σ) (PeFrz1 d E Q) := by
  unfold eFrz
  rw [ev_bind]
  refine congrArg _ (funext fun x1 => funext fun σ => ?_)
  show _ = PeFrz1 d E  Q x1 σ
  first | rfl | exact ev_ok _ _ _ | exact ev_guard _ _ | (rw [ev_guard, ev_ok]; rfl) | (rw [ev_guard, ev_bind]; rfl) | (cases x1 <;> first | rfl | exact ev_ok _ _ _ | exact ev_no _) | (split <;> first | rfl | exact ev_ok _ _ _ | exact ev_no _ | simp_all)
def PeCell (Q : T → Sto → Prop) : T → Sto → Prop := fun x σ => (flatT x = true → Q x σ) ∧ (¬ flatT x = true → Q (.ptr σ.length) (σ ++ [some x]))
@[simp] theorem u_eCell (d : D) (E : Env) (σ : Sto) (Q : T → Sto → Prop) : Ev (eCell d E σ) Q = Ev (d E σ) (PeCell Q) := by
  unfold eCell
  rw [ev_bind]
  refine congrArg _ (funext fun x => funext fun σ => ?_)
  rw [ev_ite, ev_ok, ev_ok]
  rfl
@[simp] theorem v_PeCell (Q : T → Sto → Prop) (x : T) (σ : Sto) : PeCell Q x σ = ((flatT x = true → Q x σ) ∧ (¬ flatT x = true → Q (.ptr σ.length) (σ ++ [some x]))) := rfl
def PeM2 (p : T → List T → Sto → R T) (x : T) (Q : T → Sto → Prop) : List T → Sto → Prop := fun ts σ => Ev (p x ts σ) Q
def PeM1 (p : T → List T → Sto → R T) (ds : DA) (E : Env) (Q : T → Sto → Prop) : T → Sto → Prop := fun x σ => isS x = true ∧ Ev (ds E σ) (PeM2 p x Q)
@[simp] theorem u_eM (p : T → List T → Sto → R T) (d : D) (ds : DA) (E : Env) (σ : Sto) (Q : T → Sto → Prop) : Ev (eM p d ds E σ) Q = Ev (d E σ) (PeM1 p ds E Q) := by
  unfold eM
  rw [ev_bind]
  refine congrArg _ (funext fun x => funext fun σ => ?_)
  rw [ev_guard, ev_bind]
  rfl
@[simp] theorem v_PeM1 (p : T → List T → Sto → R T) (ds : DA) (E : Env) (Q : T → Sto → Prop) (x : T) (σ : Sto) : PeM1 p ds E Q x σ = (isS x = true ∧ Ev (ds E σ) (PeM2 p x Q)) := rfl
@[simp] theorem v_PeM2 (p : T → List T → Sto → R T) (x : T) (Q : T → Sto → Prop) (ts : List T) (σ : Sto) : PeM2 p x Q ts σ = Ev (p x ts σ) Q := rfl
def PeMu2 (p : List T → List T → Option (List T × T)) (x : T) (Q : T → Sto → Prop) : List T → Sto → Prop := fun ts σ => Ev (mutC p x ts σ) Q
def PeMu1 (p : List T → List T → Option (List T × T)) (ds : DA) (E : Env) (Q : T → Sto → Prop) : T → Sto → Prop := fun x σ => isLc σ x = true ∧ Ev (ds E σ) (PeMu2 p x Q)
@[simp] theorem u_eMut (p : List T → List T → Option (List T × T)) (d : D) (ds : DA) (E : Env) (σ : Sto) (Q : T → Sto → Prop) : Ev (eMut p d ds E σ) Q = Ev (d E σ) (PeMu1 p ds E Q) := by
  unfold eMut
  rw [ev_bind]
  refine congrArg _ (funext fun x => funext fun σ => ?_)
  rw [ev_guard, ev_bind]
  rfl
@[simp] theorem v_PeMu1 (p : List T → List T → Option (List T × T)) (ds : DA) (E : Env) (Q : T → Sto → Prop) (x : T) (σ : Sto) : PeMu1 p ds E Q x σ = (isLc σ x = true ∧ Ev (ds E σ) (PeMu2 p x Q)) := rfl
@[simp] theorem v_PeMu2 (p : List T → List T → Option (List T × T)) (x : T) (Q : T → Sto → Prop) (ts : List T) (σ : Sto) : PeMu2 p x Q ts σ = Ev (mutC p x ts σ) Q := rfl
def get1R (x y : T) (σ : Sto) : R T := match look σ x, keyT y with
  | some (.dk ks xs), some j => .ok ((lkpT ks xs j).getD .non) σ
  | _, _ => .no
def get2R (x y u : T) (σ : Sto) : R T := match look σ x, keyT y with
  | some (.dk ks xs), some j => .ok ((lkpT ks xs j).getD u) σ
  | _, _ => .no
def PG12 (x : T) (Q : T → Sto → Prop) : T → Sto → Prop := fun y σ => Ev (get1R x y σ) Q
def PG11 (k : D) (E : Env) (Q : T → Sto → Prop) : T → Sto → Prop := fun x σ => isDk σ x = true ∧ Ev (k E σ) (PG12 x Q)
@[simp] theorem u_eGet1 (d k : D) (E : Env) (σ : Sto) (Q : T → Sto → Prop) : Ev (eGet1 d k E σ) Q = Ev (d E σ) (PG11 k E Q) := by
  unfold eGet1
  rw [ev_bind]
  refine congrArg _ (funext fun x => funext fun σ => ?_)
  rw [ev_guard, ev_bind]
  rfl
@[simp] theorem v_PG11 (k : D) (E : Env) (Q : T → Sto → Prop) (x : T) (σ : Sto) : PG11 k E Q x σ = (isDk σ x = true ∧ Ev (k E σ) (PG12 x Q)) := rfl
@[simp] theorem v_PG12 (x : T) (Q : T → Sto → Prop) (y : T) (σ : Sto) : PG12 x Q y σ = Ev (get1R x y σ) Q := rfl
def PG23 (x y : T) (Q : T → Sto → Prop) : T → Sto → Prop := fun u σ => Ev (get2R x y u σ) Q
def PG22 (x : T) (z : D) (E : Env) (Q : T → Sto → Prop) : T → Sto → Prop := fun y σ => Ev (z E σ) (PG23 x y Q)
def PG21 (k z : D) (E : Env) (Q : T → Sto → Prop) : T → Sto → Prop := fun x σ => isDk σ x = true ∧ Ev (k E σ) (PG22 x z E Q)
@[simp] theorem u_eGet2 (d k z : D) (E : Env) (σ : Sto) (Q : T → Sto → Prop) : Ev (eGet2 d k z E σ) Q = Ev (d E σ) (PG21 k z E Q) := by
  unfold eGet2
  rw [ev_bind]
  refine congrArg _ (funext fun x => funext fun σ => ?_)
  rw [ev_guard, ev_bind]
  refine congrArg _ (congrArg _ (funext fun x => funext fun σ => ?_))
  rw [ev_bind]
  rfl
@[simp] theorem v_PG21 (k z : D) (E : Env) (Q : T → Sto → Prop) (x : T) (σ : Sto) : PG21 k z E Q x σ = (isDk σ x = true ∧ Ev (k E σ) (PG22 x z E Q)) := rfl
@[simp] theorem v_PG22 (x : T) (z : D) (E : Env) (Q : T → Sto → Prop) (y : T) (σ : Sto) : PG22 x z E Q y σ = Ev (z E σ) (PG23 x y Q) := rfl
@[simp] theorem v_PG23 (x y : T) (Q : T → Sto → Prop) (u : T) (σ : Sto) : PG23 x y Q u σ = Ev (get2R x y u σ) Q := rfl
/-! statements -/
@[simp] theorem u_sSkip (E : Env) (σ : Sto) (Q : Fl → Sto → Prop) : Ev (sSkip E σ) Q = Q (.nx E) σ := by
  unfold sSkip
  exact ev_ok _ _ _
@[simp] theorem u_sRetN (E : Env) (σ : Sto) (Q : Fl → Sto → Prop) : Ev (sRetN E σ) Q = Q (.rt .non) σ := by
  unfold sRetN
  exact ev_ok _ _ _
@[simp] theorem u_sBrk (E : Env) (σ : Sto) (Q : Fl → Sto → Prop) : Ev (sBrk E σ) Q = Q (.bk E) σ := by
  unfold sBrk
  exact ev_ok _ _ _
@[simp] theorem u_sCont (E : Env) (σ : Sto) (Q : Fl → Sto → Prop) : Ev (sCont E σ) Q = Q (.ct E) σ := by
  unfold sCont
  exact ev_ok _ _ _
@[simp] theorem u_sNever (E : Env) (σ : Sto) (Q : Fl → Sto → Prop) : Ev (sNever E σ) Q = False := by
  unfold sNever
  exact ev_no _
def PSeq (b : Ds) (Q : Fl → Sto → Prop) : Fl → Sto → Prop := fun f σ => match f with
  | .nx E => Ev (b E σ) Q
  | .rt v => Q (.rt v) σ
  | .bk E => Q (.bk E) σ
  | .ct E => Q (.ct E) σ
@[simp] theorem u_sSeq (a b : Ds) (E : Env) (σ : Sto) (Q : Fl → Sto → Prop) : Ev (sSeq a b E σ) Q = Ev (a E σ) (PSeq b Q) := by
  unfold sSeq
  rw [ev_bind]
  refine congrArg _ (funext fun x => funext fun σ => ?_)
  cases x <;> first | rfl | exact ev_ok _ _ _
@[simp] theorem v_PSeqn (b : Ds) (Q : Fl → Sto → Prop) (E : Env) (σ : Sto) : PSeq b Q (.nx E) σ = Ev (b E σ) Q := rfl
@[simp] theorem v_PSeqr (b : Ds) (Q : Fl → Sto → Prop) (v : T) (σ : Sto) : PSeq b Q (.rt v) σ = Q (.rt v) σ := rfl
@[simp] theorem v_PSeqb (b : Ds) (Q : Fl → Sto → Prop) (E : Env) (σ : Sto) : PSeq b Q (.bk E) σ = Q (.bk E) σ := rfl
@[simp] theorem v_PSeqc (b : Ds) (Q : Fl → Sto → Prop) (E : Env) (σ : Sto) : PSeq b Q (.ct E) σ = Q (.ct E) σ := rfl
def PsRet1 (d : D) (E : Env)  (Q : Fl → Sto → Prop) : T → Sto → Prop := fun x1 σ => Q (.rt x1) σ
@[simp] theorem v_sRet1 (d : D) (E : Env)  (Q : Fl → Sto → Prop) (x1 : T) (σ : Sto) : PsRet1 d E  Q x1 σ = (Q (.rt x1) σ) := rfl
@[simp] theorem u_sRet (d : D) (E : Env) (σ : Sto) (Q : Fl → Sto → Prop) : Ev (sRet d E σ) Q = Ev (d E σ) (PsRet1 d E Q) := by
  unfold sRet
  rw [ev_bind]
  refine congrArg _ (funext fun x1 => funext fun σ => ?_)
  show _ = PsRet1 d E  Q x1 σ
  first | rfl | exact ev_ok _ _ _ | exact ev_guard _ _ | (rw [ev_guard, ev_ok]; rfl) | (rw [ev_guard, ev_bind]; rfl) | (cases x1 <;> first | rfl | exact ev_ok _ _ _ | exact ev_no _) | (split <;> first | rfl | exact ev_ok _ _ _ | exact ev_no _ | simp_all)
def PsExpr1 (d : D) (E : Env)  (Q : Fl → Sto → Prop) : T → Sto → Prop := fun x1 σ => Q (.nx E) σ
@[simp] theorem v_sExpr1 (d : D) (E : Env)  (Q : Fl → Sto → Prop) (x1 : T) (σ : Sto) : PsExpr1 d E  Q x1 σ = (Q (.nx E) σ) := rfl
@[simp] theorem u_sExpr (d : D) (E : Env) (σ : Sto) (Q : Fl → Sto → Prop) : Ev (sExpr d E σ) Q = Ev (d E σ) (PsExpr1 d E Q) := by
  unfold sExpr
  rw [ev_bind]
  refine congrArg _ (funext fun x1 => funext fun σ => ?_)
  show _ = PsExpr1 d E  Q x1 σ
  first | rfl | exact ev_ok _ _ _ | exact ev_guard _ _ | (rw [ev_guard, ev_ok]; rfl) | (rw [ev_guard, ev_bind]; rfl) | (cases x1 <;> first | rfl | exact ev_ok _ _ _ | exact ev_no _) | (split <;> first | rfl | exact ev_ok _ _ _ | exact ev_no _ | simp_all)
def PsSet1 (i : Nat) (d : D) (E : Env)  (Q : Fl → Sto → Prop) : T → Sto → Prop := fun x1 σ => Q (.nx (E.set i (some x1))) σ
@[simp] theorem v_sSet1 (i : Nat) (d : D) (E : Env)  (Q : Fl → Sto → Prop) (x1 : T) (σ : Sto) : PsSet1 i d E  Q x1 σ = (Q (.nx (E.set i (some x1))) σ) := rfl
@[simp] theorem u_sSet (i : Nat) (d : D) (E : Env) (σ : Sto) (Q : Fl → Sto → Prop) : Ev (sSet i d E σ) Q = Ev (d E σ) (PsSet1 i d E Q) := by
  unfold sSet
  rw [ev_bind]
  refine congrArg _ (funext fun x1 => funext fun σ => ?_)
  show _ = PsSet1 i d E  Q x1 σ
  first | rfl | exact ev_ok _ _ _ | exact ev_guard _ _ | (rw [ev_guard, ev_ok]; rfl) | (rw [ev_guard, ev_bind]; rfl) | (cases x1 <;> first | rfl | exact ev_ok _ _ _ | exact ev_no _) | (split <;> first | rfl | exact ev_ok _ _ _ | exact ev_no _ | simp_all)
def PsAsg1 (d : D) (t : DT) (E : Env)  (Q : Fl → Sto → Prop) : T → Sto → Prop := fun x1 σ => Ev (asgR t x1 E σ) Q
@[simp] theorem v_sAsg1 (d : D) (t : DT) (E : Env)  (Q : Fl → Sto → Prop) (x1 : T) (σ : Sto) : PsAsg1 d t E  Q x1 σ = (Ev (asgR t x1 E σ) Q) := rfl
@[simp] theorem u_sAsg (d : D) (t : DT) (E : Env) (σ : Sto) (Q : Fl → Sto → Prop) : Ev (sAsg d t E σ) Q = Ev (d E σ) (PsAsg1 d t E Q) := by
  unfold sAsg
  rw [ev_bind]
  refine congrArg _ (funext fun x1 => funext fun σ => ?_)
  show _ = PsAsg1 d t E  Q x1 σ
  first | rfl | exact ev_ok _ _ _ | exact ev_guard _ _ | (rw [ev_guard, ev_ok]; rfl) | (rw [ev_guard, ev_bind]; rfl) | (cases x1 <;> first | rfl | exact ev_ok _ _ _ | exact ev_no _) | (split <;> first | rfl | exact ev_ok _ _ _ | exact ev_no _ | simp_all)
def PsMut1 (p : List T → List T → Option (List T × T)) (i : Nat) (es : DA) (E : Env)  (Q : Fl → Sto → Prop) : List T → Sto → Prop := fun x1 σ => Ev (mutR p i E x1 σ) Q
@[simp] theorem v_sMut1 (p : List T → List T → Option (List T × T)) (i : Nat) (es : DA) (E : Env)  (Q : Fl → Sto → Prop) (x1 : List T) (σ : Sto) : PsMut1 p i es E  Q x1 σ = (Ev (mutR p i E x1 σ) Q) := rfl
@[simp] theorem u_sMut (p : List T → List T → Option (List T × T)) (i : Nat) (es : DA) (E : Env) (σ : Sto) (Q : Fl → Sto → Prop) : Ev (sMut p i es E σ) Q = Ev (es E σ) (PsMut1 p i es E Q) := by
  unfold sMut
  rw [ev_bind]
  refine congrArg _ (funext fun x1 => funext fun σ => ?_)
  show _ = PsMut1 p i es E  Q x1 σ
  first | rfl | exact ev_ok _ _ _ | exact ev_guard _ _ | (rw [ev_guard, ev_ok]; rfl) | (rw [ev_guard, ev_bind]; rfl) | (cases x1 <;> first | rfl | exact ev_ok _ _ _ | exact ev_no _) | (split <;> first | rfl | exact ev_ok _ _ _ | exact ev_no _ | simp_all)
def PsMutR1 (p : List T → List T → Option (List T × T)) (i j : Nat) (es : DA) (E : Env)  (Q : Fl → Sto → Prop) : List T → Sto → Prop := fun x1 σ => Ev (mutRR p i j E x1 σ) Q
@[simp] theorem v_sMutR1 (p : List T → List T → Option (List T × T)) (i j : Nat) (es : DA) (E : Env)  (Q : Fl → Sto → Prop) (x1 : List T) (σ : Sto) : PsMutR1 p i j es E  Q x1 σ = (Ev (mutRR p i j E x1 σ) Q) := rfl
@[simp] theorem u_sMutR (p : List T → List T → Option (List T × T)) (i j : Nat) (es : DA) (E : Env) (σ : Sto) (Q : Fl → Sto → Prop) : Ev (sMutR p i j es E σ) Q = Ev (es E σ) (PsMutR1 p i j es E Q) := by
  unfold sMutR
  rw [ev_bind]
  refine congrArg _ (funext fun x1 => funext fun σ => ?_)
  show _ = PsMutR1 p i j es E  Q x1 σ
  first | rfl | exact ev_ok _ _ _ | exact ev_guard _ _ | (rw [ev_guard, ev_ok]; rfl) | (rw [ev_guard, ev_bind]; rfl) | (cases x1 <;> first | rfl | exact ev_ok _ _ _ | exact ev_no _) | (split <;> first | rfl | exact ev_ok _ _ _ | exact ev_no _ | simp_all)
def PsSub2 (i : Nat) (k d : D) (E : Env) (x1 : T) (Q : Fl → Sto → Prop) : T → Sto → Prop := fun x2 σ => Ev (subR i E x1 x2 σ) Q
@[simp] theorem v_sSub2 (i : Nat) (k d : D) (E : Env) (x1 : T) (Q : Fl → Sto → Prop) (x2 : T) (σ : Sto) : PsSub2 i k d E x1 Q x2 σ = (Ev (subR i E x1 x2 σ) Q) := rfl
def PsSub1 (i : Nat) (k d : D) (E : Env)  (Q : Fl → Sto → Prop) : T → Sto → Prop := fun x1 σ => Ev (k E σ) (PsSub2 i k d E x1 Q)
@[simp] theorem v_sSub1 (i : Nat) (k d : D) (E : Env)  (Q : Fl → Sto → Prop) (x1 : T) (σ : Sto) : PsSub1 i k d E  Q x1 σ = (Ev (k E σ) (PsSub2 i k d E x1 Q)) := rfl
@[simp] theorem u_sSub (i : Nat) (k d : D) (E : Env) (σ : Sto) (Q : Fl → Sto → Prop) : Ev (sSub i k d E σ) Q = Ev (d E σ) (PsSub1 i k d E Q) := by
  unfold sSub
  rw [ev_bind]
  refine congrArg _ (funext fun x1 => funext fun σ => ?_)
  rw [ev_bind]
  refine congrArg _ (funext fun x2 => funext fun σ => ?_)
  show _ = PsSub2 i k d E x1 Q x2 σ
  first | rfl | exact ev_ok _ _ _ | exact ev_guard _ _ | (rw [ev_guard, ev_ok]; rfl) | (rw [ev_guard, ev_bind]; rfl) | (cases x2 <;> first | rfl | exact ev_ok _ _ _ | exact ev_no _) | (split <;> first | rfl | exact ev_ok _ _ _ | exact ev_no _ | simp_all)
def PsSubC4 (o k d : D) (E : Env) (x1 : T) (x2 : T) (x3 : T) (Q : Fl → Sto → Prop) : Unit → Sto → Prop := fun x4 σ => Q (.nx E) σ
@[simp] theorem v_sSubC4 (o k d : D) (E : Env) (x1 : T) (x2 : T) (x3 : T) (Q : Fl → Sto → Prop) (x4 : Unit) (σ : Sto) : PsSubC4 o k d E x1 x2 x3 Q x4 σ = (Q (.nx E) σ) := rfl
def PsSubC3 (o k d : D) (E : Env) (x1 : T) (x2 : T) (Q : Fl → Sto → Prop) : T → Sto → Prop := fun x3 σ => Ev (setC x2 x3 x1 σ) (PsSubC4 o k d E x1 x2 x3 Q)
@[simp] theorem v_sSubC3 (o k d : D) (E : Env) (x1 : T) (x2 : T) (Q : Fl → Sto → Prop) (x3 : T) (σ : Sto) : PsSubC3 o k d E x1 x2 Q x3 σ = (Ev (setC x2 x3 x1 σ) (PsSubC4 o k d E x1 x2 x3 Q)) := rfl
def PsSubC2 (o k d : D) (E : Env) (x1 : T) (Q : Fl → Sto → Prop) : T → Sto → Prop := fun x2 σ => Ev (k E σ) (PsSubC3 o k d E x1 x2 Q)
@[simp] theorem v_sSubC2 (o k d : D) (E : Env) (x1 : T) (Q : Fl → Sto → Prop) (x2 : T) (σ : Sto) : PsSubC2 o k d E x1 Q x2 σ = (Ev (k E σ) (PsSubC3 o k d E x1 x2 Q)) := rfl
def PsSubC1 (o k d : D) (E : Env)  (Q : Fl → Sto → Prop) : T → Sto → Prop := fun x1 σ => Ev (o E σ) (PsSubC2 o k d E x1 Q)
@[simp] theorem v_sSubC1 (o k d : D) (E : Env)  (Q : Fl → Sto → Prop) (x1 : T) (σ : Sto) : PsSubC1 o k d E  Q x1 σ = (Ev (o E σ) (PsSubC2 o k d E x1 Q)) := rfl
@[simp] theorem u_sSubC (o k d : D) (E : Env) (σ : Sto) (Q : Fl → Sto → Prop) : Ev (sSubC o k d E σ) Q = Ev (d E σ) (PsSubC1 o k d E Q) := by
  unfold sSubC
  rw [ev_bind]
  refine congrArg _ (funext fun x1 => funext fun σ => ?_)
  rw [ev_bind]
  refine congrArg _ (funext fun x2 => funext fun σ => ?_)
  rw [ev_bind]
  refine congrArg _ (funext fun x3 => funext fun σ => ?_)
  rw [ev_bind]
  refine congrArg _ (funext fun x4 => funext fun σ => ?_)
  show _ = PsSubC4 o k d E x1 x2 x3 Q x4 σ
  first | rfl | exact ev_ok _ _ _ | exact ev_guard _ _ | (rw [ev_guard, ev_ok]; rfl) | (rw [ev_guard, ev_bind]; rfl) | (cases x4 <;> first | rfl | exact ev_ok _ _ _ | exact ev_no _) | (split <;> first | rfl | exact ev_ok _ _ _ | exact ev_no _ | simp_all)
def PsFldC3 (T0 : Pa.CTab) (o : D) (f : String) (d : D) (E : Env) (x1 : T) (x2 : T) (Q : Fl → Sto → Prop) : Unit → Sto → Prop := fun x3 σ => Q (.nx E) σ
@[simp] theorem v_sFldC3 (T0 : Pa.CTab) (o : D) (f : String) (d : D) (E : Env) (x1 : T) (x2 : T) (Q : Fl → Sto → Prop) (x3 : Unit) (σ : Sto) : PsFldC3 T0 o f d E x1 x2 Q x3 σ = (Q (.nx E) σ) := rfl
def PsFldC2 (T0 : Pa.CTab) (o : D) (f : String) (d : D) (E : Env) (x1 : T) (Q : Fl → Sto → Prop) : T → Sto → Prop := fun x2 σ => Ev (fldC T0 x2 f x1 σ) (PsFldC3 T0 o f d E x1 x2 Q)
@[simp] theorem v_sFldC2 (T0 : Pa.CTab) (o : D) (f : String) (d : D) (E : Env) (x1 : T) (Q : Fl → Sto → Prop) (x2 : T) (σ : Sto) : PsFldC2 T0 o f d E x1 Q x2 σ = (Ev (fldC T0 x2 f x1 σ) (PsFldC3 T0 o f d E x1 x2 Q)) := rfl
def PsFldC1 (T0 : Pa.CTab) (o : D) (f : String) (d : D) (E : Env)  (Q : Fl → Sto → Prop) : T → Sto → Prop := fun x1 σ => Ev (o E σ) (PsFldC2 T0 o f d E x1 Q)
@[simp] theorem v_sFldC1 (T0 : Pa.CTab) (o : D) (f : String) (d : D) (E : Env)  (Q : Fl → Sto → Prop) (x1 : T) (σ : Sto) : PsFldC1 T0 o f d E  Q x1 σ = (Ev (o E σ) (PsFldC2 T0 o f d E x1 Q)) := rfl
@[simp] theorem u_sFldC (T0 : Pa.CTab) (o : D) (f : String) (d : D) (E : Env) (σ : Sto) (Q : Fl → Sto → Prop) : Ev (sFldC T0 o f d E σ) Q = Ev (d E σ) (PsFldC1 T0 o f d E Q) := by
  unfold sFldC
  rw [ev_bind]
  refine congrArg _ (funext fun x1 => funext fun σ => ?_)
  rw [ev_bind]
  refine congrArg _ (funext fun x2 => funext fun σ => ?_)
  rw [ev_bind]
  refine congrArg _ (funext fun x3 => funext fun σ => ?_)
  show _ = PsFldC3 T0 o f d E x1 x2 Q x3 σ
  first | rfl | exact ev_ok _ _ _ | exact ev_guard _ _ | (rw [ev_guard, ev_ok]; rfl) | (rw [ev_guard, ev_bind]; rfl) | (cases x3 <;> first | rfl | exact ev_ok _ _ _ | exact ev_no _) | (split <;> first | rfl | exact ev_ok _ _ _ | exact ev_no _ | simp_all)
/-! a def's call -/
def PRun (Q : T → Sto → Prop) : Fl → Sto → Prop := fun f σ => match f with
  | .nx _ => Q .non σ
  | .rt v => Q v σ
  | _ => False
@[simp] theorem u_trun (n : Nat) (d : Ds) (args : List T) (σ : Sto) (Q : T → Sto → Prop) : Ev (trun n d args σ) Q = Ev (d (args.map some ++ List.replicate (n - args.length) none) σ) (PRun Q) := by
  unfold trun
  rw [ev_bind]
  refine congrArg _ (funext fun x => funext fun σ => ?_)
  cases x <;> first | exact ev_ok _ _ _ | exact ev_no _
@[simp] theorem v_PRunn (Q : T → Sto → Prop) (E : Env) (σ : Sto) : PRun Q (.nx E) σ = Q .non σ := rfl
@[simp] theorem v_PRunr (Q : T → Sto → Prop) (v : T) (σ : Sto) : PRun Q (.rt v) σ = Q v σ := rfl
/-! for, while -/
def PFor (tg : DT) (body : Ds) (E : Env) (Q : Fl → Sto → Prop) : Itb → Sto → Prop := fun b σ => Ev (forL b tg body b.num 0 E σ) Q
@[simp] theorem u_sFor (it : DI) (tg : DT) (body : Ds) (E : Env) (σ : Sto) (Q : Fl → Sto → Prop) : Ev (sFor it tg body E σ) Q = Ev (it E σ) (PFor tg body E Q) := by
  unfold sFor
  rw [ev_bind]; rfl
@[simp] theorem v_PFor (tg : DT) (body : Ds) (E : Env) (Q : Fl → Sto → Prop) (b : Itb) (σ : Sto) : PFor tg body E Q b σ = Ev (forL b tg body b.num 0 E σ) Q := rfl
def PStep (I : Nat → Env → Sto → Prop) (j : Nat) (Q : Fl → Sto → Prop) : Fl → Sto → Prop := fun f σ => match f with
  | .nx E => I (j + 1) E σ
  | .ct E => I (j + 1) E σ
  | .bk E => Q (.nx E) σ
  | .rt v => Q (.rt v) σ
@[simp] theorem v_PStepn (I : Nat → Env → Sto → Prop) (j : Nat) (Q : Fl → Sto → Prop) (E : Env) (σ : Sto) : PStep I j Q (.nx E) σ = I (j + 1) E σ := rfl
@[simp] theorem v_PStepc (I : Nat → Env → Sto → Prop) (j : Nat) (Q : Fl → Sto → Prop) (E : Env) (σ : Sto) : PStep I j Q (.ct E) σ = I (j + 1) E σ := rfl
@[simp] theorem v_PStepb (I : Nat → Env → Sto → Prop) (j : Nat) (Q : Fl → Sto → Prop) (E : Env) (σ : Sto) : PStep I j Q (.bk E) σ = Q (.nx E) σ := rfl
@[simp] theorem v_PStepr (I : Nat → Env → Sto → Prop) (j : Nat) (Q : Fl → Sto → Prop) (v : T) (σ : Sto) : PStep I j Q (.rt v) σ = Q (.rt v) σ := rfl
def PTgt (body : Ds) (Q : Fl → Sto → Prop) : Env → Sto → Prop := fun E σ => Ev (body E σ) Q
@[simp] theorem v_PTgt (body : Ds) (Q : Fl → Sto → Prop) (E : Env) (σ : Sto) : PTgt body Q E σ = Ev (body E σ) Q := rfl
theorem forL_ev {it : Itb} {tg : DT} {body : Ds} {Q : Fl → Sto → Prop} (I : Nat → Env → Sto → Prop) : ∀ {n i : Nat} {E : Env} {σ : Sto}, I i E σ →
    (∀ j E σ, i ≤ j → j < i + n → I j E σ → Ev (yld it j σ) fun v σ1 => Ev (tg v E σ1) (PTgt body (PStep I j Q))) →
    (∀ E σ, I (i + n) E σ → fin it (i + n) σ = true ∧ Q (.nx E) σ) → Ev (forL it tg body n i E σ) Q
  | 0, i, E, σ, h, _, he => by
    obtain ⟨h1, h2⟩ := he E σ h
    have h1' : fin it i σ = true := h1
    simp only [forL, h1', if_true, ev_ok]
    exact h2
  | n + 1, i, E, σ, h, hs, he => by
    have z := hs i E σ (Nat.le_refl _) (by omega) h
    simp only [forL]
    rw [ev_bind]
    refine z.mono fun v σ1 z => ?_
    rw [ev_bind]
    refine z.mono fun E1 σ2 z => ?_
    rw [ev_bind]
    refine Ev.mono z fun f σ3 z => ?_
    have he' : ∀ E σ, I (i + 1 + n) E σ → fin it (i + 1 + n) σ = true ∧ Q (.nx E) σ := fun E σ h => by
      have e : i + (n + 1) = i + 1 + n := by omega
      rw [e] at he
      exact he E σ h
    cases f with
    | nx E2 => exact forL_ev I z (fun j E σ h1 h2 => hs j E σ (by omega) (by omega)) he'
    | ct E2 => exact forL_ev I z (fun j E σ h1 h2 => hs j E σ (by omega) (by omega)) he'
    | bk E2 => simp only [ev_ok]; exact z
    | rt v => simp only [ev_ok]; exact z
/-- a list that stays -/
theorem for_lst {xs : List T} {n : Nat} {tg : DT} {body : Ds} {Q : Fl → Sto → Prop} {E : Env} {σ : Sto} (I : Nat → Env → Sto → Prop) (h0 : I 0 E σ) (hn : n = xs.length)
    (hs : ∀ j E σ x, xs[j]? = some x → I j E σ → Ev (tg x E σ) (PTgt body (PStep I j Q))) (he : ∀ E σ, I xs.length E σ → Q (.nx E) σ) : Ev (forL (.lst (.lst xs) n) tg body n 0 E σ) Q := by
  subst hn
  refine forL_ev I h0 (fun j E σ _ h h1 => ?_) fun E σ h => ?_
  · have hj : j < xs.length := by omega
    have e : xs[j]? = some xs[j] := List.getElem?_eq_getElem hj
    simp only [yld, lstT, look, e, R.of, ev_ok]
    exact hs j E σ _ e h1
  · rw [Nat.zero_add] at h ⊢
    exact ⟨by simp [fin, lstT, look], he E σ h⟩
theorem for_scr {ns : List Int} {n : Nat} {tg : DT} {body : Ds} {Q : Fl → Sto → Prop} {E : Env} {σ : Sto} (I : Nat → Env → Sto → Prop) (h0 : I 0 E σ) (hn : n = ns.length)
    (hs : ∀ j E σ x, ns[j]? = some x → I j E σ → Ev (tg (.int x) E σ) (PTgt body (PStep I j Q))) (he : ∀ E σ, I ns.length E σ → Q (.nx E) σ) : Ev (forL (.lst (.scr ns) n) tg body n 0 E σ) Q := by
  subst hn
  refine forL_ev I h0 (fun j E σ _ h h1 => ?_) fun E σ h => ?_
  · have hj : j < ns.length := by omega
    have e : ns[j]? = some ns[j] := List.getElem?_eq_getElem hj
    have e2 : (ns.map T.int)[j]? = some (.int ns[j]) := by rw [List.getElem?_map, e]; rfl
    simp only [yld, lstT, look, e2, R.of, ev_ok]
    exact hs j E σ _ e h1
  · rw [Nat.zero_add] at h ⊢
    exact ⟨by simp [fin, lstT, look], he E σ h⟩
theorem for_tup {xs : List T} {n : Nat} {tg : DT} {body : Ds} {Q : Fl → Sto → Prop} {E : Env} {σ : Sto} (I : Nat → Env → Sto → Prop) (h0 : I 0 E σ) (hn : n = xs.length)
    (hs : ∀ j E σ x, xs[j]? = some x → I j E σ → Ev (tg x E σ) (PTgt body (PStep I j Q))) (he : ∀ E σ, I xs.length E σ → Q (.nx E) σ) : Ev (forL (.tup xs n) tg body n 0 E σ) Q := by
  subst hn
  refine forL_ev I h0 (fun j E σ _ h h1 => ?_) fun E σ h => ?_
  · have hj : j < xs.length := by omega
    have e : xs[j]? = some xs[j] := List.getElem?_eq_getElem hj
    simp only [yld, e, R.of, ev_ok]
    exact hs j E σ _ e h1
  · rw [Nat.zero_add] at h ⊢
    exact ⟨by simp [fin], he E σ h⟩
theorem for_str {s : List Nat} {n : Nat} {tg : DT} {body : Ds} {Q : Fl → Sto → Prop} {E : Env} {σ : Sto} (I : Nat → Env → Sto → Prop) (h0 : I 0 E σ) (hn : n = s.length)
    (hs : ∀ j E σ x, s[j]? = some x → I j E σ → Ev (tg (.str [x]) E σ) (PTgt body (PStep I j Q))) (he : ∀ E σ, I s.length E σ → Q (.nx E) σ) : Ev (forL (.str s) tg body n 0 E σ) Q := by
  subst hn
  refine forL_ev I h0 (fun j E σ _ h h1 => ?_) fun E σ h => ?_
  · have hj : j < s.length := by omega
    have e : s[j]? = some s[j] := List.getElem?_eq_getElem hj
    simp only [yld, e, ev_ok]
    exact hs j E σ _ e h1
  · rw [Nat.zero_add] at h ⊢
    exact ⟨by simp [fin], he E σ h⟩
theorem for_rng {lo c : Int} {n : Nat} {tg : DT} {body : Ds} {Q : Fl → Sto → Prop} {E : Env} {σ : Sto} (I : Nat → Env → Sto → Prop) (h0 : I 0 E σ)
    (hs : ∀ j E σ, j < n → I j E σ → Ev (tg (.int (lo + (j : Int) * c)) E σ) (PTgt body (PStep I j Q))) (he : ∀ E σ, I n E σ → Q (.nx E) σ) : Ev (forL (.rng lo c n) tg body n 0 E σ) Q := by
  refine forL_ev I h0 (fun j E σ _ h h1 => ?_) fun E σ h => ?_
  · simp only [yld, ev_ok]
    exact hs j E σ (by omega) h1
  · rw [Nat.zero_add] at h ⊢
    exact ⟨by simp [fin], he E σ h⟩
theorem for_zip {xs ys : List T} {n : Nat} {tg : DT} {body : Ds} {Q : Fl → Sto → Prop} {E : Env} {σ : Sto} (I : Nat → Env → Sto → Prop) (h0 : I 0 E σ) (hn : n = min xs.length ys.length)
    (hs : ∀ j E σ x y, xs[j]? = some x → ys[j]? = some y → I j E σ → Ev (tg (.tup [x, y]) E σ) (PTgt body (PStep I j Q))) (he : ∀ E σ, I (min xs.length ys.length) E σ → Q (.nx E) σ) : Ev (forL (.zip (.lst xs) (.lst ys) n) tg body n 0 E σ) Q := by
  subst hn
  refine forL_ev I h0 (fun j E σ _ h h1 => ?_) fun E σ h => ?_
  · have hj : j < xs.length := by omega
    have hj2 : j < ys.length := by omega
    have e : xs[j]? = some xs[j] := List.getElem?_eq_getElem hj
    have e2 : ys[j]? = some ys[j] := List.getElem?_eq_getElem hj2
    simp only [yld, lstT, look, e, e2, ev_ok]
    exact hs j E σ _ _ e e2 h1
  · rw [Nat.zero_add] at h ⊢
    refine ⟨?_, he E σ h⟩
    simp only [fin, lstT, look, decide_eq_true_eq]
    omega
theorem wh_ev {c : D} {body : Ds} {Q : Fl → Sto → Prop} (I : Nat → Env → Sto → Prop)
    (h : ∀ j E σ, I j E σ → Ev (c E σ) fun v σ1 => (v = .bl true ∧ Ev (body E σ1) fun f σ2 => match f with
      | .nx E2 => ∃ i, i < j ∧ I i E2 σ2
      | .ct E2 => ∃ i, i < j ∧ I i E2 σ2
      | .bk E2 => Q (.nx E2) σ2
      | .rt v => Q (.rt v) σ2) ∨ (v = .bl false ∧ Q (.nx E) σ1)) : ∀ {n j : Nat} {E : Env} {σ : Sto}, I j E σ → j < n → Ev (whL c body n E σ) Q
  | 0, j, E, σ, _, hn => by omega
  | n + 1, j, E, σ, hi, hn => by
    simp only [whL]
    rw [ev_bind]
    refine (h j E σ hi).mono fun v σ1 z => ?_
    rcases z with ⟨rfl, z⟩ | ⟨rfl, z⟩
    · simp only
      rw [ev_bind]
      refine Ev.mono z fun f σ2 z => ?_
      cases f with
      | nx E2 =>
        obtain ⟨i, hi, q⟩ := z
        exact wh_ev I h q (by omega)
      | ct E2 =>
        obtain ⟨i, hi, q⟩ := z
        exact wh_ev I h q (by omega)
      | bk E2 => simp only [ev_ok]; exact z
      | rt v => simp only [ev_ok]; exact z
    · simp only [ev_ok]
      exact z
@[simp] theorem u_sWhile (n : Nat) (c : D) (body : Ds) (E : Env) (σ : Sto) (Q : Fl → Sto → Prop) : Ev (sWhile n c body E σ) Q = Ev (whL c body n E σ) Q := rfl
/-! comprehensions -/
def PCmp (tg : DT) (tt te : D) (vs : List Nat) (E : Env) (Q : T → Sto → Prop) : Itb → Sto → Prop := fun b σ => Ev (compL b tg tt te (wipeE E vs) b.num 0 [] σ) fun acc σ2 => Q (.lst acc) σ2
@[simp] theorem u_eComp (it : DI) (tg : DT) (tt te : D) (vs : List Nat) (E : Env) (σ : Sto) (Q : T → Sto → Prop) : Ev (eComp it tg tt te vs E σ) Q = Ev (it E σ) (PCmp tg tt te vs E Q) := by
  unfold eComp
  rw [ev_bind]
  refine congrArg _ (funext fun b => funext fun σ => ?_)
  rw [ev_bind]
  unfold PCmp
  refine congrArg _ (funext fun b => funext fun σ => ?_)
  exact ev_ok _ _ _
def PTt (te : D) (E : Env) (S : Option T → Sto → Prop) : T → Sto → Prop := fun t σ => match t with
  | .bl true => Ev (te E σ) fun y σ => S (some y) σ
  | .bl false => S none σ
  | _ => False
def PTs2 (S : Option T → Sto → Prop) : T → Sto → Prop := fun y σ => S (some y) σ
@[simp] theorem v_PTs2 (S : Option T → Sto → Prop) (y : T) (σ : Sto) : PTs2 S y σ = S (some y) σ := rfl
@[simp] theorem v_PTt (te : D) (E : Env) (S : Option T → Sto → Prop) (k : Bool) (σ : Sto) : PTt te E S (.bl k) σ = ((k = true → Ev (te E σ) (PTs2 S)) ∧ (k = false → S none σ)) := by
  cases k <;> simp [PTt]; rfl
def PTg (tt te : D) (S : Option T → Sto → Prop) : Env → Sto → Prop := fun E σ => Ev (tt E σ) (PTt te E S)
@[simp] theorem v_PTg (tt te : D) (S : Option T → Sto → Prop) (E : Env) (σ : Sto) : PTg tt te S E σ = Ev (tt E σ) (PTt te E S) := rfl
def PYl (tg : DT) (tt te : D) (E : Env) (S : Option T → Sto → Prop) : T → Sto → Prop := fun v σ => Ev (tg v E σ) (PTg tt te S)
@[simp] theorem v_PYl (tg : DT) (tt te : D) (E : Env) (S : Option T → Sto → Prop) (v : T) (σ : Sto) : PYl tg tt te E S v σ = Ev (tg v E σ) (PTg tt te S) := rfl
/-- the store goes through states I 0, I 1, .. -/
theorem compL_ev {it : Itb} {tg : DT} {tt te : D} {E0 : Env} {Q : List T → Sto → Prop} (I : Nat → Sto → Prop) (F : Nat → Option T) : ∀ {n i : Nat} {acc : List T} {σ : Sto}, I i σ → acc.length + n ≤ 1000000 →
    (∀ j σ, i ≤ j → j < i + n → I j σ → Ev (yld it j σ) (PYl tg tt te E0 fun o σ => o = F j ∧ I (j + 1) σ)) → (∀ σ, I (i + n) σ → fin it (i + n) σ = true ∧ Q (acc ++ (List.range' i n).filterMap F) σ) →
    Ev (compL it tg tt te E0 n i acc σ) Q
  | 0, i, acc, σ, h, _, _, hf => by
    obtain ⟨h1, h2⟩ := hf σ h
    have h1' : fin it i σ = true := h1
    simp only [compL, h1', if_true, ev_ok]
    simpa using h2
  | n + 1, i, acc, σ, h, hl, hs, hf => by
    have z := hs i σ (Nat.le_refl _) (by omega) h
    simp only [compL]
    rw [ev_bind]
    refine z.mono fun v σ1 z => ?_
    rw [ev_bind]
    refine Ev.mono z fun E1 σ2 z => ?_
    rw [ev_bind]
    refine Ev.mono z fun b σ3 z => ?_
    have hs' : ∀ j σ, i + 1 ≤ j → j < i + 1 + n → I j σ → Ev (yld it j σ) (PYl tg tt te E0 fun o σ => o = F j ∧ I (j + 1) σ) := fun j σ h1 h2 => hs j σ (by omega) (by omega)
    have e1 : i + (n + 1) = i + 1 + n := by omega
    have e : List.range' i (n + 1) = i :: List.range' (i + 1) n := by rw [List.range'_succ]
    cases b with
    | bl k =>
      cases k with
      | true =>
        simp only
        rw [ev_bind]
        refine Ev.mono z fun y σ4 z => ?_
        obtain ⟨z1, z2⟩ := z
        have hlt : acc.length < 1000000 := by omega
        simp only [hlt, if_true]
        refine compL_ev I F (n := n) (i := i + 1) z2 (by rw [List.length_append, List.length_singleton]; omega) hs' fun σ h => ?_
        rw [← e1] at h ⊢
        obtain ⟨q1, q2⟩ := hf σ h
        refine ⟨q1, ?_⟩
        rw [e, List.filterMap_cons, ← z1] at q2
        simpa using q2
      | false =>
        obtain ⟨z1, z2⟩ := z
        simp only
        refine compL_ev I F (n := n) (i := i + 1) z2 (by omega) hs' fun σ h => ?_
        rw [← e1] at h ⊢
        obtain ⟨q1, q2⟩ := hf σ h
        refine ⟨q1, ?_⟩
        rw [e, List.filterMap_cons, ← z1] at q2
        exact q2
    | _ => exact z.elim
/-- items that change nothing -/
abbrev Is (σ : Sto) (o : Option T) : Option T → Sto → Prop := fun o' σ' => o' = o ∧ σ' = σ
theorem comp_ev {it : Itb} {tg : DT} {tt te : D} {vs : List Nat} {E : Env} {Q : T → Sto → Prop} {σ : Sto} (F : Nat → Option T) (hn : it.num ≤ 1000000) (hs : ∀ j, j < it.num → Ev (yld it j σ) (PYl tg tt te (wipeE E vs) (Is σ (F j)))) (hf : fin it it.num σ = true)
    (hq : Q (.lst ((List.range it.num).filterMap F)) σ) : PCmp tg tt te vs E Q it σ := by
  refine compL_ev (fun _ s => s = σ) F rfl (by simpa using hn) (fun j s _ h2 hI => ?_) fun s hI => ?_
  · subst hI
    exact hs j (by omega)
  · subst hI
    rw [Nat.zero_add, List.nil_append, ← List.range_eq_range']
    exact ⟨hf, hq⟩
theorem fm_list {α β : Type} (xs : List α) (f : α → Option β) : (List.range xs.length).filterMap (fun j => (xs[j]?).bind f) = xs.filterMap f := by
  induction xs with
  | nil => rfl
  | cons x xs ih =>
    rw [List.length_cons, List.range_succ_eq_map, List.filterMap_cons]
    have h2 : (List.map Nat.succ (List.range xs.length)).filterMap (fun j => ((x :: xs)[j]?).bind f) = xs.filterMap f := by
      rw [List.filterMap_map, ← ih]
      rfl
    rw [h2]
    simp only [List.getElem?_cons_zero, Option.bind_some, List.filterMap_cons]
theorem comp_lst {xs : List T} {n : Nat} {tg : DT} {tt te : D} {vs : List Nat} {E : Env} {Q : T → Sto → Prop} {σ : Sto} (F : T → Option T) (hn : n = xs.length) (hl : xs.length ≤ 1000000) (hs : ∀ x, x ∈ xs → PYl tg tt te (wipeE E vs) (Is σ (F x)) x σ)
    (hq : Q (.lst (xs.filterMap F)) σ) : PCmp tg tt te vs E Q (.lst (.lst xs) n) σ := by
  subst hn
  refine comp_ev (fun j => (xs[j]?).bind F) hl (fun j hj => ?_) (by simp [fin, lstT, look, Itb.num]) (by simpa only [Itb.num, fm_list] using hq)
  have e : xs[j]? = some xs[j] := List.getElem?_eq_getElem hj
  simp only [yld, lstT, look, e, R.of, ev_ok, Option.bind_some]
  exact hs _ (List.getElem_mem hj)
theorem comp_scr {ns : List Int} {n : Nat} {tg : DT} {tt te : D} {vs : List Nat} {E : Env} {Q : T → Sto → Prop} {σ : Sto} (F : Int → Option T) (hn : n = ns.length) (hl : ns.length ≤ 1000000) (hs : ∀ x, x ∈ ns → PYl tg tt te (wipeE E vs) (Is σ (F x)) (.int x) σ)
    (hq : Q (.lst (ns.filterMap F)) σ) : PCmp tg tt te vs E Q (.lst (.scr ns) n) σ := by
  subst hn
  refine comp_ev (fun j => (ns[j]?).bind F) hl (fun j hj => ?_) (by simp [fin, lstT, look, Itb.num]) (by simpa only [Itb.num, fm_list] using hq)
  have e : ns[j]? = some ns[j] := List.getElem?_eq_getElem hj
  have e2 : (ns.map T.int)[j]? = some (.int ns[j]) := by rw [List.getElem?_map, e]; rfl
  simp only [yld, lstT, look, e, e2, R.of, ev_ok, Option.bind_some]
  exact hs _ (List.getElem_mem hj)
theorem comp_tup {xs : List T} {n : Nat} {tg : DT} {tt te : D} {vs : List Nat} {E : Env} {Q : T → Sto → Prop} {σ : Sto} (F : T → Option T) (hn : n = xs.length) (hl : xs.length ≤ 1000000) (hs : ∀ x, x ∈ xs → PYl tg tt te (wipeE E vs) (Is σ (F x)) x σ)
    (hq : Q (.lst (xs.filterMap F)) σ) : PCmp tg tt te vs E Q (.tup xs n) σ := by
  subst hn
  refine comp_ev (fun j => (xs[j]?).bind F) hl (fun j hj => ?_) (by simp [fin, Itb.num]) (by simpa only [Itb.num, fm_list] using hq)
  have e : xs[j]? = some xs[j] := List.getElem?_eq_getElem hj
  simp only [yld, e, R.of, ev_ok, Option.bind_some]
  exact hs _ (List.getElem_mem hj)
theorem comp_str {s : List Nat} {tg : DT} {tt te : D} {vs : List Nat} {E : Env} {Q : T → Sto → Prop} {σ : Sto} (F : Nat → Option T) (hl : s.length ≤ 1000000) (hs : ∀ x, x ∈ s → PYl tg tt te (wipeE E vs) (Is σ (F x)) (.str [x]) σ)
    (hq : Q (.lst (s.filterMap F)) σ) : PCmp tg tt te vs E Q (.str s) σ := by
  refine comp_ev (fun j => (s[j]?).bind F) hl (fun j hj => ?_) (by simp [fin, Itb.num]) (by simpa only [Itb.num, fm_list] using hq)
  have e : s[j]? = some s[j] := List.getElem?_eq_getElem hj
  simp only [yld, e, ev_ok, Option.bind_some]
  exact hs _ (List.getElem_mem hj)
theorem comp_rng {lo c : Int} {n : Nat} {tg : DT} {tt te : D} {vs : List Nat} {E : Env} {Q : T → Sto → Prop} {σ : Sto} (F : Nat → Option T) (hn : n ≤ 1000000) (hs : ∀ j, j < n → PYl tg tt te (wipeE E vs) (Is σ (F j)) (.int (lo + (j : Int) * c)) σ)
    (hq : Q (.lst ((List.range n).filterMap F)) σ) : PCmp tg tt te vs E Q (.rng lo c n) σ := by
  refine comp_ev F hn (fun j hj => ?_) (by simp [fin, Itb.num]) hq
  simp only [yld, ev_ok]
  exact hs j hj
theorem fm_map {α β : Type} (xs : List α) (f : α → β) : xs.filterMap (fun x => some (f x)) = xs.map f := by
  induction xs with
  | nil => rfl
  | cons x xs ih => simp
@[simp] theorem wipe_nil (E : Env) : wipeE E [] = E := rfl
@[simp] theorem wipe_cons (E : Env) (v : Nat) (vs : List Nat) : wipeE E (v :: vs) = (wipeE E vs).set v none := rfl
/-! what is walked -/
def PSeqI (Q : Itb → Sto → Prop) : T → Sto → Prop := fun v σ => Ev (iSeq (fun _ σ => .ok v σ) [] σ) Q
@[simp] theorem u_iSeq (d : D) (E : Env) (σ : Sto) (Q : Itb → Sto → Prop) : Ev (iSeq d E σ) Q = Ev (d E σ) (PSeqI Q) := by
  unfold PSeqI iSeq
  rw [ev_bind]
  rfl
@[simp] theorem v_iSeqs (Q : Itb → Sto → Prop) (s : List Nat) (σ : Sto) : PSeqI Q (.str s) σ = Q (.str s) σ := by simp [PSeqI, iSeq, R.bind_ok, look]
@[simp] theorem v_iSeql (Q : Itb → Sto → Prop) (s : List T) (σ : Sto) : PSeqI Q (.lst s) σ = Q (.lst (.lst s) s.length) σ := by simp [PSeqI, iSeq, R.bind_ok, look]
@[simp] theorem v_iSeqc (Q : Itb → Sto → Prop) (s : List Int) (σ : Sto) : PSeqI Q (.scr s) σ = Q (.lst (.scr s) s.length) σ := by simp [PSeqI, iSeq, R.bind_ok, look]
@[simp] theorem v_iSeqt (Q : Itb → Sto → Prop) (s : List T) (σ : Sto) : PSeqI Q (.tup s) σ = Q (.tup s s.length) σ := by simp [PSeqI, iSeq, R.bind_ok, look]
theorem v_iSeqp {Q : Itb → Sto → Prop} {k : Nat} {xs : List T} {σ : Sto} (h : σ[k]? = some (some (.lst xs))) : PSeqI Q (.ptr k) σ = Q (.lst (.ptr k) xs.length) σ := by simp [PSeqI, iSeq, R.bind_ok, look, h]
def PR1 (Q : Itb → Sto → Prop) : List T → Sto → Prop := fun vs σ => Ev (iR1 (fun _ σ => .ok vs σ) [] σ) Q
@[simp] theorem u_iR1 (d : DA) (E : Env) (σ : Sto) (Q : Itb → Sto → Prop) : Ev (iR1 d E σ) Q = Ev (d E σ) (PR1 Q) := by
  unfold PR1 iR1
  rw [ev_bind]
  rfl
@[simp] theorem v_iR1 (Q : Itb → Sto → Prop) (j : Int) (σ : Sto) : PR1 Q [.int j] σ = ((-1000000 ≤ j ∧ j ≤ 1000000) ∧ Q (.rng 0 1 j.toNat) σ) := by
  simp only [PR1, iR1, R.bind_ok, ev_guard, ev_ok]
def PR2 (Q : Itb → Sto → Prop) : List T → Sto → Prop := fun vs σ => Ev (iR2 (fun _ σ => .ok vs σ) [] σ) Q
@[simp] theorem u_iR2 (d : DA) (E : Env) (σ : Sto) (Q : Itb → Sto → Prop) : Ev (iR2 d E σ) Q = Ev (d E σ) (PR2 Q) := by
  unfold PR2 iR2
  rw [ev_bind]
  rfl
@[simp] theorem v_iR2 (Q : Itb → Sto → Prop) (i j : Int) (σ : Sto) : PR2 Q [.int i, .int j] σ = ((-1000000 ≤ j ∧ j ≤ 1000000 ∧ -1000000 ≤ i ∧ i ≤ 1000000) ∧ Q (.rng i 1 (j - i).toNat) σ) := by
  simp only [PR2, iR2, R.bind_ok, ev_guard, ev_ok]
def PR3 (Q : Itb → Sto → Prop) : List T → Sto → Prop := fun vs σ => Ev (iR3 (fun _ σ => .ok vs σ) [] σ) Q
@[simp] theorem u_iR3 (d : DA) (E : Env) (σ : Sto) (Q : Itb → Sto → Prop) : Ev (iR3 d E σ) Q = Ev (d E σ) (PR3 Q) := by
  unfold PR3 iR3
  rw [ev_bind]
  rfl
@[simp] theorem v_iR3 (Q : Itb → Sto → Prop) (i j c : Int) (σ : Sto) : PR3 Q [.int i, .int j, .int c] σ = ((-1000000 ≤ j ∧ j ≤ 1000000 ∧ -1000000 ≤ i ∧ i ≤ 1000000 ∧ 0 < c ∧ c ≤ 1000) ∧ Q (.rng i c (Pa.rcount i j c)) σ) := by
  simp only [PR3, iR3, R.bind_ok, ev_guard, ev_ok]
def PZip (Q : Itb → Sto → Prop) : List T → Sto → Prop := fun vs σ => Ev (jZip (fun _ σ => .ok vs σ) [] σ) Q
@[simp] theorem u_jZip (d : DA) (E : Env) (σ : Sto) (Q : Itb → Sto → Prop) : Ev (jZip d E σ) Q = Ev (d E σ) (PZip Q) := by
  unfold PZip jZip
  rw [ev_bind]
  rfl
@[simp] theorem v_PZip (Q : Itb → Sto → Prop) (xs ys : List T) (σ : Sto) : PZip Q [.lst xs, .lst ys] σ = Q (.zip (.lst xs) (.lst ys) (min xs.length ys.length)) σ := by
  simp [PZip, jZip, R.bind_ok, lstT, look]
@[simp] theorem u_tNm (i : Nat) (v : T) (E : Env) (σ : Sto) : tNm i v E σ = .ok (E.set i (some v)) σ := rfl
@[simp] theorem u_tTp (is : List Nat) (xs : List T) (E : Env) (σ : Sto) (Q : Env → Sto → Prop) : Ev (tTp is (.tup xs) E σ) Q = (xs.length = is.length ∧ Q (setAll E is xs) σ) := by
  show Ev (if xs.length = is.length then R.ok (setAll E is xs) σ else R.no) Q = _
  rw [ev_guard, ev_ok]
@[simp] theorem setAll_nil (E : Env) (xs : List T) : setAll E [] xs = E := by cases xs <;> rfl
@[simp] theorem setAll_cons (E : Env) (i : Nat) (is : List Nat) (x : T) (xs : List T) : setAll E (i :: is) (x :: xs) = setAll (E.set i (some x)) is xs := rfl
def PAs (Q : Fl → Sto → Prop) : Env → Sto → Prop := fun E σ => Q (.nx E) σ
@[simp] theorem v_PAs (Q : Fl → Sto → Prop) (E : Env) (σ : Sto) : PAs Q E σ = Q (.nx E) σ := rfl
@[simp] theorem u_asgR (t : DT) (v : T) (E : Env) (σ : Sto) (Q : Fl → Sto → Prop) : Ev (asgR t v E σ) Q = Ev (t v E σ) (PAs Q) := by
  unfold asgR
  rw [ev_bind]
  refine congrArg _ (funext fun x => funext fun σ => ?_)
  exact ev_ok _ _ _
/-! ### operations -/
@[simp] theorem w_sub (a b : Int) (σ : Sto) : tSub (.int a) (.int b) σ = .ok (.int (a - b)) σ := rfl
@[simp] theorem w_div (i j : Int) (σ : Sto) : tDiv (.int i) (.int j) σ = if 0 < j ∧ j < 18446744073709551616 then .ok (.int (i / j)) σ else .no := rfl
@[simp] theorem w_mod (i j : Int) (σ : Sto) : tMod (.int i) (.int j) σ = if 0 < j then .ok (.int (i % j)) σ else .no := rfl
@[simp] theorem w_pow (i j : Int) (σ : Sto) : tPow (.int i) (.int j) σ = if 0 ≤ j ∧ j ≤ 1000 ∧ -1000000 < i ∧ i < 1000000 then .ok (.int (i ^ j.toNat)) σ else .no := rfl
@[simp] theorem w_shl (i j : Int) (σ : Sto) : tShl (.int i) (.int j) σ = if 0 ≤ j ∧ j ≤ 1000 ∧ -1000000 < i ∧ i < 1000000 then .ok (.int (i * 2 ^ j.toNat)) σ else .no := rfl
@[simp] theorem w_shr (i j : Int) (σ : Sto) : tShr (.int i) (.int j) σ = if 0 ≤ j then .ok (.int (i / 2 ^ j.toNat)) σ else .no := rfl
@[simp] theorem w_and (i j : Int) (σ : Sto) : tAnd (.int i) (.int j) σ = .ok (.int (PySem.Builtin.bitAnd i j)) σ := rfl
@[simp] theorem w_or (i j : Int) (σ : Sto) : tOr (.int i) (.int j) σ = .ok (.int (PySem.Builtin.bitOr i j)) σ := rfl
@[simp] theorem w_cmp (p : Int → Int → Bool) (a b : Int) (σ : Sto) : tCmp p (.int a) (.int b) σ = .ok (.bl (p a b)) σ := rfl
@[simp] theorem w_addi (a b : Int) (σ : Sto) : tAdd (.int a) (.int b) σ = .ok (.int (a + b)) σ := rfl
@[simp] theorem w_adds (a b : List Nat) (σ : Sto) : tAdd (.str a) (.str b) σ = if a.length + b.length ≤ 1000000 then .ok (.str (a ++ b)) σ else .no := rfl
@[simp] theorem w_addl (a b : List T) (σ : Sto) : tAdd (.lst a) (.lst b) σ = if a.length + b.length ≤ 1000000 then .ok (.lst (a ++ b)) σ else .no := rfl
@[simp] theorem w_muli (i j : Int) (σ : Sto) : tMul (.int i) (.int j) σ = if (-18446744073709551616 < i ∧ i < 18446744073709551616) ∨ (-18446744073709551616 < j ∧ j < 18446744073709551616) then .ok (.int (i * j)) σ else .no := rfl
@[simp] theorem w_muls (s : List Nat) (k : Int) (σ : Sto) : tMul (.str s) (.int k) σ = if -1000000 ≤ k ∧ k ≤ 1000000 ∧ s.length ≤ 1000000 ∧ s.length * k.toNat ≤ 1000000 then .ok (.str ((List.replicate k.toNat s).flatten)) σ else .no := rfl
@[simp] theorem w_mull (s : List T) (k : Int) (σ : Sto) : tMul (.lst s) (.int k) σ = if k ≤ 1000000 ∧ -1000000 ≤ k ∧ s.length * k.toNat ≤ 1000000 then .ok (.lst ((List.replicate k.toNat s).flatten)) σ else .no := rfl
@[simp] theorem w_is (x : T) (σ : Sto) : tIs false x .non σ = .ok (.bl (isNon x)) σ := rfl
@[simp] theorem w_isn (x : T) (σ : Sto) : tIs true x .non σ = .ok (.bl (!isNon x)) σ := rfl
@[simp] theorem isNon_non : isNon .non = true := rfl
@[simp] theorem isNon_bl (b : Bool) : isNon (.bl b) = false := rfl
@[simp] theorem isNon_int (b : Int) : isNon (.int b) = false := rfl
@[simp] theorem isNon_str (b : List Nat) : isNon (.str b) = false := rfl
@[simp] theorem isNon_lst (b : List T) : isNon (.lst b) = false := rfl
@[simp] theorem isNon_tup (b : List T) : isNon (.tup b) = false := rfl
@[simp] theorem isNon_ins (c : String) (ns : List String) (b : List T) : isNon (.ins c ns b) = false := rfl
@[simp] theorem isNon_dk (ks : List DKey) (b : List T) : isNon (.dk ks b) = false := rfl
@[simp] theorem isNon_ptr (k : Nat) : isNon (.ptr k) = false := rfl
@[simp] theorem look_non (σ : Sto) : look σ .non = some .non := rfl
@[simp] theorem look_bl (σ : Sto) (b : Bool) : look σ (.bl b) = some (.bl b) := rfl
@[simp] theorem look_int (σ : Sto) (b : Int) : look σ (.int b) = some (.int b) := rfl
@[simp] theorem look_str (σ : Sto) (b : List Nat) : look σ (.str b) = some (.str b) := rfl
@[simp] theorem look_lst (σ : Sto) (b : List T) : look σ (.lst b) = some (.lst b) := rfl
@[simp] theorem look_tup (σ : Sto) (b : List T) : look σ (.tup b) = some (.tup b) := rfl
@[simp] theorem look_scr (σ : Sto) (b : List Int) : look σ (.scr b) = some (.scr b) := rfl
@[simp] theorem look_ins (σ : Sto) (c : String) (ns : List String) (b : List T) : look σ (.ins c ns b) = some (.ins c ns b) := rfl
@[simp] theorem look_dk (σ : Sto) (ks : List DKey) (b : List T) : look σ (.dk ks b) = some (.dk ks b) := rfl
theorem look_ptr {σ : Sto} {k : Nat} {t : T} (h : σ[k]? = some (some t)) : look σ (.ptr k) = some t := by simp only [look, h]
@[simp] theorem w_eqi (a b : Int) (σ : Sto) : tEq false (.int a) (.int b) σ = .ok (.bl (decide (a = b))) σ := by
  show R.ok (T.bl (a == b)) σ = _
  by_cases h : a = b <;> simp [h]
@[simp] theorem w_eqs (a b : List Nat) (σ : Sto) : tEq false (.str a) (.str b) σ = .ok (.bl (decide (a = b))) σ := by
  show R.ok (T.bl (a == b)) σ = _
  by_cases h : a = b <;> simp [h]
@[simp] theorem w_eqb (a b : Bool) (σ : Sto) : tEq false (.bl a) (.bl b) σ = .ok (.bl (decide (a = b))) σ := by
  show R.ok (T.bl (a == b)) σ = _
  cases a <;> cases b <;> rfl
@[simp] theorem w_nei (a b : Int) (σ : Sto) : tEq true (.int a) (.int b) σ = .ok (.bl (decide (a ≠ b))) σ := by
  show R.ok (T.bl (!(a == b))) σ = _
  by_cases h : a = b <;> simp [h]
@[simp] theorem w_nes (a b : List Nat) (σ : Sto) : tEq true (.str a) (.str b) σ = .ok (.bl (decide (a ≠ b))) σ := by
  show R.ok (T.bl (!(a == b))) σ = _
  by_cases h : a = b <;> simp [h]
@[simp] theorem w_neb (a b : Bool) (σ : Sto) : tEq true (.bl a) (.bl b) σ = .ok (.bl (decide (a ≠ b))) σ := by
  show R.ok (T.bl (!(a == b))) σ = _
  cases a <;> cases b <;> rfl
@[simp] theorem w_eqis (n : Bool) (a : Int) (b : List Nat) (σ : Sto) : tEq n (.int a) (.str b) σ = .ok (.bl n) σ := by cases n <;> rfl
@[simp] theorem w_eqsi (n : Bool) (a : Int) (b : List Nat) (σ : Sto) : tEq n (.str b) (.int a) σ = .ok (.bl n) σ := by cases n <;> rfl
@[simp] theorem w_eqin (n : Bool) (a : Int) (σ : Sto) : tEq n (.int a) .non σ = .ok (.bl n) σ := by cases n <;> rfl
@[simp] theorem w_eqni (n : Bool) (a : Int) (σ : Sto) : tEq n .non (.int a) σ = .ok (.bl n) σ := by cases n <;> rfl
@[simp] theorem w_eqsn (n : Bool) (a : List Nat) (σ : Sto) : tEq n (.str a) .non σ = .ok (.bl n) σ := by cases n <;> rfl
@[simp] theorem w_eqns (n : Bool) (a : List Nat) (σ : Sto) : tEq n .non (.str a) σ = .ok (.bl n) σ := by cases n <;> rfl
@[simp] theorem w_eqnn (n : Bool) (σ : Sto) : tEq n .non .non σ = .ok (.bl (!n)) σ := by cases n <;> rfl
theorem w_eqd {n : Bool} {x y : T} {d e : Pa.Dat} {σ : Sto} (hf : flatT x = false) (h1 : datT x = some d) (h2 : datT y = some e) (l1 : Pa.dep d ≤ 60) (l2 : Pa.dep e ≤ 60) : tEq n x y σ = .ok (.bl (if n then !Pa.eqD d e else Pa.eqD d e)) σ := by
  have hx : look σ x = some x := by cases x <;> first | rfl | (simp [datT] at h1)
  have hy : look σ y = some y := by cases y <;> first | rfl | (simp [datT] at h2)
  have hs : scalT x y = false := by
    cases x <;> first | cases hf | skip
    all_goals cases y <;> rfl
  simp only [tEq, hx, hy, hs, h1, h2, l1, l2, and_self, if_true]
  rfl
@[simp] theorem w_lens (s : List Nat) (σ : Sto) : tLen [.str s] σ = if s.length ≤ 1000000 then .ok (.int s.length) σ else .no := rfl
@[simp] theorem w_lenl (s : List T) (σ : Sto) : tLen [.lst s] σ = .ok (.int s.length) σ := rfl
@[simp] theorem w_lent (s : List T) (σ : Sto) : tLen [.tup s] σ = .ok (.int s.length) σ := rfl
@[simp] theorem w_lenc (s : List Int) (σ : Sto) : tLen [.scr s] σ = .ok (.int s.length) σ := by
  show R.ok (T.int ((s.map T.int).length : Nat)) σ = _
  rw [List.length_map]
@[simp] theorem w_lend (ks : List DKey) (s : List T) (σ : Sto) : tLen [.dk ks s] σ = .ok (.int ks.length) σ := rfl
@[simp] theorem w_strs (s : List Nat) (σ : Sto) : tStr [.str s] σ = .ok (.str s) σ := rfl
@[simp] theorem w_stri (i : Int) (σ : Sto) : tStr [.int i] σ = if 0 ≤ i ∧ i < 18446744073709551616 then .ok (.str (TL.numL i.toNat)) σ else .no := rfl
@[simp] theorem w_inti (i : Int) (σ : Sto) : tInt [.int i] σ = .ok (.int i) σ := rfl
@[simp] theorem w_intb (b : Bool) (σ : Sto) : tInt [.bl b] σ = .ok (.int (if b = true then 1 else 0)) σ := rfl
@[simp] theorem w_ints (s : List Nat) (σ : Sto) : tInt [.str s] σ = if Pa.digits s = true ∧ s ≠ [] ∧ s.length ≤ 640 then .ok (.int (PySem.NumText.digitsVal s : Nat)) σ else .no := rfl
@[simp] theorem w_listl (s : List T) (σ : Sto) : tList [.lst s] σ = .ok (.lst s) σ := rfl
@[simp] theorem w_listt (s : List T) (σ : Sto) : tList [.tup s] σ = .ok (.lst s) σ := rfl
@[simp] theorem w_max (i j : Int) (σ : Sto) : tMax [.int i, .int j] σ = .ok (.int (if j > i then j else i)) σ := rfl
@[simp] theorem w_min (i j : Int) (σ : Sto) : tMin [.int i, .int j] σ = .ok (.int (if j < i then j else i)) σ := rfl
@[simp] theorem bls_map {α : Type} (f : α → Bool) : ∀ xs : List α, blsT (xs.map fun x => .bl (f x)) = some (xs.map f)
  | [] => rfl
  | x :: xs => by simp only [List.map_cons, blsT, bls_map f xs, Option.map_some]
@[simp] theorem ints_map {α : Type} (f : α → Int) : ∀ xs : List α, intsT (xs.map fun x => .int (f x)) = some (xs.map f)
  | [] => rfl
  | x :: xs => by simp only [List.map_cons, intsT, ints_map f xs, Option.map_some]
@[simp] theorem strs_map {α : Type} (f : α → List Nat) : ∀ xs : List α, strsT (xs.map fun x => .str (f x)) = some (xs.map f)
  | [] => rfl
  | x :: xs => by simp only [List.map_cons, strsT, strs_map f xs, Option.map_some]
@[simp] theorem bls_nil : blsT [] = some [] := rfl
@[simp] theorem bls_cons (b : Bool) (r : List T) : blsT (.bl b :: r) = (blsT r).map (b :: ·) := rfl
@[simp] theorem ints_nil : intsT [] = some [] := rfl
@[simp] theorem ints_cons (b : Int) (r : List T) : intsT (.int b :: r) = (intsT r).map (b :: ·) := rfl
@[simp] theorem strs_nil : strsT [] = some [] := rfl
@[simp] theorem strs_cons (b : List Nat) (r : List T) : strsT (.str b :: r) = (strsT r).map (b :: ·) := rfl
theorem w_all {xs : List T} {bs : List Bool} (σ : Sto) (h : blsT xs = some bs) : tAll [.lst xs] σ = .ok (.bl (bs.all id)) σ := by
  show (match (blsT xs) with | some bs => R.ok (T.bl (bs.all id)) σ | none => .no) = _
  rw [h]
theorem w_any {xs : List T} {bs : List Bool} (σ : Sto) (h : blsT xs = some bs) : tAny [.lst xs] σ = .ok (.bl (bs.any id)) σ := by
  show (match (blsT xs) with | some bs => R.ok (T.bl (bs.any id)) σ | none => .no) = _
  rw [h]
theorem w_sum {xs : List T} {bs : List Int} (σ : Sto) (h : intsT xs = some bs) : tSum [.lst xs] σ = .ok (.int bs.sum) σ := by
  show (match (intsT xs) with | some bs => R.ok (T.int bs.sum) σ | none => .no) = _
  rw [h]
@[simp] theorem w_ixl (xs : List T) (i : Int) (σ : Sto) : tIx (.lst xs) (.int i) σ = R.of (L2.atI xs i) σ := rfl
@[simp] theorem w_ixt (xs : List T) (i : Int) (σ : Sto) : tIx (.tup xs) (.int i) σ = R.of (L2.atI xs i) σ := rfl
@[simp] theorem w_ixc (xs : List Int) (i : Int) (σ : Sto) : tIx (.scr xs) (.int i) σ = R.of ((L2.atI xs i).map .int) σ := by
  show R.of (L2.atI (xs.map T.int) i) σ = _
  rw [Pa.atI_map]
theorem w_ixs {s : List Nat} {i : Int} {c : Nat} {σ : Sto} (h : s.length ≤ 1000000) (h2 : L2.atI s i = some c) : tIx (.str s) (.int i) σ = .ok (.str [c]) σ := by
  simp only [tIx, look_str, h, h2, if_true]
@[simp] theorem w_ixd (ks : List DKey) (xs : List T) (y : T) (σ : Sto) : tIx (.dk ks xs) y σ = R.of ((keyT y).bind (lkpT ks xs)) σ := by
  simp only [tIx, look_dk]
  cases keyT y <;> rfl
@[simp] theorem key_i (i : Int) : keyT (.int i) = some (.inl i) := rfl
@[simp] theorem key_s (s : List Nat) : keyT (.str s) = some (.inr s) := rfl
@[simp] theorem lkp_nil (xs : List T) (j : DKey) : lkpT [] xs j = none := by simp only [lkpT]
@[simp] theorem lkp_cons (k : DKey) (ks : List DKey) (x : T) (xs : List T) (j : DKey) : lkpT (k :: ks) (x :: xs) j = if k = j then some x else lkpT ks xs j := rfl
@[simp] theorem getT_nil (xs : List T) (j : String) : getT [] xs j = none := by simp only [getT]
@[simp] theorem getT_cons (k : String) (ks : List String) (x : T) (xs : List T) (j : String) : getT (k :: ks) (x :: xs) j = if k = j then some x else getT ks xs j := rfl
@[simp] theorem w_inl (n : Bool) (x : T) (xs : List T) (σ : Sto) (Q : T → Sto → Prop) : Ev (tIn n x (.lst xs) σ) Q = ((flatT x = true ∧ xs.all flatT = true) ∧ Q (.bl (if n then !(xs.any fun z => eqFT z x) else xs.any fun z => eqFT z x)) σ) := by
  show Ev (if flatT x = true ∧ xs.all flatT = true then R.ok _ σ else R.no) Q = _
  rw [ev_guard, ev_ok]
@[simp] theorem w_int_ (n : Bool) (x : T) (xs : List T) (σ : Sto) (Q : T → Sto → Prop) : Ev (tIn n x (.tup xs) σ) Q = ((flatT x = true ∧ xs.all flatT = true) ∧ Q (.bl (if n then !(xs.any fun z => eqFT z x) else xs.any fun z => eqFT z x)) σ) := by
  show Ev (if flatT x = true ∧ xs.all flatT = true then R.ok _ σ else R.no) Q = _
  rw [ev_guard, ev_ok]
@[simp] theorem w_ind (n : Bool) (x : T) (ks : List DKey) (xs : List T) (σ : Sto) (Q : T → Sto → Prop) : Ev (tIn n x (.dk ks xs) σ) Q = ∃ k, keyT x = some k ∧ Q (.bl (if n then !(lkpT ks xs k).isSome else (lkpT ks xs k).isSome)) σ := by
  simp only [tIn, look_dk]
  cases keyT x <;> simp
@[simp] theorem w_ins_ (n : Bool) (c : Nat) (s : List Nat) (σ : Sto) : tIn n (.str [c]) (.str s) σ = .ok (.bl (if n then !decide (c ∈ s) else decide (c ∈ s))) σ := rfl
@[simp] theorem flatT_non : flatT .non = true := rfl
@[simp] theorem flatT_bl (b : Bool) : flatT (.bl b) = true := rfl
@[simp] theorem flatT_int (b : Int) : flatT (.int b) = true := rfl
@[simp] theorem flatT_str (b : List Nat) : flatT (.str b) = true := rfl
@[simp] theorem flatT_lst (b : List T) : flatT (.lst b) = false := rfl
@[simp] theorem flatT_tup (b : List T) : flatT (.tup b) = false := rfl
@[simp] theorem flatT_ins (c : String) (ns : List String) (b : List T) : flatT (.ins c ns b) = false := rfl
@[simp] theorem flatT_dk (ks : List DKey) (b : List T) : flatT (.dk ks b) = false := rfl
@[simp] theorem flatT_ptr (b : Nat) : flatT (.ptr b) = false := rfl
@[simp] theorem eqFT_ii (a b : Int) : eqFT (.int a) (.int b) = decide (a = b) := by
  show (a == b) = _
  by_cases h : a = b <;> simp [h]
@[simp] theorem eqFT_ss (a b : List Nat) : eqFT (.str a) (.str b) = decide (a = b) := by
  show (a == b) = _
  by_cases h : a = b <;> simp [h]
@[simp] theorem eqFT_is (a : Int) (b : List Nat) : eqFT (.int a) (.str b) = false := rfl
@[simp] theorem eqFT_si (a : Int) (b : List Nat) : eqFT (.str b) (.int a) = false := rfl
@[simp] theorem eqFT_sn (b : List Nat) : eqFT (.str b) .non = false := rfl
@[simp] theorem eqFT_ns (b : List Nat) : eqFT .non (.str b) = false := rfl
@[simp] theorem eqFT_in (b : Int) : eqFT (.int b) .non = false := rfl
@[simp] theorem eqFT_ni (b : Int) : eqFT .non (.int b) = false := rfl
@[simp] theorem eqFT_nn : eqFT .non .non = true := rfl
@[simp] theorem w_sls (s : List Nat) (l h : Option Int) (σ : Sto) : tSl (.str s) l h σ = if s.length ≤ 1000000 then .ok (.str (Pa.cut s l h)) σ else .no := rfl
@[simp] theorem w_sll (s : List T) (l h : Option Int) (σ : Sto) : tSl (.lst s) l h σ = .ok (.lst (Pa.cut s l h)) σ := rfl
@[simp] theorem w_slc (s : List Int) (l h : Option Int) (σ : Sto) : tSl (.scr s) l h σ = .ok (.lst (Pa.cut (s.map .int) l h)) σ := rfl
@[simp] theorem w_rev (s : List T) (σ : Sto) : tRev (.lst s) σ = .ok (.lst s.reverse) σ := rfl
@[simp] theorem w_fld (T0 : Pa.CTab) (f c : String) (ns : List String) (xs : List T) (σ : Sto) (Q : T → Sto → Prop) : Ev (fldR T0 f (.ins c ns xs) σ) Q = (Pa.hasF T0 c f = true ∧ Ev (R.of (getT ns xs f) σ) Q) := by
  show Ev (if Pa.hasF T0 c f = true then R.of (getT ns xs f) σ else R.no) Q = _
  rw [ev_guard]
def PMe (n : Nat) (F : Fn) (x : T) (Q : T → Sto → Prop) : List T → Sto → Prop := fun vs σ => vs.length + 1 = n ∧ Ev (F (x :: vs) σ) Q
@[simp] theorem v_PMe (n : Nat) (F : Fn) (x : T) (Q : T → Sto → Prop) (vs : List T) (σ : Sto) : PMe n F x Q vs σ = (vs.length + 1 = n ∧ Ev (F (x :: vs) σ) Q) := rfl
theorem w_meth {T0 : MT} {m : String} {n : Nat} {ds : DA} {E : Env} {x : T} {σ : Sto} {c : String} {ns : List String} {xs : List T} {F : Fn} (h : look σ x = some (.ins c ns xs)) (h1 : mfT T0 c = some F) (h2 : getT ns xs m = none) (Q : T → Sto → Prop) : Ev (methR T0 m n ds E x σ) Q = Ev (ds E σ) (PMe n F x Q) := by
  simp only [methR, h, h1, h2]
  rw [ev_bind]
  refine congrArg _ (funext fun vs => funext fun M => ?_)
  exact ev_guard _ _
@[simp] theorem w_methi (T0 : MT) (m : String) (n : Nat) (ds : DA) (E : Env) (c : String) (ns : List String) (xs : List T) (σ : Sto) (Q : T → Sto → Prop) : Ev (methR T0 m n ds E (.ins c ns xs) σ) Q = ∃ F, mfT T0 c = some F ∧ getT ns xs m = none ∧ Ev (ds E σ) (PMe n F (.ins c ns xs) Q) := by
  cases h1 : mfT T0 c with
  | none => simp [methR, h1]
  | some F =>
    cases h2 : getT ns xs m with
    | none =>
      rw [w_meth rfl h1 h2]
      simp
    | some v => simp [methR, h1, h2]
@[simp] theorem mfT_nil (c : String) : mfT [] c = none := rfl
@[simp] theorem mfT_cons (c d : String) (F : Fn) (r : MT) : mfT ((c, F) :: r) d = if c = d then some F else mfT r d := rfl
@[simp] theorem w_isi (I : Pa.ITab) (cs : List String) (t : String) (x : T) (σ : Sto) (Q : T → Sto → Prop) : Ev (isiR I cs t x σ) Q = Ev (R.of (((look σ x).bind (tyT cs)).bind fun s => (Pa.isiT I s t).map T.bl) σ) Q := by
  unfold isiR
  cases h : (look σ x).bind (tyT cs) with
  | none => simp
  | some s =>
    cases h2 : Pa.isiT I s t with
    | none => simp [h2]
    | some b => simp [h2]
@[simp] theorem w_isiT (I : Pa.ITab) (cs : List String) (t : List String) (x : T) (σ : Sto) (Q : T → Sto → Prop) : Ev (isiTR I cs t x σ) Q = Ev (R.of (((look σ x).bind (tyT cs)).bind fun s => (Pa.tsI I s t).map T.bl) σ) Q := by
  unfold isiTR
  cases h : (look σ x).bind (tyT cs) with
  | none => simp
  | some s =>
    cases h2 : Pa.tsI I s t with
    | none => simp [h2]
    | some b => simp [h2]
@[simp] theorem tsI_nil (I : Pa.ITab) (s : String) : Pa.tsI I s [] = some false := rfl
@[simp] theorem tsI_cons (I : Pa.ITab) (s t : String) (ts : List String) : Pa.tsI I s (t :: ts) = (Pa.isiT I s t).bind fun b => (Pa.tsI I s ts).map fun c => b || c := by
  simp only [Pa.tsI]
  cases Pa.isiT I s t with
  | none => rfl
  | some b => cases Pa.tsI I s ts <;> rfl
@[simp] theorem tyT_non (cs : List String) : tyT cs .non = some "NoneType" := rfl
@[simp] theorem tyT_bl (cs : List String) (b : Bool) : tyT cs (.bl b) = some "bool" := rfl
@[simp] theorem tyT_int (cs : List String) (b : Int) : tyT cs (.int b) = some "int" := rfl
@[simp] theorem tyT_str (cs : List String) (b : List Nat) : tyT cs (.str b) = some "str" := rfl
@[simp] theorem tyT_lst (cs : List String) (b : List T) : tyT cs (.lst b) = some "list" := rfl
@[simp] theorem tyT_tup (cs : List String) (b : List T) : tyT cs (.tup b) = some "tuple" := rfl
@[simp] theorem tyT_scr (cs : List String) (b : List Int) : tyT cs (.scr b) = some "list" := rfl
@[simp] theorem tyT_dk (cs : List String) (ks : List DKey) (b : List T) : tyT cs (.dk ks b) = some "dict" := rfl
@[simp] theorem tyT_ins (cs : List String) (c : String) (ns : List String) (b : List T) : tyT cs (.ins c ns b) = if cs.contains c = true then some c else none := rfl
@[simp] theorem tru_bl (σ : Sto) (b : Bool) : truT σ (.bl b) = some b := rfl
@[simp] theorem tru_int (σ : Sto) (b : Int) : truT σ (.int b) = some (b != 0) := rfl
@[simp] theorem tru_non (σ : Sto) : truT σ .non = some false := rfl
@[simp] theorem tru_lst (σ : Sto) (b : List T) : truT σ (.lst b) = some (!b.isEmpty) := rfl
@[simp] theorem isS_str (s : List Nat) : isS (.str s) = true := rfl
@[simp] theorem w_split (a b : List Nat) (σ : Sto) : tSplit (.str a) [.str b] σ = if b ≠ [] ∧ b.all (· < 256) = true ∧ a.length ≤ 1000000 then .ok (.lst ((TL.spl b 0 [] a).map .str)) σ else .no := rfl
@[simp] theorem w_join_ (a : List Nat) (xs : List T) (σ : Sto) (Q : T → Sto → Prop) : Ev (tJoin (.str a) [.lst xs] σ) Q = ∃ ys : List (List Nat), strsT xs = some ys ∧ (ys.map fun z => z.length).sum + ys.length * a.length ≤ 1000000 ∧ Q (.str (TL.joinL a ys)) σ := by
  cases h : strsT xs with
  | none => simp [tJoin, seqT, h]
  | some ys => simp [tJoin, seqT, h]
@[simp] theorem isDk_dk (σ : Sto) (ks : List DKey) (xs : List T) : isDk σ (.dk ks xs) = true := rfl
@[simp] theorem w_get1 (ks : List DKey) (xs : List T) (y : T) (σ : Sto) (Q : T → Sto → Prop) : Ev (get1R (.dk ks xs) y σ) Q = ∃ k, keyT y = some k ∧ Q ((lkpT ks xs k).getD .non) σ := by
  simp only [get1R, look_dk]
  cases keyT y <;> simp
@[simp] theorem w_get2 (ks : List DKey) (xs : List T) (y u : T) (σ : Sto) (Q : T → Sto → Prop) : Ev (get2R (.dk ks xs) y u σ) Q = ∃ k, keyT y = some k ∧ Q ((lkpT ks xs k).getD u) σ := by
  simp only [get2R, look_dk]
  cases keyT y <;> simp
/-! changes -/
@[simp] theorem p_append (xs : List T) (t : T) : pAppend xs [t] = if xs.length < 1000000 then some (xs ++ [t], .non) else none := rfl
@[simp] theorem p_extend (xs ys : List T) : pExtend xs [.lst ys] = if xs.length + ys.length ≤ 1000000 then some (xs ++ ys, .non) else none := rfl
@[simp] theorem p_clear (xs : List T) : pClear xs [] = some ([], .non) := rfl
@[simp] theorem p_reverse (xs : List T) : pReverse xs [] = some (xs.reverse, .non) := rfl
theorem p_pop (xs : List T) (t : T) : pPop (xs ++ [t]) [] = some (xs, t) := by simp [pPop]
def mutO (p : List T → List T → Option (List T × T)) (ts : List T) (k : List T × T → Fl) (o : Option T) (σ : Sto) : R Fl := match o with
  | some (.lst xs) => R.of ((p xs ts).map k) σ
  | _ => .no
@[simp] theorem v_mutO (p : List T → List T → Option (List T × T)) (ts : List T) (k : List T × T → Fl) (xs : List T) (σ : Sto) : mutO p ts k (some (.lst xs)) σ = R.of ((p xs ts).map k) σ := rfl
@[simp] theorem u_mutR (p : List T → List T → Option (List T × T)) (i : Nat) (E : Env) (ts : List T) (σ : Sto) : mutR p i E ts σ = mutO p ts (fun q => .nx (E.set i (some (.lst q.1)))) (E[i]?.getD none) σ := by
  unfold mutR
  cases h : E[i]? with
  | none => rfl
  | some o =>
    cases o with
    | none => rfl
    | some t =>
      cases t <;> first | rfl | skip
      rename_i xs
      show (match p xs ts with | some (xs', _) => R.ok (Fl.nx (E.set i (some (.lst xs')))) σ | none => .no) = R.of ((p xs ts).map _) σ
      cases p xs ts <;> rfl
@[simp] theorem u_mutRR (p : List T → List T → Option (List T × T)) (i j : Nat) (E : Env) (ts : List T) (σ : Sto) : mutRR p i j E ts σ = mutO p ts (fun q => .nx ((E.set i (some (.lst q.1))).set j (some q.2))) (E[i]?.getD none) σ := by
  unfold mutRR
  cases h : E[i]? with
  | none => rfl
  | some o =>
    cases o with
    | none => rfl
    | some t =>
      cases t <;> first | rfl | skip
      rename_i xs
      show (match p xs ts with | some (xs', r) => R.ok (Fl.nx ((E.set i (some (.lst xs'))).set j (some r))) σ | none => .no) = R.of ((p xs ts).map _) σ
      cases p xs ts <;> rfl
@[simp] theorem u_subR (i : Nat) (E : Env) (v y : T) (σ : Sto) (Q : Fl → Sto → Prop) : Ev (subR i E v y σ) Q = ∃ x x', E[i]?.getD none = some x ∧ setT x y v = some x' ∧ Q (.nx (E.set i (some x'))) σ := by
  unfold subR
  cases h : E[i]? with
  | none => simp
  | some o =>
    cases o with
    | none => simp
    | some t =>
      simp
      cases h2 : setT t y v <;> simp
@[simp] theorem set_dk (ks : List DKey) (xs : List T) (y v : T) : setT (.dk ks xs) y v = (keyT y).bind fun k => if ks.length < 1000000 then some (.dk (putKs ks k) (putXs ks xs k v)) else none := by
  simp only [setT]
  cases keyT y <;> rfl
@[simp] theorem set_lst (xs : List T) (i : Int) (v : T) : setT (.lst xs) (.int i) v = (L2.ixN xs.length i).map fun j => .lst (xs.set j v) := by
  simp only [setT]
  cases L2.ixN xs.length i <;> rfl
@[simp] theorem w_eqdk0 (σ : Sto) : tEq false (.dk [] []) (.dk [] []) σ = .ok (.bl true) σ := by
  simp [tEq, scalT, datT, eqObT]
/-! displays of dicts -/
def PDisp (Q : T → Sto → Prop) : List DKey × List T → Sto → Prop := fun kv σ => kv.1.length ≤ 15 ∧ Q (.dk (foldP kv.1 kv.2 [] []).1 (foldP kv.1 kv.2 [] []).2) σ
@[simp] theorem v_PDisp (Q : T → Sto → Prop) (kv : List DKey × List T) (σ : Sto) : PDisp Q kv σ = (kv.1.length ≤ 15 ∧ Q (.dk (foldP kv.1 kv.2 [] []).1 (foldP kv.1 kv.2 [] []).2) σ) := rfl
@[simp] theorem u_eDisp (ps : List (D × D)) (E : Env) (σ : Sto) (Q : T → Sto → Prop) : Ev (eDisp ps E σ) Q = Ev (prs ps E σ) (PDisp Q) := by
  unfold eDisp
  rw [ev_bind]
  refine congrArg _ (funext fun x => funext fun σ => ?_)
  rw [ev_guard, ev_ok]
  rfl
def PPr3 (x y : T) (Q : List DKey × List T → Sto → Prop) : List DKey × List T → Sto → Prop := fun kv σ => ∃ k, keyT x = some k ∧ Q (k :: kv.1, y :: kv.2) σ
@[simp] theorem v_PPr3 (x y : T) (Q : List DKey × List T → Sto → Prop) (kv : List DKey × List T) (σ : Sto) : PPr3 x y Q kv σ = ∃ k, keyT x = some k ∧ Q (k :: kv.1, y :: kv.2) σ := rfl
def PPr2 (r : List (D × D)) (E : Env) (x : T) (Q : List DKey × List T → Sto → Prop) : T → Sto → Prop := fun y σ => Ev (prs r E σ) (PPr3 x y Q)
@[simp] theorem v_PPr2 (r : List (D × D)) (E : Env) (x y : T) (Q : List DKey × List T → Sto → Prop) (σ : Sto) : PPr2 r E x Q y σ = Ev (prs r E σ) (PPr3 x y Q) := rfl
def PPr1 (d : D) (r : List (D × D)) (E : Env) (Q : List DKey × List T → Sto → Prop) : T → Sto → Prop := fun x σ => Ev (d E σ) (PPr2 r E x Q)
@[simp] theorem v_PPr1 (d : D) (r : List (D × D)) (E : Env) (x : T) (Q : List DKey × List T → Sto → Prop) (σ : Sto) : PPr1 d r E Q x σ = Ev (d E σ) (PPr2 r E x Q) := rfl
@[simp] theorem u_prs_nil (E : Env) (σ : Sto) (Q : List DKey × List T → Sto → Prop) : Ev (prs [] E σ) Q = Q ([], []) σ := by
  show Ev (R.ok ([], []) σ) Q = _
  rw [ev_ok]
@[simp] theorem u_prs_cons (a b : D) (r : List (D × D)) (E : Env) (σ : Sto) (Q : List DKey × List T → Sto → Prop) : Ev (prs ((a, b) :: r) E σ) Q = Ev (a E σ) (PPr1 b r E Q) := by
  simp only [prs]
  rw [ev_bind]
  refine congrArg _ (funext fun x => funext fun σ => ?_)
  rw [ev_bind]
  show _ = Ev _ _
  refine congrArg _ (funext fun y => funext fun σ => ?_)
  rw [ev_bind]
  show _ = Ev _ _
  refine congrArg _ (funext fun kv => funext fun σ => ?_)
  rw [v_PPr3]
  cases keyT x with
  | none => simp
  | some k => simp
@[simp] theorem foldP_nil (ks : List DKey) (xs : List T) : foldP [] [] ks xs = (ks, xs) := rfl
@[simp] theorem foldP_cons (k : DKey) (x : T) (ks : List DKey) (xs : List T) (ks0 : List DKey) (xs0 : List T) : foldP (k :: ks) (x :: xs) ks0 xs0 = foldP ks xs (putKs ks0 k) (putXs ks0 xs0 k x) := rfl
end Tr

/-! Trees: the rules with what stays own to be decided. -/
namespace Tr
open Pa (Val Ob Mem Cfg DKey Loc)
section
variable {g : Cfg} {O O1 Oi On Ol : List Nat} {fr : Bool} {d o k c : Pa.D} {e eo ek ec : D} {a b : Pa.Ds} {ea eb : Ds} {ds : Pa.DA} {es : DA} {i j : Nat}
theorem x_v (hO : i ∉ O := by decide) : XE g O (Pa.dV i) (eV i) := xv hO
theorem z_sub (O1 : List Nat) (h : TS g O1 a ea On Ol fr) (hO : ∀ i ∈ O1, i ∈ O := by decide) : TS g O a ea On Ol fr := ts_sub h hO
theorem z_skip (h : ∀ i ∈ On, i ∈ O := by decide) : TS g O Pa.xSkip sSkip On Ol fr := ts_end ts_skip h
theorem z_brk (h : ∀ i ∈ Ol, i ∈ O := by decide) : TS g O Pa.xBrk sBrk On Ol fr := ts_sub ts_brk h
theorem z_cont (h : ∀ i ∈ Ol, i ∈ O := by decide) : TS g O Pa.xCont sCont On Ol fr := ts_sub ts_cont h
theorem z_seq (O1 : List Nat) (ha : TS g O a ea O1 Ol fr) (hb : TS g O1 b eb On Ol fr) : TS g O (Pa.xSeq a b) (sSeq ea eb) On Ol fr := ts_seq ha hb
theorem z_expr (hd : XP g O d e) (h : ∀ i ∈ On, i ∈ O := by decide) : TS g O (Pa.xExpr d) (sExpr e) On Ol fr := ts_end (ts_expr hd) h
theorem z_set (hd : XE g O d e) (h : ∀ j ∈ On, j ∈ Ox O i := by decide) : TS g O (Pa.xSet i d) (sSet i e) On Ol fr := ts_end (ts_set hd) h
theorem z_setf (hd : XF g O d e) (h : ∀ j ∈ On, j ∈ i :: Ox O i := by decide) : TS g O (Pa.xSet i d) (sSet i e) On Ol fr := ts_end (ts_setf hd) h
theorem z_mut {f : Val → List Val → Mem → Pa.R Val} {p : List T → List T → Option (List T × T)} (hf : LM g f p) (hs : XA g O ds es) (hi : i ∈ O := by decide) (h : ∀ j ∈ On, j ∈ O := by decide) : TS g O (Pa.xExpr (Pa.dM "list" f (Pa.dV i) ds)) (sMut p i es) On Ol fr := ts_end (ts_mut hf hi hs) h
theorem z_mut0 {f : Val → List Val → Mem → Pa.R Val} {p : List T → List T → Option (List T × T)} (hf : LM g f p) (hi : i ∈ O := by decide) (h : ∀ j ∈ On, j ∈ O := by decide) : TS g O (Pa.xExpr (Pa.dM0 "list" f (Pa.dV i))) (sMut p i aNil) On Ol fr := ts_end (ts_mut0 hf hi) h
theorem z_mutR0 {f : Val → List Val → Mem → Pa.R Val} {p : List T → List T → Option (List T × T)} (hf : LM g f p) (hi : i ∈ O := by decide) (h : ∀ k ∈ On, k ∈ Ox O j := by decide) : TS g O (Pa.xSet j (Pa.dM0 "list" f (Pa.dV i))) (sMutR p i j aNil) On Ol fr := ts_end (ts_mutR0 hf hi) h
theorem z_subo (hk : XP g O k ek) (hd : XE g O d e) (hi : i ∈ O := by decide) (h : ∀ j ∈ On, j ∈ O := by decide) : TS g O (Pa.xSub (Pa.dV i) k d) (sSub i ek e) On Ol fr := ts_end (ts_sub_own hi hk hd) h
theorem z_subc (ho : XE g O o eo) (hk : XP g O k ek) (hd : XE g O d e) (h : ∀ j ∈ On, j ∈ O := by decide) : TS g O (Pa.xSub o k d) (sSubC eo ek e) On Ol fr := ts_end (ts_sub_c ho hk hd) h
theorem z_fldc {T0 : Pa.CTab} {f : String} (ho : XE g O o eo) (hd : XE g O d e) (h : ∀ j ∈ On, j ∈ O := by decide) : TS g O (Pa.xFld T0 o f d) (sFldC T0 eo f e) On Ol fr := ts_end (ts_fld_c ho hd) h
theorem z_asg {t : Pa.DT} {et : DT} (hd : XE g O d e) (ht : XT g O t et O1) (h : ∀ j ∈ On, j ∈ O1 := by decide) : TS g O (Pa.xAsg d t) (sAsg e et) On Ol fr := ts_end (ts_asg hd ht) h
theorem z_retv (hi : i ∈ O := by decide) : TS g O (Pa.xRet (Pa.dV i)) (sRet (eV i)) On Ol fr := ts_retv hi
theorem z_for (Oi : List Nat) {di : Pa.DI} {ei : DI} {tg : Pa.DT} {et : DT} (hi : XI g Oi di ei) (ht : XT g Oi tg et O1) (hb : TS g O1 b eb Oi Oi fr) (h1 : ∀ i ∈ Oi, i ∈ O := by decide) (h2 : ∀ i ∈ On, i ∈ Oi := by decide) : TS g O (Pa.xFor g di tg b) (sFor ei et eb) On Ol fr := ts_sub (ts_end (ts_for hi ht hb) h2) h1
theorem z_while (Oi : List Nat) {n : Nat} (hc : XP g Oi c ec) (hb : TS g Oi b eb Oi Oi fr) (h1 : ∀ i ∈ Oi, i ∈ O := by decide) (h2 : ∀ i ∈ On, i ∈ Oi := by decide) : TS g O (Pa.xWhile n c b) (sWhile n ec eb) On Ol fr := ts_sub (ts_end (ts_while hc hb) h2) h1
theorem z_comp {di : Pa.DI} {ei : DI} {tg : Pa.DT} {et : DT} {tt te : Pa.D} {ett ete : D} {vs : List Nat} (hi : XI g O di ei) (ht : XT g O tg et O1) (htt : XP g O1 tt ett) (hte : XE g O1 te ete) (hv : ∀ i ∈ vs, i ∉ O := by decide) (hO1 : ∀ i ∈ O, i ∈ O1 := by decide) : XF g O (Pa.dComp g di tg tt te vs) (eComp ei et ett ete vs) := xcomp_ hi ht hv hO1 htt hte
theorem FS.wk {F : Pa.Fn} {f : Fn} (h : FS g true F f) : FS g false F f := fun B w vs ts t σ' W r q => ⟨(h B w vs ts t σ' W r q).1, fun z => by cases z⟩
end
end Tr

/-! Trees: objects that are changed through their class; a tree that is given up whole; a def that leaves no cells. -/
namespace Tr
open Pa (Val Ob Mem Cfg DKey Loc)
/-! ### new objects that are changed -/
def eNewC (n : Nat) (c : String) (f : Fn) (es : DA) : D := fun E σ => (es E σ).bind fun ts σ1 => if ts.length + 1 = n then (f (.ptr σ1.length :: ts) (σ1 ++ [some (.ins c [] [])])).bind fun t σ2 => (match t with
  | .non => .ok (.ptr σ1.length) σ2
  | _ => .no) else .no
section
variable {g : Cfg} {O : List Nat} {ds : Pa.DA} {es : DA}
theorem gx_new {w : Wd} {o : Ob} {t : T} : Gx w ((w.ext o).newC t w.M.length) := ⟨by simp [Wd.newC, Wd.ext], fun i h => newC_rho (w := w.ext o) h, by simp [Wd.newC, Wd.ext], fun x u l _ m => by
  obtain ⟨k1, k2, k3⟩ := (gx_ext (w := w) (o := o)).kp x u l (fun z => z) m
  refine ⟨fun z => (newC_lv z).elim k1 fun e => ?_, k2, k3⟩
  have := (List.getElem?_eq_some_iff.mp m).1
  omega⟩
theorem xnewc {fr : Bool} {n : Nat} {c : String} {F : Pa.Fn} {f : Fn} (hF : FS g fr F f) (hs : XA g O ds es) : XE g O (Pa.dNew n [] c F ds) (eNewC n c f es) := fun m0 B w E L t σ' S e => by
  obtain ⟨x, σ1, e1, e⟩ := R.bind_eq e
  refine hs.then (K := fun w r => Out g (BO B L O) w r t σ') goO S e1 fun v w1 hs1 G1 S1 P1 => ?_
  subst hs1
  split at e
  · rename_i hl
    obtain ⟨y, σ2, e2, e⟩ := R.bind_eq e
    rw [← P1.len] at hl
    simp only [List.append_nil, hl, if_true]
    have W2 : Wf g (BO B L O) ((w1.ext (.ins c [])).newC (.ins c [] []) w1.M.length) := (S1.wf.extA).newC ⟨[], ext_at, rfl, Rps.nil⟩ S1.wf.fresh.2
    have G2 : Gx w1 ((w1.ext (.ins c [])).newC (.ins c [] []) w1.M.length) := gx_new
    have r0 : RW g (BO B L O) ((w1.ext (.ins c [])).newC (.ins c [] []) w1.M.length) (.ptr w1.σ.length) (.ref w1.M.length) := by
      rw [w_ptr]
      refine ⟨by simp [Wd.newC, Wd.ext], ?_⟩
      exact congrArg Val.ref (show w1.M.length = if w1.σ.length = w1.σ.length then w1.M.length else _ by rw [if_pos rfl])
    obtain ⟨u, w3, hs3, q3, G3, W3, R3⟩ := (hF _ _ _ _ _ _ W2 (Rps.cons r0 (P1.goB G2)) e2).1
    subst hs3
    have q3' : F (.ref w1.M.length :: v) (w1.M ++ [.ins c []]) = .ok u w3.M := q3
    rw [q3']
    cases y <;> first | cases e | skip
    rw [w_non] at R3
    subst R3
    simp only [Pa.R.bind_ok]
    exact ⟨_, w3, rfl, rfl, G2.trans G3, W3, r0.goB G3⟩
  · cases e
end
/-! ### a whole tree is given up -/
mutual
def pureT : T → Bool
  | .ptr _ => false
  | .lst xs => pureTs xs
  | .tup xs => pureTs xs
  | .ins _ _ xs => pureTs xs
  | .dk _ xs => pureTs xs
  | _ => true
def pureTs : List T → Bool
  | [] => true
  | x :: xs => pureT x && pureTs xs
end
section
variable {g : Cfg} {ρ : Nat → Nat} {n n' : Nat} {P : Nat → Prop} {M : Mem} {ρ' : Nat → Nat}
mutual
theorem Rp.pure : ∀ {t : T} {v : Val}, pureT t = true → Rp g ρ n P M t v → Rp g ρ' n' P M t v
  | .non, v, _, r => by rw [rp_non] at r ⊢; exact r
  | .bl b, v, _, r => by rw [rp_bl] at r ⊢; exact r
  | .int i, v, _, r => by rw [rp_int] at r ⊢; exact r
  | .str s, v, _, r => by rw [rp_str] at r ⊢; exact r
  | .scr s, v, _, r => by rw [rp_scr] at r ⊢; exact r
  | .ptr i, v, h, r => by simp only [pureT] at h; cases h
  | .lst xs, v, h, r => by
    simp only [pureT] at h
    rw [rp_lst] at r ⊢
    obtain ⟨vs, a, b⟩ := r
    exact ⟨vs, a, Rps.pure h b⟩
  | .tup xs, v, h, r => by
    simp only [pureT] at h
    rw [rp_tup] at r ⊢
    obtain ⟨vs, a, b⟩ := r
    exact ⟨vs, a, Rps.pure h b⟩
  | .ins c ns xs, v, h, r => by
    simp only [pureT] at h
    rw [rp_ins] at r ⊢
    obtain ⟨a, vs, e, p, m, l, b⟩ := r
    exact ⟨a, vs, e, p, m, l, Rps.pure h b⟩
  | .dk ks xs, v, h, r => by
    simp only [pureT] at h
    rw [rp_dk] at r ⊢
    obtain ⟨a, vs, e, p, m, l, b⟩ := r
    exact ⟨a, vs, e, p, m, l, Rps.pure h b⟩
theorem Rps.pure : ∀ {ts : List T} {vs : List Val}, pureTs ts = true → Rps g ρ n P M ts vs → Rps g ρ' n' P M ts vs
  | [], vs, _, r => by rw [rps_nil] at r ⊢; exact r
  | t :: ts, vs, h, r => by
    simp only [pureTs, Bool.and_eq_true] at h
    rw [rps_cons] at r ⊢
    obtain ⟨w, ws, e, a, b⟩ := r
    exact ⟨w, ws, e, Rp.pure h.1 a, Rps.pure h.2 b⟩
end

mutual
def below (k : Nat) : T → Prop
  | .ptr i => i < k
  | .lst xs => belows k xs
  | .tup xs => belows k xs
  | .ins _ _ xs => belows k xs
  | .dk _ xs => belows k xs
  | _ => True
def belows (k : Nat) : List T → Prop
  | [] => True
  | x :: xs => below k x ∧ belows k xs
end
mutual
theorem Rp.below : ∀ {t : T} {v : Val}, Rp g ρ n P M t v → below n t
  | .non, v, r => by simp only [Tr.below]
  | .bl b, v, r => by simp only [Tr.below]
  | .int i, v, r => by simp only [Tr.below]
  | .str s, v, r => by simp only [Tr.below]
  | .scr s, v, r => by simp only [Tr.below]
  | .ptr i, v, r => by rw [rp_ptr] at r; simp only [Tr.below]; exact r.1
  | .lst xs, v, r => by
    rw [rp_lst] at r
    obtain ⟨vs, a, b⟩ := r
    simp only [Tr.below]
    exact Rps.below b
  | .tup xs, v, r => by
    rw [rp_tup] at r
    obtain ⟨vs, a, b⟩ := r
    simp only [Tr.below]
    exact Rps.below b
  | .ins c ns xs, v, r => by
    rw [rp_ins] at r
    obtain ⟨a, vs, e, p, m, l, b⟩ := r
    simp only [Tr.below]
    exact Rps.below b
  | .dk ks xs, v, r => by
    rw [rp_dk] at r
    obtain ⟨a, vs, e, p, m, l, b⟩ := r
    simp only [Tr.below]
    exact Rps.below b
theorem Rps.below : ∀ {ts : List T} {vs : List Val}, Rps g ρ n P M ts vs → belows n ts
  | [], vs, _ => by simp only [belows]
  | t :: ts, vs, r => by
    rw [rps_cons] at r
    obtain ⟨w, ws, e, a, b⟩ := r
    simp only [belows]
    exact ⟨Rp.below a, Rps.below b⟩
end
mutual
theorem Rp.cut : ∀ {t : T} {v : Val}, Tr.below n' t → Rp g ρ n P M t v → Rp g ρ n' P M t v
  | .non, v, _, r => by rw [rp_non] at r ⊢; exact r
  | .bl b, v, _, r => by rw [rp_bl] at r ⊢; exact r
  | .int i, v, _, r => by rw [rp_int] at r ⊢; exact r
  | .str s, v, _, r => by rw [rp_str] at r ⊢; exact r
  | .scr s, v, _, r => by rw [rp_scr] at r ⊢; exact r
  | .ptr i, v, h, r => by
    simp only [Tr.below] at h
    rw [rp_ptr] at r ⊢
    exact ⟨h, r.2⟩
  | .lst xs, v, h, r => by
    simp only [Tr.below] at h
    rw [rp_lst] at r ⊢
    obtain ⟨vs, a, b⟩ := r
    exact ⟨vs, a, Rps.cut h b⟩
  | .tup xs, v, h, r => by
    simp only [Tr.below] at h
    rw [rp_tup] at r ⊢
    obtain ⟨vs, a, b⟩ := r
    exact ⟨vs, a, Rps.cut h b⟩
  | .ins c ns xs, v, h, r => by
    simp only [Tr.below] at h
    rw [rp_ins] at r ⊢
    obtain ⟨a, vs, e, p, m, l, b⟩ := r
    exact ⟨a, vs, e, p, m, l, Rps.cut h b⟩
  | .dk ks xs, v, h, r => by
    simp only [Tr.below] at h
    rw [rp_dk] at r ⊢
    obtain ⟨a, vs, e, p, m, l, b⟩ := r
    exact ⟨a, vs, e, p, m, l, Rps.cut h b⟩
theorem Rps.cut : ∀ {ts : List T} {vs : List Val}, belows n' ts → Rps g ρ n P M ts vs → Rps g ρ n' P M ts vs
  | [], vs, _, r => by rw [rps_nil] at r ⊢; exact r
  | t :: ts, vs, h, r => by
    simp only [belows] at h
    rw [rps_cons] at r ⊢
    obtain ⟨w, ws, e, a, b⟩ := r
    exact ⟨w, ws, e, Rp.cut h.1 a, Rps.cut h.2 b⟩
end
end
def frzL (f : T → Sto → Option (T × Sto)) : List T → Sto → Option (List T × Sto)
  | [], σ => some ([], σ)
  | x :: xs, σ => (f x σ).bind fun p => (frzL f xs p.2).map fun q => (p.1 :: q.1, q.2)
def frzD : Nat → T → Sto → Option (T × Sto)
  | 0, _, _ => none
  | n + 1, t, σ => if pureT t = true then some (t, σ) else (match t with
    | .ptr k => (match σ[k]? with
      | some (some u) => frzD n u (σ.set k none)
      | _ => none)
    | .lst xs => (frzL (frzD n) xs σ).map fun p => (.lst p.1, p.2)
    | .tup xs => (frzL (frzD n) xs σ).map fun p => (.tup p.1, p.2)
    | .ins c ns xs => (frzL (frzD n) xs σ).map fun p => (.ins c ns p.1, p.2)
    | .dk ks xs => (frzL (frzD n) xs σ).map fun p => (.dk ks p.1, p.2)
    | _ => none)
section
variable {g : Cfg} {B : Nat → Prop}
theorem frzL_len (f : T → Sto → Option (T × Sto)) : ∀ (ts : List T) (σ : Sto) (p : List T × Sto), frzL f ts σ = some p → p.1.length = ts.length
  | [], σ, p, e => by simp only [frzL] at e; cases e; rfl
  | t :: ts, σ, p, e => by
    simp only [frzL] at e
    obtain ⟨q, _, e⟩ := Option.bind_eq_some_iff.mp e
    obtain ⟨r, e2, rfl⟩ := Option.map_eq_some_iff.mp e
    simp [frzL_len f ts _ r e2]
theorem frzL_ok {f : T → Sto → Option (T × Sto)} (hf : ∀ (t : T) {w : Wd} {v : Val} {t' : T} {σ' : Sto}, Wf g B w → RW g B w t v → f t w.σ = some (t', σ') → ∃ w', w'.σ = σ' ∧ w'.M = w.M ∧ Gx w w' ∧ Wf g B w' ∧ RW g B w' t' v) :
    ∀ (ts : List T) {w : Wd} {vs : List Val} {p : List T × Sto}, Wf g B w → RWs g B w ts vs → frzL f ts w.σ = some p → ∃ w', w'.σ = p.2 ∧ w'.M = w.M ∧ Gx w w' ∧ Wf g B w' ∧ RWs g B w' p.1 vs
  | [], w, vs, p, W, r, e => by
    simp only [frzL] at e
    cases e
    exact ⟨w, rfl, rfl, .refl, W, r⟩
  | t :: ts, w, vs, p, W, r, e => by
    simp only [frzL] at e
    obtain ⟨⟨t', σ1⟩, e1, e⟩ := Option.bind_eq_some_iff.mp e
    obtain ⟨q, e2, rfl⟩ := Option.map_eq_some_iff.mp e
    rw [ws_cons] at r
    obtain ⟨u, us, rfl, a, r⟩ := r
    obtain ⟨w1, h1, h2, h3, h4, h5⟩ := hf t W a e1
    subst h1
    obtain ⟨w2, k1, k2, k3, k4, k5⟩ := frzL_ok hf ts h4 (r.goB h3) e2
    exact ⟨w2, k1, k2.trans h2, h3.trans k3, k4, Rps.cons (h5.goB k3) k5⟩
theorem frzD_ok : ∀ (n : Nat) (t : T) {w : Wd} {v : Val} {t' : T} {σ' : Sto}, Wf g B w → RW g B w t v → frzD n t w.σ = some (t', σ') → ∃ w', w'.σ = σ' ∧ w'.M = w.M ∧ Gx w w' ∧ Wf g B w' ∧ RW g B w' t' v
  | 0, t, w, v, t', σ', W, r, e => by simp only [frzD] at e; cases e
  | n + 1, t, w, v, t', σ', W, r, e => by
    simp only [frzD] at e
    split at e
    · cases e
      exact ⟨w, rfl, rfl, .refl, W, r⟩
    · cases t with
      | ptr k =>
        simp only at e
        split at e
        · rename_i u hk
          obtain ⟨rfl, ht⟩ := cell_lst W r hk
          have r1 : RW g B (w.offC k) u (.ref (w.ρ k)) := (ht.of (fun _ _ r => r.goB gx_offC) fun o m => m).rp ⟨fun ⟨i, u', e, z⟩ => by
            obtain ⟨n, e⟩ := offC_at e
            exact n (W.inj i k _ _ e hk z), (W.at_ k u hk).2⟩
          obtain ⟨w', h1, h2, h3, h4, h5⟩ := frzD_ok n u (w := w.offC k) W.offC r1 e
          exact ⟨w', h1, h2, gx_offC.trans h3, h4, h5⟩
        · cases e
      | lst xs =>
        obtain ⟨p, e1, e2⟩ := Option.map_eq_some_iff.mp e
        cases e2
        rw [w_lst] at r
        obtain ⟨vs, ⟨a, rfl, pa, m⟩, b⟩ := r
        obtain ⟨w', h1, h2, h3, h4, h5⟩ := frzL_ok (fun t => frzD_ok n t) xs W b e1
        obtain ⟨k1, _, k3⟩ := h3.kp a _ pa.1 (fun z => z) m
        exact ⟨w', h1, h2, h3, h4, by rw [w_lst]; exact ⟨vs, ⟨a, rfl, ⟨k1, pa.2⟩, k3⟩, h5⟩⟩
      | tup xs =>
        obtain ⟨p, e1, e2⟩ := Option.map_eq_some_iff.mp e
        cases e2
        rw [w_tup] at r
        obtain ⟨vs, q, b⟩ := r
        obtain ⟨w', h1, h2, h3, h4, h5⟩ := frzL_ok (fun t => frzD_ok n t) xs W b e1
        refine ⟨w', h1, h2, h3, h4, ?_⟩
        rw [w_tup]
        refine ⟨vs, ?_, h5⟩
        rcases q with ⟨a, rfl, pa, m⟩ | q
        · obtain ⟨k1, _, k3⟩ := h3.kp a _ pa.1 (fun z => z) m
          exact .inl ⟨a, rfl, ⟨k1, pa.2⟩, k3⟩
        · exact .inr q
      | ins c ns xs =>
        obtain ⟨p, e1, e2⟩ := Option.map_eq_some_iff.mp e
        cases e2
        rw [w_ins] at r
        obtain ⟨a, vs, rfl, pa, m, l, b⟩ := r
        obtain ⟨w', h1, h2, h3, h4, h5⟩ := frzL_ok (fun t => frzD_ok n t) xs W b e1
        obtain ⟨k1, _, k3⟩ := h3.kp a _ pa.1 (fun z => z) m
        have ll := frzL_len _ xs _ _ e1
        exact ⟨w', h1, h2, h3, h4, by rw [w_ins]; exact ⟨a, vs, rfl, ⟨k1, pa.2⟩, k3, l.trans ll.symm, h5⟩⟩
      | dk ks xs =>
        obtain ⟨p, e1, e2⟩ := Option.map_eq_some_iff.mp e
        cases e2
        rw [w_dk] at r
        obtain ⟨a, vs, rfl, pa, m, l, b⟩ := r
        obtain ⟨w', h1, h2, h3, h4, h5⟩ := frzL_ok (fun t => frzD_ok n t) xs W b e1
        have k1 : ¬ w'.Lv a := by rcases dkOf_get m with m | m <;> exact (h3.kp a _ pa.1 (fun z => z) m).1
        have k3 : Pa.dkOf w'.M a = some (ks.zip vs) := dkOf_mono m fun o m => (h3.kp a o pa.1 (fun z => z) m).2.2
        have ll := frzL_len _ xs _ _ e1
        exact ⟨w', h1, h2, h3, h4, by rw [w_dk]; exact ⟨a, vs, rfl, ⟨k1, pa.2⟩, k3, l.trans ll.symm, h5⟩⟩
      | _ => cases e
end
def frzR' (x : T) (σ1 : Sto) : R T := match frzD 60 x σ1 with
  | some p => .ok p.1 p.2
  | none => .no
def eFrzD (d : D) : D := fun E σ => (d E σ).bind fun x σ1 => frzR' x σ1
theorem xfrzD {g : Cfg} {O : List Nat} {d : Pa.D} {ed : D} (hd : XE g O d ed) : XE g O d (eFrzD ed) := fun m0 B w E L t σ' S e => by
  obtain ⟨x, σ1, e1, e⟩ := R.bind_eq e
  obtain ⟨v, w1, rfl, q2, G1, W1, R1⟩ := hd _ _ _ _ _ _ _ S e1
  unfold frzR' at e
  split at e
  · rename_i p hp
    cases e
    obtain ⟨w', h1, h2, h3, h4, h5⟩ := frzD_ok 60 x W1 R1 hp
    exact ⟨v, w', h1, by rw [q2, h2], G1.trans h3, h4, h5⟩
  · cases e
def PeFrzD (Q : T → Sto → Prop) : T → Sto → Prop := fun x σ => Ev (frzR' x σ) Q
@[simp] theorem u_eFrzD (d : D) (E : Env) (σ : Sto) (Q : T → Sto → Prop) : Ev (eFrzD d E σ) Q = Ev (d E σ) (PeFrzD Q) := by
  unfold eFrzD
  rw [ev_bind]
  rfl
@[simp] theorem v_PeFrzD (Q : T → Sto → Prop) (x : T) (σ : Sto) : PeFrzD Q x σ = Ev (frzR' x σ) Q := rfl
def PeNC2 (k : Nat) (Q : T → Sto → Prop) : T → Sto → Prop := fun t σ => t = .non ∧ Q (.ptr k) σ
def PeNC (n : Nat) (c : String) (f : Fn) (Q : T → Sto → Prop) : List T → Sto → Prop := fun ts σ => ts.length + 1 = n ∧ Ev (f (.ptr σ.length :: ts) (σ ++ [some (.ins c [] [])])) (PeNC2 σ.length Q)
@[simp] theorem u_eNewC (n : Nat) (c : String) (f : Fn) (es : DA) (E : Env) (σ : Sto) (Q : T → Sto → Prop) : Ev (eNewC n c f es E σ) Q = Ev (es E σ) (PeNC n c f Q) := by
  unfold eNewC
  rw [ev_bind]
  refine congrArg _ (funext fun ts => funext fun σ => ?_)
  rw [ev_guard, ev_bind]
  show _ = (_ ∧ _)
  refine congrArg _ (congrArg _ (funext fun t => funext fun σ => ?_))
  cases t <;> simp [PeNC2]
@[simp] theorem v_PeNC (n : Nat) (c : String) (f : Fn) (Q : T → Sto → Prop) (ts : List T) (σ : Sto) : PeNC n c f Q ts σ = (ts.length + 1 = n ∧ Ev (f (.ptr σ.length :: ts) (σ ++ [some (.ins c [] [])])) (PeNC2 σ.length Q)) := rfl
@[simp] theorem v_PeNC2 (k : Nat) (Q : T → Sto → Prop) (t : T) (σ : Sto) : PeNC2 k Q t σ = (t = .non ∧ Q (.ptr k) σ) := rfl
/-! ### a def that leaves no cells -/
open Classical in
noncomputable def trim (f : Fn) : Fn := fun args σ => (f args σ).bind fun t σ1 => if pureT t = true ∧ σ1.take σ.length = σ then .ok t σ else .no
theorem fs_trim {g : Cfg} {F : Pa.Fn} {f : Fn} {fr : Bool} (h : FS g fr F f) : FS g false F (trim f) := fun B w vs ts t σ' W r q => by
  refine ⟨?_, fun z => by cases z⟩
  obtain ⟨u, σ1, e1, q⟩ := R.bind_eq q
  split at q
  · rename_i hc
    cases q
    obtain ⟨v, w1, rfl, q1, G, W1, R1⟩ := (h B w vs ts t σ1 W r e1).1
    have low : ∀ (i : Nat) (x : T), w.σ[i]? = some (some x) → w1.σ[i]? = some (some x) := fun i x e => by
      have hl := (List.getElem?_eq_some_iff.mp e).1
      rw [← hc.2, List.getElem?_take_of_lt hl] at e
      exact e
    have lv : ∀ x, Wd.Lv ⟨w1.ρ, w.σ, w1.M⟩ x → w1.Lv x := fun x ⟨i, y, e, z⟩ => ⟨i, y, low i y e, z⟩
    have up : ∀ (ts : List T) (vs : List Val), belows w.σ.length ts → RWs g B w1 ts vs → RWs g B ⟨w1.ρ, w.σ, w1.M⟩ ts vs := fun ts vs hb r => by
      have r1 : Rps g w1.ρ w1.σ.length ((⟨w1.ρ, w.σ, w1.M⟩ : Wd).P B) w1.M ts vs := Rps.mono (fun x o p m => ⟨⟨fun z => p.1 (lv x z), p.2⟩, m⟩) (Nat.le_refl _) (fun _ _ => rfl) ts vs r
      exact Rps.cut hb r1
    refine ⟨v, ⟨w1.ρ, w.σ, w1.M⟩, rfl, q1, ⟨Nat.le_refl _, G.rh, G.ml, fun x o l n m => ?_⟩, ⟨fun i j x y e f z => W1.inj i j x y (low i x e) (low j y f) z, fun i x e => ?_, W1.bB⟩, ?_⟩
    · obtain ⟨k1, k2, k3⟩ := G.kp x o l n m
      exact ⟨fun z => k1 (lv x z), k2, k3⟩
    · obtain ⟨p1, p2⟩ := W1.at_ i x (low i x e)
      refine ⟨?_, p2⟩
      have t0 := (W.at_ i x e).1
      cases x with
      | lst xs =>
        obtain ⟨vs0, _, r0⟩ := t0
        obtain ⟨vs1, m1, r1⟩ := p1
        exact ⟨vs1, m1, up _ _ (Rps.below r0) r1⟩
      | ins c ns xs =>
        obtain ⟨vs0, _, _, r0⟩ := t0
        obtain ⟨vs1, m1, l1, r1⟩ := p1
        exact ⟨vs1, m1, l1, up _ _ (Rps.below r0) r1⟩
      | dk ks xs =>
        obtain ⟨vs0, _, _, r0⟩ := t0
        obtain ⟨vs1, m1, l1, r1⟩ := p1
        exact ⟨vs1, m1, l1, up _ _ (Rps.below r0) r1⟩
      | _ => exact p1.elim
    · have r1 : Rp g w1.ρ w1.σ.length ((⟨w1.ρ, w.σ, w1.M⟩ : Wd).P B) w1.M t v := Rp.mono (fun x o p m => ⟨⟨fun z => p.1 (lv x z), p.2⟩, m⟩) (Nat.le_refl _) (fun _ _ => rfl) t v R1
      exact Rp.pure hc.1 r1
  · cases q
/-- one that is pure at both ends -/
theorem trim_ok {f : Fn} {args : List T} {σ σ1 : Sto} {t : T} (h : f args σ = .ok t σ1) (hp : pureT t = true) (hs : σ1.take σ.length = σ) : trim f args σ = .ok t σ := by
  unfold trim
  rw [h, R.bind_ok, if_pos ⟨hp, hs⟩]
theorem pures_map {α : Type} {f : α → T} {xs : List α} (h : ∀ x, pureT (f x) = true) : pureTs (xs.map f) = true := by
  induction xs with
  | nil => simp only [List.map_nil, pureTs]
  | cons x xs ih => simp only [List.map_cons, pureTs, h, ih, Bool.and_self]
theorem pures_iff {xs : List T} : pureTs xs = true ↔ ∀ x ∈ xs, pureT x = true := by
  induction xs with
  | nil => simp [pureTs]
  | cons x xs ih => simp [pureTs, ih]
end Tr

/-! Trees: all defs; a law. -/
namespace Tr
open Pa (Val Ob Mem Cfg DKey Loc)
section
variable {g : Cfg}
structure TD where
  N : Nat
  fr : Bool
  tr : Bool
  den : Nat → (Nat → Fn) → Ds
noncomputable def tal (tds : List TD) : Nat → Nat → Fn
  | 0, _ => fun _ _ => .no
  | n + 1, i => match tds[i]? with
    | some d => (match d.tr with
      | true => trim (trun d.N (d.den n (tal tds n)))
      | false => trun d.N (d.den n (tal tds n)))
    | none => fun _ _ => .no
/-- all that may be called -/
abbrev Cs (g : Cfg) (fds : List Pa.FD) (tds : List TD) (n : Nat) : Prop := ∀ (i : Nat) (td : TD), tds[i]? = some td → FS g (td.fr && !td.tr) (Pa.cal g fds n i) (tal tds n i)
structure TOk (g : Cfg) (fds : List Pa.FD) (tds : List TD) (fd : Pa.FD) (td : TD) : Prop where
  len : fd.N.length = td.N
  ok : ∀ n, Cs g fds tds n → ∃ On Ol, TS g [] (fd.den g (Pa.cal g fds n)) (td.den n (tal tds n)) On Ol td.fr
theorem all_fs {fds : List Pa.FD} {tds : List TD} (h : ∀ (i : Nat) (td : TD), tds[i]? = some td → ∃ fd, fds[i]? = some fd ∧ TOk g fds tds fd td) : ∀ n, Cs g fds tds n
  | 0, i, td, e => fun B w vs ts t σ' W r q => by cases q
  | n + 1, i, td, e => by
    obtain ⟨fd, e1, k⟩ := h i td e
    obtain ⟨On, Ol, z⟩ := k.ok n (all_fs h n)
    have z' := fs_run (n := td.N) z
    have q1 : Pa.cal g fds (n + 1) i = Pa.runD fd.N.length (fd.den g (Pa.cal g fds n)) := by simp only [Pa.cal, e1]
    rw [q1, k.len]
    cases ht : td.tr with
    | true =>
      have q2 : tal tds (n + 1) i = trim (trun td.N (td.den n (tal tds n))) := by simp only [tal, e, ht]
      rw [q2, Bool.not_true, Bool.and_false]
      exact fs_trim z'
    | false =>
      have q2 : tal tds (n + 1) i = trun td.N (td.den n (tal tds n)) := by simp only [tal, e, ht]
      rw [q2, Bool.not_false, Bool.and_true]
      exact z'
/-- a law -/
theorem law_tree {fds : List Pa.FD} {tds : List TD} (h : ∀ (i : Nat) (td : TD), tds[i]? = some td → ∃ fd, fds[i]? = some fd ∧ TOk g fds tds fd td) {N ix : Nat} {td : TD} (hix : tds[ix]? = some td) {M : Mem} {sv : Val} {ns : List Int} (hs : Pa.Scr g ns sv M) {σ' : Sto}
    (e : tal tds N ix [.scr ns] [] = .ok (.bl true) σ') : ∃ M', Pa.cal g fds N ix [sv] M = .ok (.bl true) M' := by
  let w : Wd := ⟨fun _ => 0, [], M⟩
  have nl : ∀ {i : Nat} {t : T}, ([] : Sto)[i]? = some (some t) → False := fun {i t} e => by simp at e
  have W : Wf g Nb w := ⟨fun i j t u e => (nl e).elim, fun i t e => (nl e).elim, fun a z => z.elim⟩
  have pn : ∀ a, w.P Nb a := fun a => ⟨fun ⟨i, t, e, _⟩ => nl e, fun z => z⟩
  have r : RWs g Nb w [.scr ns] [sv] := Rps.one (by
    rw [rp_scr]
    cases hs with
    | con h => exact .inr ⟨0, rfl, h⟩
    | ref h => exact .inl ⟨0, rfl, pn 0, h⟩)
  obtain ⟨⟨v, w', _, q, _, _, rv⟩, _⟩ := all_fs h N ix td hix Nb w [sv] [.scr ns] (.bl true) σ' W r e
  rw [w_bl] at rv
  subst rv
  exact ⟨_, q⟩
end
section
variable {g : Cfg}
theorem t_never {fds : List Pa.FD} {tds : List TD} {fd : Pa.FD} {td : TD} (h : td.den = fun _ _ => sNever) (hl : fd.N.length = td.N) : TOk g fds tds fd td := ⟨hl, fun n _ => ⟨[], [], fun m0 B w E L f σ' S hm e => by
  rw [h] at e
  cases e⟩⟩
end
end Tr

/-! Trees: divmod; != of two dicts that are equal. -/
namespace Tr
open Pa (Val Ob Mem Cfg DKey Loc)
section
variable {g : Cfg} {O : List Nat}
def OpLE (g : Cfg) (f : List Val → Mem → Pa.R Val) (p : List T → Sto → R T) : Prop := ∀ B w ts vs t σ', Wf g B w → Pks g B w ts vs → p ts w.σ = .ok t σ' → Out g B w (f vs w.M) t σ'
theorem xfe {f : List Val → Mem → Pa.R Val} {p : List T → Sto → R T} {ds : Pa.DA} {es : DA} (hop : OpLE g f p) (hs : XQ g O ds es) : XE g O (Pa.dF f ds) (eF p es) := fun m0 B w E L t σ' S e => by
  obtain ⟨x, σ1, e1, e⟩ := R.bind_eq e
  refine hs.then (K := fun w r => Out g (BO B L O) w r t σ') goO S e1 fun v w1 hs G1 S1 P1 => ?_
  subst hs
  exact hop _ _ _ _ _ _ S1.wf P1 e
def tDivmod (ts : List T) (σ : Sto) : R T := match ts with
  | [.int i, .int j] => if 0 < j ∧ j < 18446744073709551616 then .ok (.tup [.int (i / j), .int (i % j)]) σ else .no
  | _ => .no
theorem op_divmod : OpLE g Pa.bDivmod tDivmod := fun B w ts vs t σ' W h e => by
  unfold tDivmod at e
  split at e
  · obtain ⟨v, u, rfl, h1, h2⟩ := h.two
    cases h1.int; cases h2.int
    split at e
    · rename_i c
      cases e
      simp only [Pa.bDivmod, c, and_self, if_true]
      refine Out.tup W ?_
      rw [ws_cons]
      refine ⟨_, _, rfl, by rw [w_int], ?_⟩
      rw [ws_cons]
      exact ⟨_, _, rfl, by rw [w_int], by rw [ws_nil]⟩
    · cases e
  · cases e
@[simp] theorem w_divmod (i j : Int) (σ : Sto) : tDivmod [.int i, .int j] σ = if 0 < j ∧ j < 18446744073709551616 then .ok (.tup [.int (i / j), .int (i % j)]) σ else .no := rfl
def dkT (σ : Sto) (E : T → T → Bool) (x y : T) : Bool := match look σ x, look σ y with
  | some (.dk ks xs), some (.dk ls ys) => decide (ks.length = ls.length) && (ks.zip xs).all fun p => (match lkpT ls ys p.1 with
    | some u => E p.2 u
    | none => false)
  | _, _ => false
def tNeX (x y : T) (σ : Sto) : R T := match tEq true x y σ with
  | .no => if dkT σ (eqTT σ 60) x y = true then .ok (.bl false) σ else .no
  | r => r
theorem dkT_ok {B : Nat → Prop} {w : Wd} (W : Wf g B w) {E : T → T → Bool} {F : Val → Val → Bool} (h : ∀ x y v u, E x y = true → RW g B w x v → RW g B w y u → F v u = true) {x y : T} {v u : Val} (e : dkT w.σ E x y = true) (rx : Pk g B w x v) (ry : Pk g B w y u) : Pa.dkObj w.M F v u = true := by
  unfold dkT at e
  split at e
  · rename_i ks xs ls ys h1 h2
    obtain ⟨a, vs, rfl, m1, l1, r1⟩ := (rx.look W h1).dk
    obtain ⟨b, us, rfl, m2, l2, r2⟩ := (ry.look W h2).dk
    simp only [Bool.and_eq_true, decide_eq_true_eq, List.all_eq_true] at e
    have l3 := r1.len
    have l4 := r2.len
    have key : (ks.zip vs).all (fun p => (match Pa.lkp (ls.zip us) p.1 with
      | some u => F p.2 u
      | none => false)) = true := by
      rw [List.all_eq_true]
      intro p hp
      obtain ⟨i, hi⟩ := List.getElem?_of_mem hp
      obtain ⟨k, v⟩ := p
      rw [List.getElem?_zip_eq_some] at hi
      obtain ⟨t, ht, rt⟩ := r1.getv hi.2
      have z := e.2 (k, t) (List.mem_of_getElem? (by rw [List.getElem?_zip_eq_some]; exact ⟨hi.1, ht⟩))
      split at z
      · rename_i t2 ht2
        rcases lkp_rp k r2 with ⟨q0, _⟩ | ⟨t3, u2, q0, q1, q2⟩
        · simp only at ht2
          rw [q0] at ht2
          cases ht2
        · simp only at ht2 ⊢
          rw [q0] at ht2
          cases ht2
          rw [q1]
          exact h _ _ _ _ z rt q2
      · cases z
    have hl : (ks.zip vs).length = (ls.zip us).length := by
      rw [List.length_zip, List.length_zip]
      omega
    unfold Pa.dkObj
    simp only [m1, m2, hl, decide_true, Bool.true_and]
    exact key
  · cases e
theorem op_nex : OpF g (Pa.oNeX g) tNeX := fun B w x y v u t σ' W h1 h2 e => by
  unfold tNeX at e
  split at e
  · split at e
    · rename_i hc
      cases e
      rw [Pa.neX_false (dkT_ok W (fun x y v u => eqTT_ok W 60 x y v u) hc h1 h2)]
      exact obl W _
    · cases e
  · have z := op_ne B w x y v u t σ' W h1 h2 e
    obtain ⟨v', w', a, b, c⟩ := z
    rw [Pa.neX_of b]
    exact ⟨v', w', a, rfl, c⟩
def tSIndex (x : T) (ts : List T) (σ : Sto) : R T := match x, ts with
  | .str a, [.str b] => (match PySem.Builtin.Str.occurrences (SX.S a) (SX.S b) 0 (SX.S a).length 1 with
    | i :: _ => .ok (.int (i : Nat)) σ
    | [] => .no)
  | _, _ => .no
theorem op_sindex : OpM g Pa.mSIndex tSIndex := fun B w x v ts vs t σ' W h hs e => by
  unfold tSIndex at e
  split at e
  · rename_i a b
    cases h.str
    obtain ⟨u, rfl, h2⟩ := hs.one
    cases h2.str
    split at e
    · rename_i i rest hi
      cases e
      simp only [Pa.mSIndex, hi]
      exact oint W _
    · cases e
  · cases e
end
end Tr

/-! max of a list of ints with a default. -/
namespace Tr
open SX (S)
open Pa (R)
def tMaxK (ts : List T) (σ : Sto) : R T := match ts with
  | [x, .int d] => (match (lstT σ x).bind intsT with
    | some [] => .ok (.int d) σ
    | some (i :: is) => .ok (.int (Pa.mxs i is)) σ
    | none => .no)
  | _ => .no
section
variable {g : Pa.Cfg}
theorem op_maxk : OpL g (Pa.bMaxK g) tMaxK := fun B w ts vs t σ' W h e => by
  unfold tMaxK at e
  split at e
  · rename_i x d
    obtain ⟨u, us, rfl, hv, h2⟩ := h.cons_
    obtain ⟨u2, us2, rfl, hd, h3⟩ := h2.cons_
    cases h3.nil_
    cases hd.int
    split at e
    · rename_i hb
      cases e
      obtain ⟨xs, h1, h2⟩ := Option.bind_eq_some_iff.mp hb
      obtain ⟨us, e1, r⟩ := hv.lst W h1
      simp only [Pa.bMaxK, e1, Option.bind_some, ints_rp r h2]
      exact oint W _
    · rename_i i is hb
      cases e
      obtain ⟨xs, h1, h2⟩ := Option.bind_eq_some_iff.mp hb
      obtain ⟨us, e1, r⟩ := hv.lst W h1
      simp only [Pa.bMaxK, e1, Option.bind_some, ints_rp r h2]
      exact oint W _
    · cases e
  · cases e
end
end Tr

/-! Trees: dicts that are walked, list(d), dict(d). -/
namespace Tr
open Pa (Val Ob Mem Cfg DKey Loc)
section
variable {g : Cfg} {m0 : Nat} {B : Nat → Prop} {w w1 : Wd} {O : List Nat} {E : Env} {L : Loc} {a : Nat} {o o' : Ob} {kvs : List (DKey × Val)}
/-- a dict's record, frozen or not -/
def Dko (kvs : List (DKey × Val)) (o : Ob) : Prop := o = .dk kvs ∨ o = .fz (.dk kvs)
theorem turn_P (ha : w.M[a]? = some o) (ho : Dko kvs o) (ho' : Dko kvs o') : ∀ b u, w.P B b → w.M[b]? = some u → (w.setM a o').P B b ∧ Sm u (w.setM a o').M b := fun b u p m => ⟨p, by
  by_cases h : a = b
  · subst h
    rw [ha] at m
    cases m
    refine .inr ⟨kvs, ho, ?_⟩
    have z := setM_at (w := w) (o := o') (List.getElem?_eq_some_iff.mp ha).1
    rcases ho' with rfl | rfl
    · exact dkOf_dk z
    · exact dkOf_fz z
  · exact .inl (by rw [setM_ne h]; exact m)⟩
theorem Rp.turn (ha : w.M[a]? = some o) (ho : Dko kvs o) (ho' : Dko kvs o') {t : T} {v : Val} (h : RW g B w t v) : RW g B (w.setM a o') t v := Rp.lk (turn_P ha ho ho') t v h
theorem Rps.turn (ha : w.M[a]? = some o) (ho : Dko kvs o) (ho' : Dko kvs o') {t : List T} {v : List Val} (h : RWs g B w t v) : RWs g B (w.setM a o') t v := Rps.lk (turn_P ha ho ho') t v h
theorem Top.turn (ha : w.M[a]? = some o) (ho : Dko kvs o) (ho' : Dko kvs o') {t : T} {x : Nat} (n : a ≠ x) (h : Top g B w t x) : Top g B (w.setM a o') t x :=
  h.of (fun _ _ r => r.turn ha ho ho') fun u m => by rw [setM_ne n]; exact m
theorem Wf.turn (ha : w.M[a]? = some o) (ho : Dko kvs o) (ho' : Dko kvs o') (nl : ¬ w.Lv a) (h : Wf g B w) : Wf g B (w.setM a o') :=
  ⟨h.inj, fun i t e => ⟨(h.at_ i t e).1.turn ha ho ho' fun z => nl ⟨i, t, e, z.symm⟩, (h.at_ i t e).2⟩, fun b z => by rw [setM_len]; exact h.bB b z⟩
theorem St.turn (ha : w.M[a]? = some o) (ho : Dko kvs o) (ho' : Dko kvs o') (nl : ¬ w.Lv a) (nb : ¬ BO B L O a) (S : St g m0 B w O E L) : St g m0 B (w.setM a o') O E L :=
  ⟨S.wf.turn ha ho ho' nl, S.len, fun i v e => by
    obtain ⟨t, e1, h1, h2⟩ := S.env i v e
    refine ⟨t, e1, fun z => (h1 z).turn ha ho ho', fun z => ?_⟩
    rcases h2 z with ⟨f, h3⟩ | ⟨x, rfl, h3⟩
    · exact .inl ⟨f, h3.turn ha ho ho'⟩
    · exact .inr ⟨x, rfl, h3.turn ha ho ho' fun y => nb (.inr ⟨i, z, y ▸ e⟩)⟩, S.non, S.dis, S.om⟩
theorem FlOk.turn {On Ol : List Nat} {fr : Bool} {f : Fl} {f' : Pa.Fl} (ha : w.M[a]? = some (.fz (.dk kvs))) (nl : ¬ w.Lv a) (nb : ¬ B a) (no : ¬ OwF On Ol f' a) (h : FlOk g m0 B On Ol fr w f f') : FlOk g m0 B On Ol fr (w.setM a (.dk kvs)) f f' := by
  have ho : Dko kvs (.fz (.dk kvs)) := .inr rfl
  have ho' : Dko kvs (.dk kvs) := .inl rfl
  cases f <;> cases f' <;> first | exact h.elim | skip
  · exact St.turn ha ho ho' nl (fun z => z.elim nb no) h
  · obtain ⟨h1, h2, h3⟩ := h
    refine ⟨h1.turn ha ho ho' nl, h2.turn ha ho ho', fun q => ?_⟩
    rcases h3 q with ⟨f, z⟩ | ⟨x, rfl, l, W, z⟩
    · exact .inl ⟨f, z.turn ha ho ho'⟩
    · have nx : a ≠ x := fun e => by
        subst e
        rename_i t
        cases t with
        | lst xs => obtain ⟨vs, e, _⟩ := z; rw [ha] at e; cases e
        | ins c ns xs => obtain ⟨vs, e, _⟩ := z; rw [ha] at e; cases e
        | dk ks xs => obtain ⟨vs, e, _⟩ := z; rw [ha] at e; cases e
        | _ => exact z.elim
      exact .inr ⟨x, rfl, l, W.turn ha ho ho' nl, z.turn ha ho ho' nx⟩
  · exact St.turn ha ho ho' nl (fun z => z.elim nb no) h
  · exact St.turn ha ho ho' nl (fun z => z.elim nb no) h
end
/-! ### for over a dict -/
def kT : DKey → T
  | .inl i => .int i
  | .inr s => .str s
def iKs (ks : List DKey) (_ : List T) : Itb := .fix (ks.map kT)
def iIs (ks : List DKey) (xs : List T) : Itb := .prs (ks.map kT) xs
def sForD (mk : List DKey → List T → Itb) (d : D) (t : DT) (body : Ds) : Ds := fun E σ => (d E σ).bind fun v σ1 => match v with
  | .dk ks xs => forL (mk ks xs) t body (mk ks xs).num 0 E σ1
  | _ => .no
section
variable {g : Cfg} {O O1 Ol : List Nat} {fr : Bool} {b : Pa.Ds} {eb : Ds} {B : Nat → Prop} {w : Wd}
def ItD (g : Cfg) (mkI : List (DKey × Val) → Pa.Itb) (mk : List DKey → List T → Itb) : Prop := ∀ (B : Nat → Prop) (w : Wd) (ks : List DKey) (xs : List T) (vs : List Val), ks.length = xs.length → RWs g B w xs vs → ItR g B w (mk ks xs) (mkI (ks.zip vs))
theorem kT_rw (k : DKey) : RW g B w (kT k) (Pa.kvl k) := by
  cases k with
  | inl i => show Rp _ _ _ _ _ (.int i) _; rw [rp_int]; rfl
  | inr s => show Rp _ _ _ _ _ (.str s) _; rw [rp_str]; rfl
theorem kTs_rw : ∀ ks : List DKey, RWs g B w (ks.map kT) (ks.map Pa.kvl)
  | [] => Rps.nil
  | k :: ks => Rps.cons (kT_rw k) (kTs_rw ks)
theorem zip_fst {α β γ : Type} (f : α → γ) : ∀ {ks : List α} {vs : List β}, ks.length = vs.length → (ks.zip vs).map (fun p => f p.1) = ks.map f
  | [], _, _ => rfl
  | k :: ks, [], h => by cases h
  | k :: ks, v :: vs, h => by
    rw [List.zip_cons_cons, List.map_cons, List.map_cons, zip_fst f (Nat.succ.inj h)]
theorem zip_snd {α β : Type} : ∀ {ks : List α} {vs : List β}, ks.length = vs.length → (ks.zip vs).map (·.2) = vs
  | [], [], _ => rfl
  | [], _ :: _, h => by cases h
  | k :: ks, [], h => by cases h
  | k :: ks, v :: vs, h => by
    rw [List.zip_cons_cons, List.map_cons, zip_snd (Nat.succ.inj h)]
theorem itd_keys : ItD g Pa.iKs iKs := fun B w ks xs vs l r => by
  have e : Pa.iKs (ks.zip vs) = .fix (ks.map Pa.kvl) := congrArg Pa.Itb.fix (zip_fst Pa.kvl (by rw [r.len]; exact l))
  rw [e]
  exact .fix (kTs_rw ks)
theorem itd_items : ItD g Pa.iIs iIs := fun B w ks xs vs l r => by
  have l' : ks.length = vs.length := by rw [r.len]; exact l
  have e : Pa.iIs (ks.zip vs) = .prs (ks.map Pa.kvl) vs := by
    show Pa.Itb.prs _ _ = _
    rw [zip_fst Pa.kvl l', zip_snd l']
  rw [e]
  exact .prs (kTs_rw ks) r
theorem ts_forD {mkI : List (DKey × Val) → Pa.Itb} {mk : List DKey → List T → Itb} {d : Pa.D} {ed : D} {tg : Pa.DT} {et : DT} (hm : ItD g mkI mk) (hd : XE g O d ed) (ht : XT g O tg et O1) (hb : TS g O1 b eb O O fr) :
    TS g O (Pa.xForD g mkI d tg b) (sForD mk ed et eb) O Ol fr := fun m0 B w E L f σ' S hm0 e => by
  obtain ⟨t, σ1, e1, e⟩ := R.bind_eq e
  obtain ⟨v, w1, rfl, q1, G1, W1, R1⟩ := hd _ _ _ _ _ _ _ S e1
  have S1 := S.go G1 W1
  have hm1 := Nat.le_trans hm0 G1.ml
  cases t with
  | dk ks xs =>
    rw [w_dk] at R1
    obtain ⟨a, vs, rfl, pa, hk, l, rs⟩ := R1
    simp only [Pa.xForD, q1, Pa.R.bind_ok, hk]
    refine OutS.go ?_ G1
    rcases dkOf_get hk with m | m
    · have ho : Dko (ks.zip vs) (.dk (ks.zip vs)) := .inl rfl
      have ho' : Dko (ks.zip vs) (.fz (.dk (ks.zip vs))) := .inr rfl
      have S2 := S1.turn m ho ho' pa.1 pa.2
      have it := (hm _ w1 ks xs vs l rs)
      have it2 := it.of fun t v r => Rp.turn m ho ho' r
      obtain ⟨f', w3, rfl, q3, G3, F3⟩ := forL_ok ht hb _ 0 S2 (by rw [setM_len]; exact hm1) it2 e
      have la := (List.getElem?_eq_some_iff.mp m).1
      obtain ⟨k1, k2, k3⟩ := G3.kp a _ pa.1 (fun z => pa.2 (.inr z)) (setM_at la)
      have q4 : Pa.forL g (mkI (ks.zip vs)) tg b (mkI (ks.zip vs)).num 0 L (w1.M.set a (.fz (.dk (ks.zip vs)))) = .ok f' w3.M := by
        rw [it.num]; exact q3
      simp only [Pa.lockD, m, q4, Pa.R.bind_ok]
      refine ⟨f', w3.setM a (.dk (ks.zip vs)), rfl, rfl, ⟨G3.sl, G3.rh, ?_, fun x u lx ox mx => ?_⟩, F3.turn k3 k1 (fun z => pa.2 (.inl z)) k2⟩
      · have z := G3.ml
        rw [setM_len] at z
        rw [setM_len]; exact z
      · by_cases h : a = x
        · subst h
          rw [m] at mx
          cases mx
          exact ⟨k1, k2, setM_at (List.getElem?_eq_some_iff.mp k3).1⟩
        · obtain ⟨z1, z2, z3⟩ := G3.kp x u lx ox (by rw [setM_ne h]; exact mx)
          exact ⟨z1, z2, by rw [setM_ne h]; exact z3⟩
    · simp only [Pa.lockD, m]
      have it := (hm _ w1 ks xs vs l rs)
      rw [it.num]
      exact forL_ok ht hb _ 0 S1 hm1 it e
  | _ => cases e
theorem z_forD {On : List Nat} {mkI : List (DKey × Val) → Pa.Itb} {mk : List DKey → List T → Itb} (hm : ∀ {g : Cfg}, ItD g mkI mk) (Oi : List Nat) {d : Pa.D} {ed : D} {tg : Pa.DT} {et : DT} (hd : XE g Oi d ed) (ht : XT g Oi tg et O1) (hb : TS g O1 b eb Oi Oi fr) (h1 : ∀ i ∈ Oi, i ∈ O := by decide) (h2 : ∀ i ∈ On, i ∈ Oi := by decide) : TS g O (Pa.xForD g mkI d tg b) (sForD mk ed et eb) On Ol fr := ts_sub (ts_end (ts_forD hm hd ht hb) h2) h1
end
/-! ### list(d), dict(d) -/
def tListX (ts : List T) (σ : Sto) : R T := match ts with
  | [x] => (match look σ x with
    | some (.dk ks _) => .ok (.lst (ks.map kT)) σ
    | _ => tList ts σ)
  | _ => .no
def tDict (ts : List T) (σ : Sto) : R T := match ts with
  | [x] => (match look σ x with
    | some (.dk ks xs) => .ok (.dk ks xs) σ
    | _ => .no)
  | _ => .no
section
variable {g : Cfg}
theorem seq_ndk {M : Mem} {a : Nat} {xs : List Val} (h : Pa.seqOf g M (.ref a) = some xs) : Pa.dkOf M a = none := by
  cases hm : M[a]? with
  | none => simp [Pa.dkOf, hm]
  | some o =>
    cases o with
    | dk kvs => simp [Pa.seqOf, Pa.lstOf, Pa.tupOf, hm] at h
    | fz o =>
      cases o with
      | dk kvs => simp [Pa.seqOf, Pa.lstOf, Pa.tupOf, hm] at h
      | _ => simp [Pa.dkOf, hm]
    | _ => simp [Pa.dkOf, hm]
theorem op_listX : OpL g (Pa.bListX g) tListX := fun B w ts vs t σ' W h e => by
  unfold tListX at e
  split at e
  · rename_i x
    split at e
    · rename_i ks xs hx
      obtain ⟨v, ev, hv⟩ := h.one
      subst ev
      cases e
      obtain ⟨a, vs, rfl, hk, l, r⟩ := (hv.look W hx).dk
      simp only [Pa.bListX, hk, Pa.bListD]
      rw [zip_fst Pa.kvl (by rw [r.len]; exact l)]
      exact OutF.lst W (kTs_rw ks)
    · have z := op_list (g := g) B w _ _ t σ' W h e
      obtain ⟨v, ev, hv⟩ := h.one
      subst ev
      have hn : ∀ a, v = .ref a → Pa.dkOf w.M a = none := fun a ea => by
        subst ea
        obtain ⟨v', w', _, q, _⟩ := z
        simp only [Pa.bList] at q
        split at q
        · rename_i xs hx
          exact seq_ndk hx
        · cases q
      have e2 : Pa.bListX g [v] w.M = Pa.bList g [v] w.M := by
        cases v with
        | ref a => simp only [Pa.bListX, hn a rfl]
        | _ => rfl
      rw [e2]
      exact z
  · cases e
theorem op_dict : OpL g Pa.bDict tDict := fun B w ts vs t σ' W h e => by
  unfold tDict at e
  split at e
  · rename_i x
    split at e
    · rename_i ks xs hx
      obtain ⟨v, ev, hv⟩ := h.one
      subst ev
      cases e
      obtain ⟨a, vs, rfl, hk, l, r⟩ := (hv.look W hx).dk
      simp only [Pa.bDict, hk]
      exact OutF.dk W l r
    · cases e
  · cases e
end
/-! ### their ends -/
section
variable {tg : DT} {body : Ds} {E : Env} {σ : Sto} {Q : Fl → Sto → Prop}
def PForD (mk : List DKey → List T → Itb) (tg : DT) (body : Ds) (E : Env) (Q : Fl → Sto → Prop) : T → Sto → Prop := fun v σ => match v with
  | .dk ks xs => Ev (forL (mk ks xs) tg body (mk ks xs).num 0 E σ) Q
  | _ => False
@[simp] theorem u_sForD (mk : List DKey → List T → Itb) (d : D) (tg : DT) (body : Ds) (E : Env) (σ : Sto) (Q : Fl → Sto → Prop) : Ev (sForD mk d tg body E σ) Q = Ev (d E σ) (PForD mk tg body E Q) := by
  unfold sForD
  rw [ev_bind]
  refine congrArg _ (funext fun v => funext fun σ => ?_)
  cases v <;> first | rfl | exact ev_no _
@[simp] theorem v_PForDk (ks : List DKey) (xs : List T) : PForD iKs tg body E Q (.dk ks xs) σ = Ev (forL (.fix (ks.map kT)) tg body ks.length 0 E σ) Q := by
  show Ev (forL (.fix (ks.map kT)) tg body (ks.map kT).length 0 E σ) Q = _
  rw [List.length_map]
@[simp] theorem v_PForDi (ks : List DKey) (xs : List T) : PForD iIs tg body E Q (.dk ks xs) σ = Ev (forL (.prs (ks.map kT) xs) tg body ks.length 0 E σ) Q := by
  show Ev (forL (.prs (ks.map kT) xs) tg body (ks.map kT).length 0 E σ) Q = _
  rw [List.length_map]
theorem for_keys {ks : List DKey} {n : Nat} (I : Nat → Env → Sto → Prop) (h0 : I 0 E σ) (hn : n = ks.length)
    (hs : ∀ j E σ k, ks[j]? = some k → I j E σ → Ev (tg (kT k) E σ) (PTgt body (PStep I j Q))) (he : ∀ E σ, I ks.length E σ → Q (.nx E) σ) : Ev (forL (.fix (ks.map kT)) tg body n 0 E σ) Q := by
  subst hn
  refine forL_ev I h0 (fun j E σ _ h h1 => ?_) fun E σ h => ?_
  · have hj : j < ks.length := by omega
    have e : ks[j]? = some ks[j] := List.getElem?_eq_getElem hj
    have e2 : (ks.map kT)[j]? = some (kT ks[j]) := by rw [List.getElem?_map, e]; rfl
    simp only [yld, e2, R.of, ev_ok]
    exact hs j E σ _ e h1
  · rw [Nat.zero_add] at h ⊢
    exact ⟨by simp [fin], he E σ h⟩
theorem for_items {ks : List DKey} {xs : List T} {n : Nat} (I : Nat → Env → Sto → Prop) (h0 : I 0 E σ) (hn : n = ks.length) (hl : ks.length = xs.length)
    (hs : ∀ j E σ k x, ks[j]? = some k → xs[j]? = some x → I j E σ → Ev (tg (.tup [kT k, x]) E σ) (PTgt body (PStep I j Q))) (he : ∀ E σ, I ks.length E σ → Q (.nx E) σ) : Ev (forL (.prs (ks.map kT) xs) tg body n 0 E σ) Q := by
  subst hn
  refine forL_ev I h0 (fun j E σ _ h h1 => ?_) fun E σ h => ?_
  · have hj : j < ks.length := by omega
    have e : ks[j]? = some ks[j] := List.getElem?_eq_getElem hj
    have e2 : (ks.map kT)[j]? = some (kT ks[j]) := by rw [List.getElem?_map, e]; rfl
    have e3 : xs[j]? = some xs[j] := List.getElem?_eq_getElem (by omega)
    simp only [yld, e2, e3, ev_ok]
    exact hs j E σ _ _ e e3 h1
  · rw [Nat.zero_add] at h ⊢
    exact ⟨by simp [fin, hl], he E σ h⟩
@[simp] theorem w_listXd (ks : List DKey) (xs : List T) (σ : Sto) : tListX [.dk ks xs] σ = .ok (.lst (ks.map kT)) σ := rfl
theorem w_listXp {k : Nat} {ks : List DKey} {xs : List T} {σ : Sto} (h : σ[k]? = some (some (.dk ks xs))) : tListX [.ptr k] σ = .ok (.lst (ks.map kT)) σ := by simp only [tListX, look, h]
@[simp] theorem w_dictd (ks : List DKey) (xs : List T) (σ : Sto) : tDict [.dk ks xs] σ = .ok (.dk ks xs) σ := rfl
theorem w_dictp {k : Nat} {ks : List DKey} {xs : List T} {σ : Sto} (h : σ[k]? = some (some (.dk ks xs))) : tDict [.ptr k] σ = .ok (.dk ks xs) σ := by simp only [tDict, look, h]
@[simp] theorem kT_inl (i : Int) : kT (.inl i) = .int i := rfl
@[simp] theorem kT_inr (s : List Nat) : kT (.inr s) = .str s := rfl
end
end Tr

namespace Q62
open PySem PySem.Spec
open PyProof.Rows L2 Pa
/-! ### the tree level -/
@[simp] theorem j_NoneType_GivenRow : isiT tabI "NoneType" "GivenRow" = some false := by decide +kernel
@[simp] theorem j_NoneType_bool : isiT tabI "NoneType" "bool" = some false := by decide +kernel
@[simp] theorem j_NoneType_dict : isiT tabI "NoneType" "dict" = some false := by decide +kernel
@[simp] theorem j_NoneType_int : isiT tabI "NoneType" "int" = some false := by decide +kernel
@[simp] theorem j_NoneType_list : isiT tabI "NoneType" "list" = some false := by decide +kernel
@[simp] theorem j_NoneType_tuple : isiT tabI "NoneType" "tuple" = some false := by decide +kernel
@[simp] theorem j_bool_GivenRow : isiT tabI "bool" "GivenRow" = some false := by decide +kernel
@[simp] theorem j_bool_bool : isiT tabI "bool" "bool" = some true := by decide +kernel
@[simp] theorem j_bool_dict : isiT tabI "bool" "dict" = some false := by decide +kernel
@[simp] theorem j_bool_int : isiT tabI "bool" "int" = some true := by decide +kernel
@[simp] theorem j_bool_list : isiT tabI "bool" "list" = some false := by decide +kernel
@[simp] theorem j_bool_tuple : isiT tabI "bool" "tuple" = some false := by decide +kernel
@[simp] theorem j_int_GivenRow : isiT tabI "int" "GivenRow" = some false := by decide +kernel
@[simp] theorem j_int_bool : isiT tabI "int" "bool" = some false := by decide +kernel
@[simp] theorem j_int_dict : isiT tabI "int" "dict" = some false := by decide +kernel
@[simp] theorem j_int_int : isiT tabI "int" "int" = some true := by decide +kernel
@[simp] theorem j_int_list : isiT tabI "int" "list" = some false := by decide +kernel
@[simp] theorem j_int_tuple : isiT tabI "int" "tuple" = some false := by decide +kernel
@[simp] theorem j_str_GivenRow : isiT tabI "str" "GivenRow" = some false := by decide +kernel
@[simp] theorem j_str_bool : isiT tabI "str" "bool" = some false := by decide +kernel
@[simp] theorem j_str_dict : isiT tabI "str" "dict" = some false := by decide +kernel
@[simp] theorem j_str_int : isiT tabI "str" "int" = some false := by decide +kernel
@[simp] theorem j_str_list : isiT tabI "str" "list" = some false := by decide +kernel
@[simp] theorem j_str_tuple : isiT tabI "str" "tuple" = some false := by decide +kernel
@[simp] theorem j_list_GivenRow : isiT tabI "list" "GivenRow" = some false := by decide +kernel
@[simp] theorem j_list_bool : isiT tabI "list" "bool" = some false := by decide +kernel
@[simp] theorem j_list_dict : isiT tabI "list" "dict" = some false := by decide +kernel
@[simp] theorem j_list_int : isiT tabI "list" "int" = some false := by decide +kernel
@[simp] theorem j_list_list : isiT tabI "list" "list" = some true := by decide +kernel
@[simp] theorem j_list_tuple : isiT tabI "list" "tuple" = some false := by decide +kernel
@[simp] theorem j_tuple_GivenRow : isiT tabI "tuple" "GivenRow" = some false := by decide +kernel
@[simp] theorem j_tuple_bool : isiT tabI "tuple" "bool" = some false := by decide +kernel
@[simp] theorem j_tuple_dict : isiT tabI "tuple" "dict" = some false := by decide +kernel
@[simp] theorem j_tuple_int : isiT tabI "tuple" "int" = some false := by decide +kernel
@[simp] theorem j_tuple_list : isiT tabI "tuple" "list" = some false := by decide +kernel
@[simp] theorem j_tuple_tuple : isiT tabI "tuple" "tuple" = some true := by decide +kernel
@[simp] theorem j_dict_GivenRow : isiT tabI "dict" "GivenRow" = some false := by decide +kernel
@[simp] theorem j_dict_bool : isiT tabI "dict" "bool" = some false := by decide +kernel
@[simp] theorem j_dict_dict : isiT tabI "dict" "dict" = some true := by decide +kernel
@[simp] theorem j_dict_int : isiT tabI "dict" "int" = some false := by decide +kernel
@[simp] theorem j_dict_list : isiT tabI "dict" "list" = some false := by decide +kernel
@[simp] theorem j_dict_tuple : isiT tabI "dict" "tuple" = some false := by decide +kernel
@[simp] theorem j_HandRow_GivenRow : isiT tabI "HandRow" "GivenRow" = some false := by decide +kernel
@[simp] theorem j_HandRow_bool : isiT tabI "HandRow" "bool" = some false := by decide +kernel
@[simp] theorem j_HandRow_dict : isiT tabI "HandRow" "dict" = some false := by decide +kernel
@[simp] theorem j_HandRow_int : isiT tabI "HandRow" "int" = some false := by decide +kernel
@[simp] theorem j_HandRow_list : isiT tabI "HandRow" "list" = some false := by decide +kernel
@[simp] theorem j_HandRow_tuple : isiT tabI "HandRow" "tuple" = some false := by decide +kernel
@[simp] theorem j_GivenRow_GivenRow : isiT tabI "GivenRow" "GivenRow" = some true := by decide +kernel
@[simp] theorem j_GivenRow_bool : isiT tabI "GivenRow" "bool" = some false := by decide +kernel
@[simp] theorem j_GivenRow_dict : isiT tabI "GivenRow" "dict" = some false := by decide +kernel
@[simp] theorem j_GivenRow_int : isiT tabI "GivenRow" "int" = some false := by decide +kernel
@[simp] theorem j_GivenRow_list : isiT tabI "GivenRow" "list" = some false := by decide +kernel
@[simp] theorem j_GivenRow_tuple : isiT tabI "GivenRow" "tuple" = some false := by decide +kernel
@[simp] theorem j_OwnRow_GivenRow : isiT tabI "OwnRow" "GivenRow" = some false := by decide +kernel
@[simp] theorem j_OwnRow_bool : isiT tabI "OwnRow" "bool" = some false := by decide +kernel
@[simp] theorem j_OwnRow_dict : isiT tabI "OwnRow" "dict" = some false := by decide +kernel
@[simp] theorem j_OwnRow_int : isiT tabI "OwnRow" "int" = some false := by decide +kernel
@[simp] theorem j_OwnRow_list : isiT tabI "OwnRow" "list" = some false := by decide +kernel
@[simp] theorem j_OwnRow_tuple : isiT tabI "OwnRow" "tuple" = some false := by decide +kernel
@[simp] theorem j_LetRow_GivenRow : isiT tabI "LetRow" "GivenRow" = some false := by decide +kernel
@[simp] theorem j_LetRow_bool : isiT tabI "LetRow" "bool" = some false := by decide +kernel
@[simp] theorem j_LetRow_dict : isiT tabI "LetRow" "dict" = some false := by decide +kernel
@[simp] theorem j_LetRow_int : isiT tabI "LetRow" "int" = some false := by decide +kernel
@[simp] theorem j_LetRow_list : isiT tabI "LetRow" "list" = some false := by decide +kernel
@[simp] theorem j_LetRow_tuple : isiT tabI "LetRow" "tuple" = some false := by decide +kernel
@[simp] theorem j_Program_GivenRow : isiT tabI "Program" "GivenRow" = some false := by decide +kernel
@[simp] theorem j_Program_bool : isiT tabI "Program" "bool" = some false := by decide +kernel
@[simp] theorem j_Program_dict : isiT tabI "Program" "dict" = some false := by decide +kernel
@[simp] theorem j_Program_int : isiT tabI "Program" "int" = some false := by decide +kernel
@[simp] theorem j_Program_list : isiT tabI "Program" "list" = some false := by decide +kernel
@[simp] theorem j_Program_tuple : isiT tabI "Program" "tuple" = some false := by decide +kernel
@[simp] theorem tc_HandRow : ("HandRow" ∈ tabC) = True := eq_true (by decide +kernel)
@[simp] theorem tc_GivenRow : ("GivenRow" ∈ tabC) = True := eq_true (by decide +kernel)
@[simp] theorem tc_OwnRow : ("OwnRow" ∈ tabC) = True := eq_true (by decide +kernel)
@[simp] theorem tc_LetRow : ("LetRow" ∈ tabC) = True := eq_true (by decide +kernel)
@[simp] theorem tc_Program : ("Program" ∈ tabC) = True := eq_true (by decide +kernel)
theorem hi_HandRow {g : Cfg} {n : Nat} (h : 2 ≤ n) (vs : List Val) (M : Mem) (hl : vs.length = 3) : cal g lw.fds n 1 (.ref M.length :: vs) (M ++ [.ins "HandRow" []]) = .ok .non (M ++ [.ins "HandRow" (List.zip ["number", "name", "rank"] vs)]) := by
  obtain ⟨m, rfl⟩ : ∃ m, n = m + 2 := ⟨n - 2, by omega⟩
  match vs, hl with
  | [v0, v1, v2], _ =>
    refine ev_eq ?_
    simp (maxDischargeDepth := 8) [c_Row___init__, d_Row___init__, c_HandRow___init__, d_HandRow___init__]
theorem hi_GivenRow {g : Cfg} {n : Nat} (h : 2 ≤ n) (vs : List Val) (M : Mem) (hl : vs.length = 4) : cal g lw.fds n 2 (.ref M.length :: vs) (M ++ [.ins "GivenRow" []]) = .ok .non (M ++ [.ins "GivenRow" (List.zip ["number", "name", "rank", "size"] vs)]) := by
  obtain ⟨m, rfl⟩ : ∃ m, n = m + 2 := ⟨n - 2, by omega⟩
  match vs, hl with
  | [v0, v1, v2, v3], _ =>
    refine ev_eq ?_
    simp (maxDischargeDepth := 8) [c_Row___init__, d_Row___init__, c_GivenRow___init__, d_GivenRow___init__]
theorem hi_OwnRow {g : Cfg} {n : Nat} (h : 2 ≤ n) (vs : List Val) (M : Mem) (hl : vs.length = 3) : cal g lw.fds n 3 (.ref M.length :: vs) (M ++ [.ins "OwnRow" []]) = .ok .non (M ++ [.ins "OwnRow" (List.zip ["number", "name", "size"] vs)]) := by
  obtain ⟨m, rfl⟩ : ∃ m, n = m + 2 := ⟨n - 2, by omega⟩
  match vs, hl with
  | [v0, v1, v2], _ =>
    refine ev_eq ?_
    simp (maxDischargeDepth := 8) [c_Row___init__, d_Row___init__, c_OwnRow___init__, d_OwnRow___init__]
theorem hi_LetRow {g : Cfg} {n : Nat} (h : 2 ≤ n) (vs : List Val) (M : Mem) (hl : vs.length = 3) : cal g lw.fds n 4 (.ref M.length :: vs) (M ++ [.ins "LetRow" []]) = .ok .non (M ++ [.ins "LetRow" (List.zip ["number", "name", "rank"] vs)]) := by
  obtain ⟨m, rfl⟩ : ∃ m, n = m + 2 := ⟨n - 2, by omega⟩
  match vs, hl with
  | [v0, v1, v2], _ =>
    refine ev_eq ?_
    simp (maxDischargeDepth := 8) [c_Row___init__, d_Row___init__, c_LetRow___init__, d_LetRow___init__]
theorem hi_Program {g : Cfg} {n : Nat} (h : 1 ≤ n) (vs : List Val) (M : Mem) (hl : vs.length = 3) : cal g lw.fds n 5 (.ref M.length :: vs) (M ++ [.ins "Program" []]) = .ok .non (M ++ [.ins "Program" (List.zip ["heads", "deeds", "main"] vs)]) := by
  obtain ⟨m, rfl⟩ : ∃ m, n = m + 1 := ⟨n - 1, by omega⟩
  match vs, hl with
  | [v0, v1, v2], _ =>
    refine ev_eq ?_
    simp (maxDischargeDepth := 8) [c_Program___init__, d_Program___init__]
def t_Row___init__ (n : Nat) (c : Nat → Tr.Fn) : Tr.Ds := Tr.sNever
def t_HandRow___init__ (n : Nat) (c : Nat → Tr.Fn) : Tr.Ds := Tr.sNever
def t_GivenRow___init__ (n : Nat) (c : Nat → Tr.Fn) : Tr.Ds := Tr.sNever
def t_OwnRow___init__ (n : Nat) (c : Nat → Tr.Fn) : Tr.Ds := Tr.sNever
def t_LetRow___init__ (n : Nat) (c : Nat → Tr.Fn) : Tr.Ds := Tr.sNever
def t_Program___init__ (n : Nat) (c : Nat → Tr.Fn) : Tr.Ds := Tr.sNever
def t_base_gifts (n : Nat) (c : Nat → Tr.Fn) : Tr.Ds :=
  Tr.sSeq (Tr.sSet 2 (Tr.eCell (Tr.eDk)))
      (Tr.sSeq (Tr.sFor (Tr.iSeq (Tr.eFld tabF (Tr.eV 0) "heads")) (Tr.tNm 3) (Tr.sSeq (Tr.sIf (Tr.eNot (Tr.eIsi tabI tabC (Tr.eV 3) "GivenRow")) (Tr.sCont) (Tr.sSkip))
      (Tr.sSeq (Tr.sSet 4 (Tr.eB Tr.tMul (Tr.eV 1) (Tr.eB Tr.tAdd (Tr.eF Tr.tLen (Tr.aCons (Tr.eV 2) (Tr.aNil))) (Tr.eC (.int 1)))))
      (Tr.sIf (Tr.eB (Tr.tEq false) (Tr.eFld tabF (Tr.eV 3) "size") (Tr.eC (.int 0))) (Tr.sSubC (Tr.eV 2) (Tr.eFld tabF (Tr.eV 3) "name") (Tr.eV 4)) (Tr.sSubC (Tr.eV 2) (Tr.eFld tabF (Tr.eV 3) "name") (Tr.eCell (Tr.eComp (Tr.iR1 (Tr.aCons (Tr.eFld tabF (Tr.eV 3) "size") (Tr.aNil))) (Tr.tNm 5) (Tr.cYes) (Tr.eB Tr.tAdd (Tr.eV 4) (Tr.eV 5)) [5])))))))
      (Tr.sRet (Tr.eV 2)))
def t_raised (n : Nat) (c : Nat → Tr.Fn) : Tr.Ds :=
  Tr.sSeq (Tr.sIf (Tr.eIsi tabI tabC (Tr.eV 0) "list") (Tr.sRet (Tr.eCell (Tr.eComp (Tr.iSeq (Tr.eV 0)) (Tr.tNm 2) (Tr.cYes) (Tr.eB Tr.tAdd (Tr.eV 2) (Tr.eV 1)) [2]))) (Tr.sSkip))
      (Tr.sRet (Tr.eB Tr.tAdd (Tr.eV 0) (Tr.eV 1)))
def t_tried (n : Nat) (c : Nat → Tr.Fn) : Tr.Ds :=
  Tr.sSeq (Tr.sSet 2 (Tr.eLst (Tr.aNil)))
      (Tr.sSeq (Tr.sFor (Tr.iR1 (Tr.aCons (Tr.eC (.int 4)) (Tr.aNil))) (Tr.tNm 3) (Tr.sFor (Tr.iSeq (Tr.eC (.tup [(.int 1), (.int 2), (.int 5)]))) (Tr.tNm 4) (Tr.sSeq (Tr.sSet 5 (Tr.eArg 2 [] (c 6) (Tr.aCons (Tr.eV 0) (Tr.aCons (Tr.eV 3) (Tr.aNil)))))
      (Tr.sSeq (Tr.sSubC (Tr.eV 5) (Tr.eV 1) (Tr.eArg 2 [] (c 7) (Tr.aCons (Tr.eB Tr.tIx (Tr.eV 5) (Tr.eV 1)) (Tr.aCons (Tr.eV 4) (Tr.aNil)))))
      (Tr.sMut Tr.pAppend 2 (Tr.aCons (Tr.eTup (Tr.aCons (Tr.eArg 2 [] (c 6) (Tr.aCons (Tr.eV 0) (Tr.aCons (Tr.eV 3) (Tr.aNil)))) (Tr.aCons (Tr.eV 5) (Tr.aNil)))) (Tr.aNil)))))))
      (Tr.sRet (Tr.eV 2)))
def t__law_cell_at (n : Nat) (c : Nat → Tr.Fn) : Tr.Ds :=
  Tr.sSeq (Tr.sIf (Tr.eB (Tr.tCmp fun i j => decide (i < j)) (Tr.eV 1) (Tr.eF Tr.tLen (Tr.aCons (Tr.eV 0) (Tr.aNil)))) (Tr.sRet (Tr.eB Tr.tIx (Tr.eV 0) (Tr.eV 1))) (Tr.sSkip))
      (Tr.sRet (Tr.eC (.int 0)))
def t__law_name (n : Nat) (c : Nat → Tr.Fn) : Tr.Ds :=
  Tr.sSeq (Tr.sSet 2 (Tr.eC (.str [97, 98, 99, 100, 101, 102, 103, 104, 105, 106, 107, 108, 109, 110, 111, 112, 113, 114, 115, 116, 117, 118, 119, 120, 121, 122])))
      (Tr.sSeq (Tr.sSet 3 (Tr.eB Tr.tMod (Tr.eV 0) (Tr.eC (.int 4))))
      (Tr.sSeq (Tr.sIf (Tr.eB (Tr.tEq false) (Tr.eV 3) (Tr.eC (.int 0))) (Tr.sSeq (Tr.sSet 4 (Tr.eC (.str [115, 101, 116, 32, 112, 117, 116, 32, 115, 101, 110, 100, 32, 115, 97, 121, 32, 98, 121, 32, 105, 102, 32, 101, 108, 115, 101, 32, 101, 110, 100, 32, 108, 111, 111, 112, 32, 109, 111, 115, 116, 32, 105, 100, 108, 101, 32, 108, 97, 115, 116, 32, 99, 97, 108, 108, 32, 100, 101, 101, 100, 32, 109, 97, 105, 110, 32, 97, 116, 32, 111, 118, 101, 114, 32, 114, 101, 115, 116])))
      (Tr.sRet (Tr.eB Tr.tIx (Tr.eM Tr.tSplit (Tr.eB Tr.tAdd (Tr.eV 4) (Tr.eC (.str [32, 104, 97, 110, 100, 32, 103, 105, 118, 101, 110, 32, 111, 119, 110, 32, 108, 101, 116, 32, 111, 112, 101, 110, 32, 104, 111, 117, 115, 101, 32, 99, 108, 111, 115, 101, 100]))) (Tr.aCons (Tr.eC (.str [32])) (Tr.aNil))) (Tr.eB Tr.tMod (Tr.eB Tr.tAdd (Tr.eB Tr.tMod (Tr.eB Tr.tDiv (Tr.eV 0) (Tr.eC (.int 4))) (Tr.eC (.int 25))) (Tr.eV 1)) (Tr.eC (.int 25)))))) (Tr.sSkip))
      (Tr.sSeq (Tr.sIf (Tr.eB (Tr.tEq false) (Tr.eV 3) (Tr.eC (.int 1))) (Tr.sRet (Tr.eB Tr.tMul (Tr.eB Tr.tIx (Tr.eV 2) (Tr.eB Tr.tMod (Tr.eB Tr.tAdd (Tr.eB Tr.tMod (Tr.eB Tr.tDiv (Tr.eV 0) (Tr.eC (.int 4))) (Tr.eC (.int 26))) (Tr.eB Tr.tDiv (Tr.eV 1) (Tr.eC (.int 8)))) (Tr.eC (.int 26)))) (Tr.eB Tr.tAdd (Tr.eB Tr.tMod (Tr.eV 1) (Tr.eC (.int 8))) (Tr.eC (.int 1))))) (Tr.sSkip))
      (Tr.sSeq (Tr.sSet 5 (Tr.eB Tr.tMod (Tr.eB Tr.tDiv (Tr.eV 0) (Tr.eC (.int 4))) (Tr.eC (.int 8))))
      (Tr.sSeq (Tr.sSet 6 (Tr.eB Tr.tMod (Tr.eB Tr.tDiv (Tr.eV 0) (Tr.eC (.int 32))) (Tr.eB Tr.tAdd (Tr.eV 5) (Tr.eC (.int 1)))))
      (Tr.sSeq (Tr.sSet 7 (Tr.eB Tr.tMul (Tr.eB Tr.tIx (Tr.eV 2) (Tr.eB Tr.tMod (Tr.eB Tr.tDiv (Tr.eV 0) (Tr.eC (.int 288))) (Tr.eC (.int 26)))) (Tr.eV 5)))
      (Tr.sRet (Tr.eB Tr.tAdd (Tr.eB Tr.tAdd (Tr.eSl (Tr.eV 7) (Tr.oNone) (Tr.oSome (Tr.eV 6))) (Tr.eB Tr.tIx (Tr.eV 2) (Tr.eB Tr.tMod (Tr.eB Tr.tAdd (Tr.eV 1) (Tr.eB Tr.tMod (Tr.eB Tr.tDiv (Tr.eV 0) (Tr.eC (.int 7488))) (Tr.eC (.int 26)))) (Tr.eC (.int 26))))) (Tr.eSl (Tr.eV 7) (Tr.oSome (Tr.eV 6)) (Tr.oNone))))))))))
def t__law_head (n : Nat) (c : Nat → Tr.Fn) : Tr.Ds :=
  Tr.sSeq (Tr.sSet 3 (Tr.eB Tr.tIx (Tr.eLst (Tr.aCons (Tr.eC (.int 0)) (Tr.aCons (Tr.eC (.int 0)) (Tr.aCons (Tr.eB Tr.tAdd (Tr.eC (.int 1)) (Tr.eB Tr.tMod (Tr.eB Tr.tDiv (Tr.eV 0) (Tr.eC (.int 24))) (Tr.eC (.int 20)))) (Tr.aCons (Tr.eB Tr.tAdd (Tr.eC (.int 1)) (Tr.eB Tr.tMod (Tr.eB Tr.tDiv (Tr.eV 0) (Tr.eC (.int 24))) (Tr.eC (.int 3)))) (Tr.aNil)))))) (Tr.eB Tr.tMod (Tr.eB Tr.tDiv (Tr.eV 0) (Tr.eC (.int 6))) (Tr.eC (.int 4)))))
      (Tr.sSeq (Tr.sIf (Tr.eAnd (Tr.eB (Tr.tCmp fun i j => decide (j < i)) (Tr.eV 1) (Tr.eC (.int 0))) (Tr.eB (Tr.tEq false) (Tr.eB Tr.tMod (Tr.eV 0) (Tr.eC (.int 6))) (Tr.eC (.int 4)))) (Tr.sRet (Tr.eNewV (decide (2 ≤ n)) "HandRow" ["number", "name", "rank"] (Tr.aCons (Tr.eB Tr.tAdd (Tr.eV 1) (Tr.eC (.int 1))) (Tr.aCons (Tr.eV 2) (Tr.aCons (Tr.eB Tr.tMod (Tr.eB Tr.tDiv (Tr.eV 0) (Tr.eC (.int 6))) (Tr.eC (.int 3))) (Tr.aNil)))))) (Tr.sSkip))
      (Tr.sSeq (Tr.sIf (Tr.eAnd (Tr.eB (Tr.tCmp fun i j => decide (j < i)) (Tr.eV 1) (Tr.eC (.int 0))) (Tr.eB (Tr.tEq false) (Tr.eB Tr.tMod (Tr.eV 0) (Tr.eC (.int 6))) (Tr.eC (.int 5)))) (Tr.sRet (Tr.eNewV (decide (2 ≤ n)) "LetRow" ["number", "name", "rank"] (Tr.aCons (Tr.eB Tr.tAdd (Tr.eV 1) (Tr.eC (.int 1))) (Tr.aCons (Tr.eV 2) (Tr.aCons (Tr.eB Tr.tMod (Tr.eB Tr.tDiv (Tr.eV 0) (Tr.eC (.int 6))) (Tr.eC (.int 3))) (Tr.aNil)))))) (Tr.sSkip))
      (Tr.sSeq (Tr.sIf (Tr.eAnd (Tr.eB (Tr.tCmp fun i j => decide (j < i)) (Tr.eV 1) (Tr.eC (.int 0))) (Tr.eB (Tr.tCmp fun i j => decide (j < i)) (Tr.eB Tr.tMod (Tr.eV 0) (Tr.eC (.int 6))) (Tr.eC (.int 2)))) (Tr.sRet (Tr.eNewV (decide (2 ≤ n)) "OwnRow" ["number", "name", "size"] (Tr.aCons (Tr.eB Tr.tAdd (Tr.eV 1) (Tr.eC (.int 1))) (Tr.aCons (Tr.eV 2) (Tr.aCons (Tr.eV 3) (Tr.aNil)))))) (Tr.sSkip))
      (Tr.sRet (Tr.eNewV (decide (2 ≤ n)) "GivenRow" ["number", "name", "rank", "size"] (Tr.aCons (Tr.eB Tr.tAdd (Tr.eV 1) (Tr.eC (.int 1))) (Tr.aCons (Tr.eV 2) (Tr.aCons (Tr.eB Tr.tMod (Tr.eB Tr.tDiv (Tr.eV 0) (Tr.eC (.int 480))) (Tr.eC (.int 3))) (Tr.aCons (Tr.eV 3) (Tr.aNil))))))))))
def t__law_due (n : Nat) (c : Nat → Tr.Fn) : Tr.Ds :=
  Tr.sSeq (Tr.sSet 4 (Tr.eDk))
      (Tr.sSeq (Tr.sFor (Tr.iR1 (Tr.aCons (Tr.eF Tr.tLen (Tr.aCons (Tr.eV 0) (Tr.aNil))) (Tr.aNil))) (Tr.tNm 5) (Tr.sSeq (Tr.sSet 6 (Tr.eB Tr.tMul (Tr.eV 1) (Tr.eB Tr.tAdd (Tr.eV 5) (Tr.eC (.int 1)))))
      (Tr.sSeq (Tr.sIf (Tr.eB (Tr.tEq false) (Tr.eFld tabF (Tr.eB Tr.tIx (Tr.eV 0) (Tr.eV 5)) "name") (Tr.eV 2)) (Tr.sSet 6 (Tr.eB Tr.tAdd (Tr.eV 6) (Tr.eV 3))) (Tr.sSkip))
      (Tr.sSeq (Tr.sSub 4 (Tr.eFld tabF (Tr.eB Tr.tIx (Tr.eV 0) (Tr.eV 5)) "name") (Tr.eV 6))
      (Tr.sIf (Tr.eB (Tr.tCmp fun i j => decide (j < i)) (Tr.eFld tabF (Tr.eB Tr.tIx (Tr.eV 0) (Tr.eV 5)) "size") (Tr.eC (.int 0))) (Tr.sSub 4 (Tr.eFld tabF (Tr.eB Tr.tIx (Tr.eV 0) (Tr.eV 5)) "name") (Tr.eComp (Tr.iR1 (Tr.aCons (Tr.eFld tabF (Tr.eB Tr.tIx (Tr.eV 0) (Tr.eV 5)) "size") (Tr.aNil))) (Tr.tNm 7) (Tr.cYes) (Tr.eB Tr.tAdd (Tr.eV 6) (Tr.eV 7)) [7])) (Tr.sSkip))))))
      (Tr.sRet (Tr.eV 4)))
def t__law_same (n : Nat) (c : Nat → Tr.Fn) : Tr.Ds :=
  Tr.sSeq (Tr.sIf (Tr.eOr (Tr.eNot (Tr.eIsi tabI tabC (Tr.eV 0) "dict")) (Tr.eB (Tr.tEq true) (Tr.eF Tr.tLen (Tr.aCons (Tr.eV 0) (Tr.aNil))) (Tr.eF Tr.tLen (Tr.aCons (Tr.eV 1) (Tr.aNil))))) (Tr.sRet (Tr.eC (.bl false))) (Tr.sSkip))
      (Tr.sSeq (Tr.sForD Tr.iKs (Tr.eV 1) (Tr.tNm 2) (Tr.sSeq (Tr.sIf (Tr.eOr (Tr.eB (Tr.tIn true) (Tr.eV 2) (Tr.eV 0)) (Tr.eB (Tr.tEq true) (Tr.eIsi tabI tabC (Tr.eB Tr.tIx (Tr.eV 0) (Tr.eV 2)) "list") (Tr.eIsi tabI tabC (Tr.eB Tr.tIx (Tr.eV 1) (Tr.eV 2)) "list"))) (Tr.sRet (Tr.eC (.bl false))) (Tr.sSkip))
      (Tr.sSeq (Tr.sSet 3 (Tr.eB Tr.tIx (Tr.eV 0) (Tr.eV 2)))
      (Tr.sSeq (Tr.sIf (Tr.eNot (Tr.eIsi tabI tabC (Tr.eV 3) "list")) (Tr.sSet 3 (Tr.eLst (Tr.aCons (Tr.eV 3) (Tr.aNil)))) (Tr.sSkip))
      (Tr.sIf (Tr.eNot (Tr.eF Tr.tAll (Tr.aCons (Tr.eComp (Tr.iSeq (Tr.eV 3)) (Tr.tNm 4) (Tr.cYes) (Tr.eAnd (Tr.eIsi tabI tabC (Tr.eV 4) "int") (Tr.eNot (Tr.eIsi tabI tabC (Tr.eV 4) "bool"))) [4]) (Tr.aNil)))) (Tr.sRet (Tr.eC (.bl false))) (Tr.sSkip))))))
      (Tr.sRet (Tr.eB (Tr.tEq false) (Tr.eV 0) (Tr.eV 1))))
def t__law_right (n : Nat) (c : Nat → Tr.Fn) : Tr.Ds :=
  Tr.sSeq (Tr.sIf (Tr.eOr (Tr.eNot (Tr.eIsi tabI tabC (Tr.eV 0) "list")) (Tr.eB (Tr.tEq true) (Tr.eF Tr.tLen (Tr.aCons (Tr.eV 0) (Tr.aNil))) (Tr.eC (.int 12)))) (Tr.sRet (Tr.eC (.bl false))) (Tr.sSkip))
      (Tr.sSeq (Tr.sFor (Tr.iR1 (Tr.aCons (Tr.eC (.int 12)) (Tr.aNil))) (Tr.tNm 3) (Tr.sSeq (Tr.sSet 4 (Tr.eB Tr.tIx (Tr.eV 0) (Tr.eV 3)))
      (Tr.sSeq (Tr.sIf (Tr.eOr (Tr.eNot (Tr.eIsi tabI tabC (Tr.eV 4) "tuple")) (Tr.eB (Tr.tEq true) (Tr.eF Tr.tLen (Tr.aCons (Tr.eV 4) (Tr.aNil))) (Tr.eC (.int 2)))) (Tr.sRet (Tr.eC (.bl false))) (Tr.sSkip))
      (Tr.sFor (Tr.iSeq (Tr.eB Tr.tIx (Tr.eLst (Tr.aCons (Tr.eTup (Tr.aCons (Tr.eC (.int 0)) (Tr.aCons (Tr.eC (.int 1)) (Tr.aNil)))) (Tr.aCons (Tr.eTup (Tr.aCons (Tr.eC (.int 1)) (Tr.aCons (Tr.eC (.int 0)) (Tr.aNil)))) (Tr.aNil)))) (Tr.eB Tr.tMod (Tr.eV 3) (Tr.eC (.int 2))))) (Tr.tNm 5) (Tr.sSeq (Tr.sIf (Tr.eNot (Tr.eTru (Tr.eArg 2 [] (c 13) (Tr.aCons (Tr.eB Tr.tIx (Tr.eV 4) (Tr.eV 5)) (Tr.aCons (Tr.eArg 4 [] (c 12) (Tr.aCons (Tr.eV 1) (Tr.aCons (Tr.eB Tr.tDiv (Tr.eV 3) (Tr.eC (.int 3))) (Tr.aCons (Tr.eV 2) (Tr.aCons (Tr.eB Tr.tMul (Tr.eV 5) (Tr.eB Tr.tIx (Tr.eLst (Tr.aCons (Tr.eC (.int 1)) (Tr.aCons (Tr.eC (.int 2)) (Tr.aCons (Tr.eC (.int 5)) (Tr.aNil))))) (Tr.eB Tr.tMod (Tr.eV 3) (Tr.eC (.int 3))))) (Tr.aNil)))))) (Tr.aNil)))))) (Tr.sRet (Tr.eC (.bl false))) (Tr.sSkip))
      (Tr.sFor (Tr.iSeq (Tr.eF Tr.tListX (Tr.aCons (Tr.eB Tr.tIx (Tr.eV 4) (Tr.eV 5)) (Tr.aNil)))) (Tr.tNm 6) (Tr.sSeq (Tr.sIf (Tr.eIsi tabI tabC (Tr.eB Tr.tIx (Tr.eB Tr.tIx (Tr.eV 4) (Tr.eV 5)) (Tr.eV 6)) "list") (Tr.sSubC (Tr.eB Tr.tIx (Tr.eB Tr.tIx (Tr.eV 4) (Tr.eV 5)) (Tr.eV 6)) (Tr.eC (.int 0)) (Tr.eC (.int 99))) (Tr.sSkip))
      (Tr.sSubC (Tr.eB Tr.tIx (Tr.eV 4) (Tr.eV 5)) (Tr.eV 6) (Tr.eC (.int 99))))))))))
      (Tr.sRet (Tr.eC (.bl true))))
def t_law (n : Nat) (c : Nat → Tr.Fn) : Tr.Ds :=
  Tr.sSeq (Tr.sSet 1 (Tr.eLst (Tr.aNil)))
      (Tr.sSeq (Tr.sSet 2 (Tr.eB Tr.tAdd (Tr.eLst (Tr.aCons (Tr.eArg 2 [] (c 9) (Tr.aCons (Tr.eV 0) (Tr.aCons (Tr.eC (.int 2)) (Tr.aNil)))) (Tr.aNil))) (Tr.eSl (Tr.eV 0) (Tr.oSome (Tr.eC (.int 3))) (Tr.oSome (Tr.eC (.int 26))))))
      (Tr.sSeq (Tr.sFor (Tr.iR1 (Tr.aCons (Tr.eF Tr.tLen (Tr.aCons (Tr.eV 2) (Tr.aNil))) (Tr.aNil))) (Tr.tNm 3) (Tr.sMut Tr.pAppend 1 (Tr.aCons (Tr.eArg 3 [] (c 11) (Tr.aCons (Tr.eB Tr.tIx (Tr.eV 2) (Tr.eV 3)) (Tr.aCons (Tr.eV 3) (Tr.aCons (Tr.eArg 2 [] (c 10) (Tr.aCons (Tr.eArg 2 [] (c 9) (Tr.aCons (Tr.eV 0) (Tr.aCons (Tr.eC (.int 1)) (Tr.aNil)))) (Tr.aCons (Tr.eV 3) (Tr.aNil)))) (Tr.aNil))))) (Tr.aNil))))
      (Tr.sSeq (Tr.sSet 4 (Tr.eComp (Tr.iSeq (Tr.eV 1)) (Tr.tNm 8) (Tr.eIsi tabI tabC (Tr.eV 8) "GivenRow") (Tr.eV 8) [8]))
      (Tr.sSeq (Tr.sSet 5 (Tr.eFld tabF (Tr.eB Tr.tIx (Tr.eV 4) (Tr.eB Tr.tMod (Tr.eArg 2 [] (c 9) (Tr.aCons (Tr.eV 0) (Tr.aCons (Tr.eC (.int 0)) (Tr.aNil)))) (Tr.eF Tr.tLen (Tr.aCons (Tr.eV 4) (Tr.aNil))))) "name"))
      (Tr.sSeq (Tr.sSet 6 (Tr.eNewV (decide (1 ≤ n)) "Program" ["heads", "deeds", "main"] (Tr.aCons (Tr.eV 1) (Tr.aCons (Tr.eLst (Tr.aNil)) (Tr.aCons (Tr.eLst (Tr.aNil)) (Tr.aNil))))))
      (Tr.sSeq (Tr.sIf (Tr.eNot (Tr.eTru (Tr.eArg 3 [] (c 14) (Tr.aCons (Tr.eArg 2 [] (c 8) (Tr.aCons (Tr.eV 6) (Tr.aCons (Tr.eV 5) (Tr.aNil)))) (Tr.aCons (Tr.eV 4) (Tr.aCons (Tr.eV 5) (Tr.aNil))))))) (Tr.sRet (Tr.eC (.bl false))) (Tr.sSkip))
      (Tr.sSeq (Tr.sSet 7 (Tr.eFld tabF (Tr.eB Tr.tIx (Tr.eV 4) (Tr.eB Tr.tMod (Tr.eB Tr.tDiv (Tr.eArg 2 [] (c 9) (Tr.aCons (Tr.eV 0) (Tr.aCons (Tr.eC (.int 0)) (Tr.aNil)))) (Tr.eC (.int 24))) (Tr.eF Tr.tLen (Tr.aCons (Tr.eV 4) (Tr.aNil))))) "name"))
      (Tr.sRet (Tr.eAnd (Tr.eArg 3 [] (c 14) (Tr.aCons (Tr.eArg 2 [] (c 8) (Tr.aCons (Tr.eV 6) (Tr.aCons (Tr.eV 7) (Tr.aNil)))) (Tr.aCons (Tr.eV 4) (Tr.aCons (Tr.eV 7) (Tr.aNil))))) (Tr.eArg 3 [] (c 14) (Tr.aCons (Tr.eArg 2 [] (c 8) (Tr.aCons (Tr.eV 6) (Tr.aCons (Tr.eV 5) (Tr.aNil)))) (Tr.aCons (Tr.eV 4) (Tr.aCons (Tr.eV 5) (Tr.aNil))))))))))))))
def td_Row___init__ : Tr.TD := ⟨2, false, false, t_Row___init__⟩
def td_HandRow___init__ : Tr.TD := ⟨4, false, false, t_HandRow___init__⟩
def td_GivenRow___init__ : Tr.TD := ⟨5, false, false, t_GivenRow___init__⟩
def td_OwnRow___init__ : Tr.TD := ⟨4, false, false, t_OwnRow___init__⟩
def td_LetRow___init__ : Tr.TD := ⟨4, false, false, t_LetRow___init__⟩
def td_Program___init__ : Tr.TD := ⟨4, false, false, t_Program___init__⟩
def td_base_gifts : Tr.TD := ⟨6, false, false, t_base_gifts⟩
def td_raised : Tr.TD := ⟨3, false, false, t_raised⟩
def td_tried : Tr.TD := ⟨6, true, false, t_tried⟩
def td__law_cell_at : Tr.TD := ⟨2, false, false, t__law_cell_at⟩
def td__law_name : Tr.TD := ⟨8, false, false, t__law_name⟩
def td__law_head : Tr.TD := ⟨4, true, false, t__law_head⟩
def td__law_due : Tr.TD := ⟨8, true, false, t__law_due⟩
def td__law_same : Tr.TD := ⟨5, true, false, t__law_same⟩
def td__law_right : Tr.TD := ⟨7, true, false, t__law_right⟩
def td_law : Tr.TD := ⟨9, false, false, t_law⟩
def tds : List Tr.TD := [td_Row___init__, td_HandRow___init__, td_GivenRow___init__, td_OwnRow___init__, td_LetRow___init__, td_Program___init__, td_base_gifts, td_raised, td_tried, td__law_cell_at, td__law_name, td__law_head, td__law_due, td__law_same, td__law_right, td_law]
section
variable {g : Cfg} (hg : ∀ k, k ≠ 0 → g.con k = lw.con k)
include hg
theorem tk_Row___init__ : Tr.TOk g lw.fds tds fd_Row___init__ td_Row___init__ := Tr.t_never rfl rfl
theorem tk_HandRow___init__ : Tr.TOk g lw.fds tds fd_HandRow___init__ td_HandRow___init__ := Tr.t_never rfl rfl
theorem tk_GivenRow___init__ : Tr.TOk g lw.fds tds fd_GivenRow___init__ td_GivenRow___init__ := Tr.t_never rfl rfl
theorem tk_OwnRow___init__ : Tr.TOk g lw.fds tds fd_OwnRow___init__ td_OwnRow___init__ := Tr.t_never rfl rfl
theorem tk_LetRow___init__ : Tr.TOk g lw.fds tds fd_LetRow___init__ td_LetRow___init__ := Tr.t_never rfl rfl
theorem tk_Program___init__ : Tr.TOk g lw.fds tds fd_Program___init__ td_Program___init__ := Tr.t_never rfl rfl
theorem tk_base_gifts : Tr.TOk g lw.fds tds fd_base_gifts td_base_gifts := ⟨rfl, fun n hC => ⟨[], [], by
  show Tr.TS g [] (d_base_gifts g (cal g lw.fds n)) (t_base_gifts n (Tr.tal tds n)) [] [] false
  unfold d_base_gifts t_base_gifts
  exact Tr.z_seq [] (Tr.z_set (Tr.xcell (Tr.xdk)))
      (Tr.z_seq [] (Tr.z_for [] (Tr.xi_seq (Tr.xfld ((Tr.x_v).p))) Tr.xt_nm (Tr.z_seq [] (Tr.ts_if ((Tr.xnot ((Tr.xisi ((Tr.x_v).p)).p)).p) (Tr.z_cont) (Tr.z_skip))
      (Tr.z_seq [] (Tr.z_set ((Tr.xbf Tr.op_mul ((Tr.x_v).p) ((Tr.xbf Tr.op_add ((Tr.xf Tr.op_len (Tr.xq_cons ((Tr.x_v).p) (Tr.xq_nil))).p) ((Tr.xc_int).p)).p)).e))
      (Tr.ts_if ((Tr.xbf Tr.op_eq ((Tr.xfld ((Tr.x_v).p)).p) ((Tr.xc_int).p)).p) (Tr.z_subc (Tr.x_v) ((Tr.xfld ((Tr.x_v).p)).p) (Tr.x_v)) (Tr.z_subc (Tr.x_v) ((Tr.xfld ((Tr.x_v).p)).p) (Tr.xcell (Tr.z_comp (Tr.xi_r1 (Tr.xq_cons ((Tr.xfld ((Tr.x_v).p)).p) (Tr.xq_nil))) Tr.xt_nm (Tr.xyes.p) ((Tr.xbf Tr.op_add ((Tr.x_v).p) ((Tr.x_v).p)).e))))))))
      (Tr.ts_ret (Tr.x_v)))⟩⟩
theorem tk_raised : Tr.TOk g lw.fds tds fd_raised td_raised := ⟨rfl, fun n hC => ⟨[], [], by
  show Tr.TS g [] (d_raised g (cal g lw.fds n)) (t_raised n (Tr.tal tds n)) [] [] false
  unfold d_raised t_raised
  exact Tr.z_seq [] (Tr.ts_if ((Tr.xisi ((Tr.x_v).p)).p) (Tr.ts_ret (Tr.xcell (Tr.z_comp (Tr.xi_seq (Tr.x_v)) Tr.xt_nm (Tr.xyes.p) ((Tr.xbf Tr.op_add ((Tr.x_v).p) ((Tr.x_v).p)).e)))) (Tr.z_skip))
      (Tr.ts_retf (Tr.xbf Tr.op_add ((Tr.x_v).p) ((Tr.x_v).p)))⟩⟩
theorem tk_tried : Tr.TOk g lw.fds tds fd_tried td_tried := ⟨rfl, fun n hC => ⟨[], [], by
  show Tr.TS g [] (d_tried g (cal g lw.fds n)) (t_tried n (Tr.tal tds n)) [] [] true
  unfold d_tried t_tried
  exact Tr.z_seq [2] (Tr.z_setf (Tr.xlst (Tr.xa_nil)))
      (Tr.z_seq [2] (Tr.z_for [2] (Tr.xi_r1 (Tr.xq_cons ((Tr.xc_int).p) (Tr.xq_nil))) Tr.xt_nm (Tr.z_for [2] (Tr.xi_seq (Tr.xc_con ((hg 1 (by decide)).trans rfl) rfl)) Tr.xt_nm (Tr.z_seq [2] (Tr.z_set (Tr.xarg (hC 6 td_base_gifts rfl) (Tr.xa_cons (Tr.x_v) (Tr.xa_cons (Tr.x_v) (Tr.xa_nil)))))
      (Tr.z_seq [2] (Tr.z_subc (Tr.x_v) ((Tr.x_v).p) (Tr.xarg (hC 7 td_raised rfl) (Tr.xa_cons (Tr.xb Tr.op_ix ((Tr.x_v).p) ((Tr.x_v).p)) (Tr.xa_cons (Tr.x_v) (Tr.xa_nil)))))
      (Tr.z_mut Tr.lm_append (Tr.xa_cons (Tr.xtup (Tr.xa_cons (Tr.xarg (hC 6 td_base_gifts rfl) (Tr.xa_cons (Tr.x_v) (Tr.xa_cons (Tr.x_v) (Tr.xa_nil)))) (Tr.xa_cons (Tr.x_v) (Tr.xa_nil)))) (Tr.xa_nil)))))))
      (Tr.z_retv))⟩⟩
theorem tk__law_cell_at : Tr.TOk g lw.fds tds fd__law_cell_at td__law_cell_at := ⟨rfl, fun n hC => ⟨[], [], by
  show Tr.TS g [] (d__law_cell_at g (cal g lw.fds n)) (t__law_cell_at n (Tr.tal tds n)) [] [] false
  unfold d__law_cell_at t__law_cell_at
  exact Tr.z_seq [] (Tr.ts_if ((Tr.xbf Tr.op_cmp ((Tr.x_v).p) ((Tr.xf Tr.op_len (Tr.xq_cons ((Tr.x_v).p) (Tr.xq_nil))).p)).p) (Tr.ts_ret (Tr.xb Tr.op_ix ((Tr.x_v).p) ((Tr.x_v).p))) (Tr.z_skip))
      (Tr.ts_retf (Tr.xc_int))⟩⟩
theorem tk__law_name : Tr.TOk g lw.fds tds fd__law_name td__law_name := ⟨rfl, fun n hC => ⟨[], [], by
  show Tr.TS g [] (d__law_name g (cal g lw.fds n)) (t__law_name n (Tr.tal tds n)) [] [] false
  unfold d__law_name t__law_name
  exact Tr.z_seq [] (Tr.z_set ((Tr.xc_str).e))
      (Tr.z_seq [] (Tr.z_set ((Tr.xbf Tr.op_mod ((Tr.x_v).p) ((Tr.xc_int).p)).e))
      (Tr.z_seq [] (Tr.ts_if ((Tr.xbf Tr.op_eq ((Tr.x_v).p) ((Tr.xc_int).p)).p) (Tr.z_seq [] (Tr.z_set ((Tr.xc_str).e))
      (Tr.ts_ret (Tr.xb Tr.op_ix ((Tr.xm Tr.op_split ((Tr.xbf Tr.op_add ((Tr.x_v).p) ((Tr.xc_str).p)).p) (Tr.xq_cons ((Tr.xc_str).p) (Tr.xq_nil))).p) ((Tr.xbf Tr.op_mod ((Tr.xbf Tr.op_add ((Tr.xbf Tr.op_mod ((Tr.xbf Tr.op_div ((Tr.x_v).p) ((Tr.xc_int).p)).p) ((Tr.xc_int).p)).p) ((Tr.x_v).p)).p) ((Tr.xc_int).p)).p)))) (Tr.z_skip))
      (Tr.z_seq [] (Tr.ts_if ((Tr.xbf Tr.op_eq ((Tr.x_v).p) ((Tr.xc_int).p)).p) (Tr.ts_retf (Tr.xbf Tr.op_mul ((Tr.xb Tr.op_ix ((Tr.x_v).p) ((Tr.xbf Tr.op_mod ((Tr.xbf Tr.op_add ((Tr.xbf Tr.op_mod ((Tr.xbf Tr.op_div ((Tr.x_v).p) ((Tr.xc_int).p)).p) ((Tr.xc_int).p)).p) ((Tr.xbf Tr.op_div ((Tr.x_v).p) ((Tr.xc_int).p)).p)).p) ((Tr.xc_int).p)).p)).p) ((Tr.xbf Tr.op_add ((Tr.xbf Tr.op_mod ((Tr.x_v).p) ((Tr.xc_int).p)).p) ((Tr.xc_int).p)).p))) (Tr.z_skip))
      (Tr.z_seq [] (Tr.z_set ((Tr.xbf Tr.op_mod ((Tr.xbf Tr.op_div ((Tr.x_v).p) ((Tr.xc_int).p)).p) ((Tr.xc_int).p)).e))
      (Tr.z_seq [] (Tr.z_set ((Tr.xbf Tr.op_mod ((Tr.xbf Tr.op_div ((Tr.x_v).p) ((Tr.xc_int).p)).p) ((Tr.xbf Tr.op_add ((Tr.x_v).p) ((Tr.xc_int).p)).p)).e))
      (Tr.z_seq [] (Tr.z_set ((Tr.xbf Tr.op_mul ((Tr.xb Tr.op_ix ((Tr.x_v).p) ((Tr.xbf Tr.op_mod ((Tr.xbf Tr.op_div ((Tr.x_v).p) ((Tr.xc_int).p)).p) ((Tr.xc_int).p)).p)).p) ((Tr.x_v).p)).e))
      (Tr.ts_retf (Tr.xbf Tr.op_add ((Tr.xbf Tr.op_add ((Tr.xsl ((Tr.x_v).p) (Tr.xo_none) (Tr.xo_some ((Tr.x_v).p))).p) ((Tr.xb Tr.op_ix ((Tr.x_v).p) ((Tr.xbf Tr.op_mod ((Tr.xbf Tr.op_add ((Tr.x_v).p) ((Tr.xbf Tr.op_mod ((Tr.xbf Tr.op_div ((Tr.x_v).p) ((Tr.xc_int).p)).p) ((Tr.xc_int).p)).p)).p) ((Tr.xc_int).p)).p)).p)).p) ((Tr.xsl ((Tr.x_v).p) (Tr.xo_some ((Tr.x_v).p)) (Tr.xo_none)).p)))))))))⟩⟩
theorem tk__law_head : Tr.TOk g lw.fds tds fd__law_head td__law_head := ⟨rfl, fun n hC => ⟨[], [], by
  show Tr.TS g [] (d__law_head g (cal g lw.fds n)) (t__law_head n (Tr.tal tds n)) [] [] true
  unfold d__law_head t__law_head
  exact Tr.z_seq [] (Tr.z_set (Tr.xb Tr.op_ix ((Tr.xlst (Tr.xa_cons ((Tr.xc_int).e) (Tr.xa_cons ((Tr.xc_int).e) (Tr.xa_cons ((Tr.xbf Tr.op_add ((Tr.xc_int).p) ((Tr.xbf Tr.op_mod ((Tr.xbf Tr.op_div ((Tr.x_v).p) ((Tr.xc_int).p)).p) ((Tr.xc_int).p)).p)).e) (Tr.xa_cons ((Tr.xbf Tr.op_add ((Tr.xc_int).p) ((Tr.xbf Tr.op_mod ((Tr.xbf Tr.op_div ((Tr.x_v).p) ((Tr.xc_int).p)).p) ((Tr.xc_int).p)).p)).e) (Tr.xa_nil)))))).p) ((Tr.xbf Tr.op_mod ((Tr.xbf Tr.op_div ((Tr.x_v).p) ((Tr.xc_int).p)).p) ((Tr.xc_int).p)).p)))
      (Tr.z_seq [] (Tr.ts_if ((Tr.xand ((Tr.xbf Tr.op_cmp ((Tr.x_v).p) ((Tr.xc_int).p)).p) ((Tr.xbf Tr.op_eq ((Tr.xbf Tr.op_mod ((Tr.x_v).p) ((Tr.xc_int).p)).p) ((Tr.xc_int).p)).e)).p) (Tr.ts_retf (Tr.xnewv (ns := ["number", "name", "rank"]) rfl (fun h => hi_HandRow (of_decide_eq_true h)) (Tr.xa_cons ((Tr.xbf Tr.op_add ((Tr.x_v).p) ((Tr.xc_int).p)).e) (Tr.xa_cons (Tr.x_v) (Tr.xa_cons ((Tr.xbf Tr.op_mod ((Tr.xbf Tr.op_div ((Tr.x_v).p) ((Tr.xc_int).p)).p) ((Tr.xc_int).p)).e) (Tr.xa_nil)))))) (Tr.z_skip))
      (Tr.z_seq [] (Tr.ts_if ((Tr.xand ((Tr.xbf Tr.op_cmp ((Tr.x_v).p) ((Tr.xc_int).p)).p) ((Tr.xbf Tr.op_eq ((Tr.xbf Tr.op_mod ((Tr.x_v).p) ((Tr.xc_int).p)).p) ((Tr.xc_int).p)).e)).p) (Tr.ts_retf (Tr.xnewv (ns := ["number", "name", "rank"]) rfl (fun h => hi_LetRow (of_decide_eq_true h)) (Tr.xa_cons ((Tr.xbf Tr.op_add ((Tr.x_v).p) ((Tr.xc_int).p)).e) (Tr.xa_cons (Tr.x_v) (Tr.xa_cons ((Tr.xbf Tr.op_mod ((Tr.xbf Tr.op_div ((Tr.x_v).p) ((Tr.xc_int).p)).p) ((Tr.xc_int).p)).e) (Tr.xa_nil)))))) (Tr.z_skip))
      (Tr.z_seq [] (Tr.ts_if ((Tr.xand ((Tr.xbf Tr.op_cmp ((Tr.x_v).p) ((Tr.xc_int).p)).p) ((Tr.xbf Tr.op_cmp ((Tr.xbf Tr.op_mod ((Tr.x_v).p) ((Tr.xc_int).p)).p) ((Tr.xc_int).p)).e)).p) (Tr.ts_retf (Tr.xnewv (ns := ["number", "name", "size"]) rfl (fun h => hi_OwnRow (of_decide_eq_true h)) (Tr.xa_cons ((Tr.xbf Tr.op_add ((Tr.x_v).p) ((Tr.xc_int).p)).e) (Tr.xa_cons (Tr.x_v) (Tr.xa_cons (Tr.x_v) (Tr.xa_nil)))))) (Tr.z_skip))
      (Tr.ts_retf (Tr.xnewv (ns := ["number", "name", "rank", "size"]) rfl (fun h => hi_GivenRow (of_decide_eq_true h)) (Tr.xa_cons ((Tr.xbf Tr.op_add ((Tr.x_v).p) ((Tr.xc_int).p)).e) (Tr.xa_cons (Tr.x_v) (Tr.xa_cons ((Tr.xbf Tr.op_mod ((Tr.xbf Tr.op_div ((Tr.x_v).p) ((Tr.xc_int).p)).p) ((Tr.xc_int).p)).e) (Tr.xa_cons (Tr.x_v) (Tr.xa_nil))))))))))⟩⟩
theorem tk__law_due : Tr.TOk g lw.fds tds fd__law_due td__law_due := ⟨rfl, fun n hC => ⟨[], [], by
  show Tr.TS g [] (d__law_due g (cal g lw.fds n)) (t__law_due n (Tr.tal tds n)) [] [] true
  unfold d__law_due t__law_due
  exact Tr.z_seq [4] (Tr.z_setf (Tr.xdk))
      (Tr.z_seq [4] (Tr.z_for [4] (Tr.xi_r1 (Tr.xq_cons ((Tr.xf Tr.op_len (Tr.xq_cons ((Tr.x_v).p) (Tr.xq_nil))).p) (Tr.xq_nil))) Tr.xt_nm (Tr.z_seq [4] (Tr.z_set ((Tr.xbf Tr.op_mul ((Tr.x_v).p) ((Tr.xbf Tr.op_add ((Tr.x_v).p) ((Tr.xc_int).p)).p)).e))
      (Tr.z_seq [4] (Tr.ts_if ((Tr.xbf Tr.op_eq ((Tr.xfld ((Tr.xb Tr.op_ix ((Tr.x_v).p) ((Tr.x_v).p)).p)).p) ((Tr.x_v).p)).p) (Tr.z_set ((Tr.xbf Tr.op_add ((Tr.x_v).p) ((Tr.x_v).p)).e)) (Tr.z_skip))
      (Tr.z_seq [4] (Tr.z_subo ((Tr.xfld ((Tr.xb Tr.op_ix ((Tr.x_v).p) ((Tr.x_v).p)).p)).p) (Tr.x_v))
      (Tr.ts_if ((Tr.xbf Tr.op_cmp ((Tr.xfld ((Tr.xb Tr.op_ix ((Tr.x_v).p) ((Tr.x_v).p)).p)).p) ((Tr.xc_int).p)).p) (Tr.z_subo ((Tr.xfld ((Tr.xb Tr.op_ix ((Tr.x_v).p) ((Tr.x_v).p)).p)).p) ((Tr.z_comp (Tr.xi_r1 (Tr.xq_cons ((Tr.xfld ((Tr.xb Tr.op_ix ((Tr.x_v).p) ((Tr.x_v).p)).p)).p) (Tr.xq_nil))) Tr.xt_nm (Tr.xyes.p) ((Tr.xbf Tr.op_add ((Tr.x_v).p) ((Tr.x_v).p)).e)).e)) (Tr.z_skip))))))
      (Tr.z_retv))⟩⟩
theorem tk__law_same : Tr.TOk g lw.fds tds fd__law_same td__law_same := ⟨rfl, fun n hC => ⟨[], [], by
  show Tr.TS g [] (d__law_same g (cal g lw.fds n)) (t__law_same n (Tr.tal tds n)) [] [] true
  unfold d__law_same t__law_same
  exact Tr.z_seq [] (Tr.ts_if ((Tr.xor ((Tr.xnot ((Tr.xisi ((Tr.x_v).p)).p)).p) ((Tr.xbf Tr.op_ne ((Tr.xf Tr.op_len (Tr.xq_cons ((Tr.x_v).p) (Tr.xq_nil))).p) ((Tr.xf Tr.op_len (Tr.xq_cons ((Tr.x_v).p) (Tr.xq_nil))).p)).e)).p) (Tr.ts_retf (Tr.xc_bl)) (Tr.z_skip))
      (Tr.z_seq [] (Tr.z_forD Tr.itd_keys [] (Tr.x_v) Tr.xt_nm (Tr.z_seq [] (Tr.ts_if ((Tr.xor ((Tr.xbf Tr.op_in ((Tr.x_v).p) ((Tr.x_v).p)).p) ((Tr.xbf Tr.op_ne ((Tr.xisi ((Tr.xb Tr.op_ix ((Tr.x_v).p) ((Tr.x_v).p)).p)).p) ((Tr.xisi ((Tr.xb Tr.op_ix ((Tr.x_v).p) ((Tr.x_v).p)).p)).p)).e)).p) (Tr.ts_retf (Tr.xc_bl)) (Tr.z_skip))
      (Tr.z_seq [] (Tr.z_set (Tr.xb Tr.op_ix ((Tr.x_v).p) ((Tr.x_v).p)))
      (Tr.z_seq [] (Tr.ts_if ((Tr.xnot ((Tr.xisi ((Tr.x_v).p)).p)).p) (Tr.z_set ((Tr.xlst (Tr.xa_cons (Tr.x_v) (Tr.xa_nil))).e)) (Tr.z_skip))
      (Tr.ts_if ((Tr.xnot ((Tr.xf Tr.op_all (Tr.xq_cons ((Tr.z_comp (Tr.xi_seq (Tr.x_v)) Tr.xt_nm (Tr.xyes.p) (Tr.xand ((Tr.xisi ((Tr.x_v).p)).p) ((Tr.xnot ((Tr.xisi ((Tr.x_v).p)).p)).e))).p) (Tr.xq_nil))).p)).p) (Tr.ts_retf (Tr.xc_bl)) (Tr.z_skip))))))
      (Tr.ts_retf (Tr.xbf Tr.op_eq ((Tr.x_v).p) ((Tr.x_v).p))))⟩⟩
theorem tk__law_right : Tr.TOk g lw.fds tds fd__law_right td__law_right := ⟨rfl, fun n hC => ⟨[], [], by
  show Tr.TS g [] (d__law_right g (cal g lw.fds n)) (t__law_right n (Tr.tal tds n)) [] [] true
  unfold d__law_right t__law_right
  exact Tr.z_seq [] (Tr.ts_if ((Tr.xor ((Tr.xnot ((Tr.xisi ((Tr.x_v).p)).p)).p) ((Tr.xbf Tr.op_ne ((Tr.xf Tr.op_len (Tr.xq_cons ((Tr.x_v).p) (Tr.xq_nil))).p) ((Tr.xc_int).p)).e)).p) (Tr.ts_retf (Tr.xc_bl)) (Tr.z_skip))
      (Tr.z_seq [] (Tr.z_for [] (Tr.xi_r1 (Tr.xq_cons ((Tr.xc_int).p) (Tr.xq_nil))) Tr.xt_nm (Tr.z_seq [] (Tr.z_set (Tr.xb Tr.op_ix ((Tr.x_v).p) ((Tr.x_v).p)))
      (Tr.z_seq [] (Tr.ts_if ((Tr.xor ((Tr.xnot ((Tr.xisi ((Tr.x_v).p)).p)).p) ((Tr.xbf Tr.op_ne ((Tr.xf Tr.op_len (Tr.xq_cons ((Tr.x_v).p) (Tr.xq_nil))).p) ((Tr.xc_int).p)).e)).p) (Tr.ts_retf (Tr.xc_bl)) (Tr.z_skip))
      (Tr.z_for [] (Tr.xi_seq (Tr.xb Tr.op_ix ((Tr.xlst (Tr.xa_cons (Tr.xtup (Tr.xa_cons ((Tr.xc_int).e) (Tr.xa_cons ((Tr.xc_int).e) (Tr.xa_nil)))) (Tr.xa_cons (Tr.xtup (Tr.xa_cons ((Tr.xc_int).e) (Tr.xa_cons ((Tr.xc_int).e) (Tr.xa_nil)))) (Tr.xa_nil)))).p) ((Tr.xbf Tr.op_mod ((Tr.x_v).p) ((Tr.xc_int).p)).p))) Tr.xt_nm (Tr.z_seq [] (Tr.ts_if ((Tr.xnot ((Tr.xtru ((Tr.xargf (hC 13 td__law_same rfl) (Tr.xa_cons (Tr.xb Tr.op_ix ((Tr.x_v).p) ((Tr.x_v).p)) (Tr.xa_cons ((Tr.xargf (hC 12 td__law_due rfl) (Tr.xa_cons (Tr.x_v) (Tr.xa_cons ((Tr.xbf Tr.op_div ((Tr.x_v).p) ((Tr.xc_int).p)).e) (Tr.xa_cons (Tr.x_v) (Tr.xa_cons ((Tr.xbf Tr.op_mul ((Tr.x_v).p) ((Tr.xb Tr.op_ix ((Tr.xlst (Tr.xa_cons ((Tr.xc_int).e) (Tr.xa_cons ((Tr.xc_int).e) (Tr.xa_cons ((Tr.xc_int).e) (Tr.xa_nil))))).p) ((Tr.xbf Tr.op_mod ((Tr.x_v).p) ((Tr.xc_int).p)).p)).p)).e) (Tr.xa_nil)))))).e) (Tr.xa_nil)))).p)).p)).p) (Tr.ts_retf (Tr.xc_bl)) (Tr.z_skip))
      (Tr.z_for [] (Tr.xi_seq ((Tr.xf Tr.op_listX (Tr.xq_cons ((Tr.xb Tr.op_ix ((Tr.x_v).p) ((Tr.x_v).p)).p) (Tr.xq_nil))).e)) Tr.xt_nm (Tr.z_seq [] (Tr.ts_if ((Tr.xisi ((Tr.xb Tr.op_ix ((Tr.xb Tr.op_ix ((Tr.x_v).p) ((Tr.x_v).p)).p) ((Tr.x_v).p)).p)).p) (Tr.z_subc (Tr.xb Tr.op_ix ((Tr.xb Tr.op_ix ((Tr.x_v).p) ((Tr.x_v).p)).p) ((Tr.x_v).p)) ((Tr.xc_int).p) ((Tr.xc_int).e)) (Tr.z_skip))
      (Tr.z_subc (Tr.xb Tr.op_ix ((Tr.x_v).p) ((Tr.x_v).p)) ((Tr.x_v).p) ((Tr.xc_int).e)))))))))
      (Tr.ts_retf (Tr.xc_bl)))⟩⟩
theorem tk_law : Tr.TOk g lw.fds tds fd_law td_law := ⟨rfl, fun n hC => ⟨[], [], by
  show Tr.TS g [] (d_law g (cal g lw.fds n)) (t_law n (Tr.tal tds n)) [] [] false
  unfold d_law t_law
  exact Tr.z_seq [1] (Tr.z_setf (Tr.xlst (Tr.xa_nil)))
      (Tr.z_seq [1] (Tr.z_set ((Tr.xbf Tr.op_add ((Tr.xlst (Tr.xa_cons (Tr.xarg (hC 9 td__law_cell_at rfl) (Tr.xa_cons (Tr.x_v) (Tr.xa_cons ((Tr.xc_int).e) (Tr.xa_nil)))) (Tr.xa_nil))).p) ((Tr.xsl ((Tr.x_v).p) (Tr.xo_some ((Tr.xc_int).p)) (Tr.xo_some ((Tr.xc_int).p))).p)).e))
      (Tr.z_seq [1] (Tr.z_for [1] (Tr.xi_r1 (Tr.xq_cons ((Tr.xf Tr.op_len (Tr.xq_cons ((Tr.x_v).p) (Tr.xq_nil))).p) (Tr.xq_nil))) Tr.xt_nm (Tr.z_mut Tr.lm_append (Tr.xa_cons ((Tr.xargf (hC 11 td__law_head rfl) (Tr.xa_cons (Tr.xb Tr.op_ix ((Tr.x_v).p) ((Tr.x_v).p)) (Tr.xa_cons (Tr.x_v) (Tr.xa_cons (Tr.xarg (hC 10 td__law_name rfl) (Tr.xa_cons (Tr.xarg (hC 9 td__law_cell_at rfl) (Tr.xa_cons (Tr.x_v) (Tr.xa_cons ((Tr.xc_int).e) (Tr.xa_nil)))) (Tr.xa_cons (Tr.x_v) (Tr.xa_nil)))) (Tr.xa_nil))))).e) (Tr.xa_nil))))
      (Tr.z_seq [] (Tr.z_sub [] (Tr.z_set ((Tr.z_comp (Tr.xi_seq (Tr.x_v)) Tr.xt_nm ((Tr.xisi ((Tr.x_v).p)).p) (Tr.x_v)).e)))
      (Tr.z_seq [] (Tr.z_set (Tr.xfld ((Tr.xb Tr.op_ix ((Tr.x_v).p) ((Tr.xbf Tr.op_mod ((Tr.xarg (hC 9 td__law_cell_at rfl) (Tr.xa_cons (Tr.x_v) (Tr.xa_cons ((Tr.xc_int).e) (Tr.xa_nil)))).p) ((Tr.xf Tr.op_len (Tr.xq_cons ((Tr.x_v).p) (Tr.xq_nil))).p)).p)).p)))
      (Tr.z_seq [] (Tr.z_set ((Tr.xnewv (ns := ["heads", "deeds", "main"]) rfl (fun h => hi_Program (of_decide_eq_true h)) (Tr.xa_cons (Tr.x_v) (Tr.xa_cons ((Tr.xlst (Tr.xa_nil)).e) (Tr.xa_cons ((Tr.xlst (Tr.xa_nil)).e) (Tr.xa_nil))))).e))
      (Tr.z_seq [] (Tr.ts_if ((Tr.xnot ((Tr.xtru ((Tr.xargf (hC 14 td__law_right rfl) (Tr.xa_cons ((Tr.xargf (hC 8 td_tried rfl) (Tr.xa_cons (Tr.x_v) (Tr.xa_cons (Tr.x_v) (Tr.xa_nil)))).e) (Tr.xa_cons (Tr.x_v) (Tr.xa_cons (Tr.x_v) (Tr.xa_nil))))).p)).p)).p) (Tr.ts_retf (Tr.xc_bl)) (Tr.z_skip))
      (Tr.z_seq [] (Tr.z_set (Tr.xfld ((Tr.xb Tr.op_ix ((Tr.x_v).p) ((Tr.xbf Tr.op_mod ((Tr.xbf Tr.op_div ((Tr.xarg (hC 9 td__law_cell_at rfl) (Tr.xa_cons (Tr.x_v) (Tr.xa_cons ((Tr.xc_int).e) (Tr.xa_nil)))).p) ((Tr.xc_int).p)).p) ((Tr.xf Tr.op_len (Tr.xq_cons ((Tr.x_v).p) (Tr.xq_nil))).p)).p)).p)))
      (Tr.ts_ret (Tr.xand ((Tr.xargf (hC 14 td__law_right rfl) (Tr.xa_cons ((Tr.xargf (hC 8 td_tried rfl) (Tr.xa_cons (Tr.x_v) (Tr.xa_cons (Tr.x_v) (Tr.xa_nil)))).e) (Tr.xa_cons (Tr.x_v) (Tr.xa_cons (Tr.x_v) (Tr.xa_nil))))).p) ((Tr.xargf (hC 14 td__law_right rfl) (Tr.xa_cons ((Tr.xargf (hC 8 td_tried rfl) (Tr.xa_cons (Tr.x_v) (Tr.xa_cons (Tr.x_v) (Tr.xa_nil)))).e) (Tr.xa_cons (Tr.x_v) (Tr.xa_cons (Tr.x_v) (Tr.xa_nil))))).e))))))))))⟩⟩
theorem tks : ∀ (i : Nat) (td : Tr.TD), tds[i]? = some td → ∃ fd, lw.fds[i]? = some fd ∧ Tr.TOk g lw.fds tds fd td
  | 0, _, h => by cases h; exact ⟨_, rfl, tk_Row___init__ hg⟩
  | 1, _, h => by cases h; exact ⟨_, rfl, tk_HandRow___init__ hg⟩
  | 2, _, h => by cases h; exact ⟨_, rfl, tk_GivenRow___init__ hg⟩
  | 3, _, h => by cases h; exact ⟨_, rfl, tk_OwnRow___init__ hg⟩
  | 4, _, h => by cases h; exact ⟨_, rfl, tk_LetRow___init__ hg⟩
  | 5, _, h => by cases h; exact ⟨_, rfl, tk_Program___init__ hg⟩
  | 6, _, h => by cases h; exact ⟨_, rfl, tk_base_gifts hg⟩
  | 7, _, h => by cases h; exact ⟨_, rfl, tk_raised hg⟩
  | 8, _, h => by cases h; exact ⟨_, rfl, tk_tried hg⟩
  | 9, _, h => by cases h; exact ⟨_, rfl, tk__law_cell_at hg⟩
  | 10, _, h => by cases h; exact ⟨_, rfl, tk__law_name hg⟩
  | 11, _, h => by cases h; exact ⟨_, rfl, tk__law_head hg⟩
  | 12, _, h => by cases h; exact ⟨_, rfl, tk__law_due hg⟩
  | 13, _, h => by cases h; exact ⟨_, rfl, tk__law_same hg⟩
  | 14, _, h => by cases h; exact ⟨_, rfl, tk__law_right hg⟩
  | 15, _, h => by cases h; exact ⟨_, rfl, tk_law hg⟩
  | i + 16, td, h => by cases h
end
theorem k_Row___init__ (n : Nat) : Tr.tal tds (n + 1) 0 = (Tr.trun 2 (t_Row___init__ n (Tr.tal tds n))) := rfl
theorem k_HandRow___init__ (n : Nat) : Tr.tal tds (n + 1) 1 = (Tr.trun 4 (t_HandRow___init__ n (Tr.tal tds n))) := rfl
theorem k_GivenRow___init__ (n : Nat) : Tr.tal tds (n + 1) 2 = (Tr.trun 5 (t_GivenRow___init__ n (Tr.tal tds n))) := rfl
theorem k_OwnRow___init__ (n : Nat) : Tr.tal tds (n + 1) 3 = (Tr.trun 4 (t_OwnRow___init__ n (Tr.tal tds n))) := rfl
theorem k_LetRow___init__ (n : Nat) : Tr.tal tds (n + 1) 4 = (Tr.trun 4 (t_LetRow___init__ n (Tr.tal tds n))) := rfl
theorem k_Program___init__ (n : Nat) : Tr.tal tds (n + 1) 5 = (Tr.trun 4 (t_Program___init__ n (Tr.tal tds n))) := rfl
theorem k_base_gifts (n : Nat) : Tr.tal tds (n + 1) 6 = (Tr.trun 6 (t_base_gifts n (Tr.tal tds n))) := rfl
theorem k_raised (n : Nat) : Tr.tal tds (n + 1) 7 = (Tr.trun 3 (t_raised n (Tr.tal tds n))) := rfl
theorem k_tried (n : Nat) : Tr.tal tds (n + 1) 8 = (Tr.trun 6 (t_tried n (Tr.tal tds n))) := rfl
theorem k__law_cell_at (n : Nat) : Tr.tal tds (n + 1) 9 = (Tr.trun 2 (t__law_cell_at n (Tr.tal tds n))) := rfl
theorem k__law_name (n : Nat) : Tr.tal tds (n + 1) 10 = (Tr.trun 8 (t__law_name n (Tr.tal tds n))) := rfl
theorem k__law_head (n : Nat) : Tr.tal tds (n + 1) 11 = (Tr.trun 4 (t__law_head n (Tr.tal tds n))) := rfl
theorem k__law_due (n : Nat) : Tr.tal tds (n + 1) 12 = (Tr.trun 8 (t__law_due n (Tr.tal tds n))) := rfl
theorem k__law_same (n : Nat) : Tr.tal tds (n + 1) 13 = (Tr.trun 5 (t__law_same n (Tr.tal tds n))) := rfl
theorem k__law_right (n : Nat) : Tr.tal tds (n + 1) 14 = (Tr.trun 7 (t__law_right n (Tr.tal tds n))) := rfl
theorem k_law (n : Nat) : Tr.tal tds (n + 1) 15 = (Tr.trun 9 (t_law n (Tr.tal tds n))) := rfl
end Q62


namespace Q62
open Tr
open Pa (Cfg DKey)
abbrev Nm := List Nat
inductive Th where
  | num (n : Int) | nam (s : Nm)
  deriving DecidableEq
inductive Vl where
  | one (a : Th) | two (a : Th) (w : Nm) (b : Th)
  deriving DecidableEq
inductive Row where
  | set (k : Int) (x : Nm) (v : Vl) | put (k : Int) (r : Nm) (a : Th) (v : Vl) | send (k : Int) (h : Nm) (v : Vl)
  | say (k : Int) (x : Nm) (v : Vl) (m : Nm) | call (k : Int) (f : Nm) (ts : List Th) | last (k : Int)
  | iff (k : Int) (v : Vl) (fs os : List Row) (l r : Int) | loop (k : Int) (t : Th) (m : Int) (bs : List Row) (l r : Int)
inductive Hd where
  | hand (k : Int) (x : Nm) (r : Int) | given (k : Int) (x : Nm) (r n : Int) | own (k : Int) (x : Nm) (n : Int) | mark (k : Int) (x : Nm) (r : Int)
structure Deed where
  k : Int
  name : Nm
  parts : List Nm
  body : List Row
structure Prog where
  heads : List Hd
  deeds : List Deed
  main : List Row
def thT : Th → T
  | .num n => .int n
  | .nam s => .str s
def vlT : Vl → T
  | .one a => .tup [thT a]
  | .two a w b => .tup [thT a, .str w, thT b]
mutual
def rowT : Row → T
  | .set k x v => .ins "SetRow" ["number", "name", "value"] [.int k, .str x, vlT v]
  | .put k r a v => .ins "PutRow" ["number", "name", "place", "value"] [.int k, .str r, thT a, vlT v]
  | .send k h v => .ins "SendRow" ["number", "name", "value"] [.int k, .str h, vlT v]
  | .say k x v m => .ins "SayRow" ["number", "name", "value", "mark"] [.int k, .str x, vlT v, .str m]
  | .call k f ts => .ins "CallRow" ["number", "name", "things"] [.int k, .str f, .lst (ts.map thT)]
  | .last k => .ins "LastRow" ["number"] [.int k]
  | .iff k v fs os l r => .ins "IfRow" ["number", "value", "first", "other", "left", "right"] [.int k, vlT v, .lst (rowTs fs), .lst (rowTs os), .int l, .int r]
  | .loop k t m bs l r => .ins "LoopRow" ["number", "thing", "most", "body", "left", "right"] [.int k, thT t, .int m, .lst (rowTs bs), .int l, .int r]
def rowTs : List Row → List T
  | [] => []
  | r :: rs => rowT r :: rowTs rs
end
theorem rowTs_map : ∀ rs : List Row, rowTs rs = rs.map rowT
  | [] => by simp only [rowTs, List.map_nil]
  | r :: rs => by simp only [rowTs, List.map_cons, rowTs_map rs]
def hdT : Hd → T
  | .hand k x r => .ins "HandRow" ["number", "name", "rank"] [.int k, .str x, .int r]
  | .given k x r n => .ins "GivenRow" ["number", "name", "rank", "size"] [.int k, .str x, .int r, .int n]
  | .own k x n => .ins "OwnRow" ["number", "name", "size"] [.int k, .str x, .int n]
  | .mark k x r => .ins "LetRow" ["number", "name", "rank"] [.int k, .str x, .int r]
def deedT (d : Deed) : T := .ins "DeedRow" ["number", "name", "parts", "body"] [.int d.k, .str d.name, .lst (d.parts.map .str), .lst (rowTs d.body)]
def progT (p : Prog) : T := .ins "Program" ["heads", "deeds", "main"] [.lst (p.heads.map hdT), .lst (p.deeds.map deedT), .lst (rowTs p.main)]
@[simp] theorem thT_num (n : Int) : thT (.num n) = .int n := rfl
@[simp] theorem thT_nam (n : Nm) : thT (.nam n) = .str n := rfl
/-! runs -/
inductive Cel where
  | n (i : Int) | l (xs : List Int)
structure S where
  cells : List (Nm × Cel)
  letters : List (Int × Int × Nm × Int)
  said : List (Int × Int × Nm × Int)
  trace : List (Int × Int × Option Int)
  steps : Int
def rgB (i : Int) : Bool := decide (0 ≤ i) && decide (i < 1000000000000)
def getc (cs : List (Nm × Cel)) (x : Nm) : Option Cel := match cs with
  | [] => none
  | p :: r => if p.1 = x then some p.2 else getc r x
def setc (cs : List (Nm × Cel)) (x : Nm) (v : Cel) : List (Nm × Cel) := cs.map fun p => if p.1 = x then (p.1, v) else p
def atW : Nm := [97, 116]
def reck (a : Int) (w : Nm) (b : Int) : Int :=
  if w = [43] then (a + b) % 1000000000000 else if w = [45] then (a - b) % 1000000000000 else if w = [42] then a * b % 1000000000000
  else if w = [111, 118, 101, 114] then (if b = 0 then 0 else a / b) else if w = [114, 101, 115, 116] then (if b = 0 then a else a % b)
  else if w = [60] then (if a < b then 1 else 0) else if a = b then 1 else 0
theorem reck_rg {a b : Int} (w : Nm) (ha : rgB a = true) (hb : rgB b = true) : rgB (reck a w b) = true := by
  simp only [rgB, Bool.and_eq_true, decide_eq_true_eq] at ha hb ⊢
  unfold reck
  have hd : b ≠ 0 → 0 ≤ a / b ∧ a / b < 1000000000000 := fun h => ⟨Int.ediv_nonneg ha.1 hb.1, Int.lt_of_le_of_lt (Int.ediv_le_self b ha.1) ha.2⟩
  have hm : b ≠ 0 → 0 ≤ a % b ∧ a % b < 1000000000000 := fun h => ⟨Int.emod_nonneg _ h, Int.lt_trans (Int.emod_lt_of_pos _ (by omega)) hb.2⟩
  repeat' split
  all_goals first | omega | (exact hd (by assumption)) | (exact hm (by assumption))
def takenS (s : S) : Th → Option Int
  | .num n => if rgB n = true then some n else none
  | .nam x => match getc s.cells x with
    | some (.n i) => if rgB i = true then some i else none
    | _ => none
def placeS (xs : List Int) (i : Int) : Option Nat := if 0 < xs.length ∧ xs.length ≤ 1000 then some (i % xs.length).toNat else none
def reckS (s : S) : Vl → Option Int
  | .one a => takenS s a
  | .two a w b => if w = atW then (match a with
      | .nam r => (match getc s.cells r with
        | some (.l xs) => (takenS s b).bind fun i => (placeS xs i).bind fun j => (xs[j]?).bind fun y => if rgB y = true then some y else none
        | _ => none)
      | .num _ => none)
    else (takenS s a).bind fun x => (takenS s b).bind fun y => some (reck x w y)
def tell (s : S) (k : Int) (o : Option Int) : Option S := if s.trace.length < 1000000 then some { s with trace := s.trace ++ [(k, s.steps + 1, o)], steps := s.steps + 1 } else none
def wait (s : S) (i : Int) : S := { s with steps := s.steps + i }
def setN (s : S) (x : Nm) (i : Int) : Option S := match getc s.cells x with
  | some (.n _) => some { s with cells := setc s.cells x (.n i) }
  | _ => none
def plainS (s : S) : Row → Option S
  | .set k x v => (reckS s v).bind fun t => (tell s k none).bind fun s1 => setN s1 x t
  | .put k r a v => (reckS s v).bind fun t => (tell s k none).bind fun s1 => match getc s1.cells r with
    | some (.l xs) => (takenS s1 a).bind fun i => (placeS xs i).bind fun j => some { s1 with cells := setc s1.cells r (.l (xs.set j t)) }
    | _ => none
  | .send k h v => (reckS s v).bind fun t => (tell s k (some t)).bind fun s1 => if s1.letters.length < 1000000 then some { s1 with letters := s1.letters ++ [(s1.steps, k, h, t)] } else none
  | .say k x v m => (reckS s v).bind fun t => (tell s k (some t)).bind fun s1 => if s1.said.length < 1000000 then setN { s1 with said := s1.said ++ [(s1.steps, k, m, t)] } x t else none
  | _ => none
def mapS (f : Th → Option Int) : List Th → Option (List Int)
  | [] => some []
  | t :: ts => (f t).bind fun i => (mapS f ts).bind fun is => some (i :: is)
def partsS (s : S) : List Nm → List Int → Option S
  | x :: xs, i :: is => (setN s x i).bind fun s1 => partsS s1 xs is
  | _, _ => some s
def loopS (rr : S → Option (Bool × S)) (l : Int) : Nat → Int → S → Option (Int × S)
  | 0, many, s => some (many, s)
  | n + 1, many, s => (rr s).bind fun p => if p.1 = true then some (many + 1, wait p.2 l) else loopS rr l n (many + 1) (wait p.2 l)
def findD : List Deed → Nm → Option Deed
  | [], _ => none
  | d :: ds, x => if d.name = x then some d else findD ds x
def stepS (D : List Deed) (rr : List Row → S → Option (Bool × S)) (row : Row) (s : S) : Option (Bool × S) := match row with
  | .iff k v fs os l r => (reckS s v).bind fun t => (tell s k none).bind fun s1 => if t ≠ 0 then (rr fs s1).bind fun p => some (p.1, wait p.2 l) else (rr os s1).bind fun p => some (p.1, wait p.2 r)
  | .last k => (tell s k none).bind fun s1 => some (true, s1)
  | .loop k t m bs l r => (takenS s t).bind fun c => (tell s k none).bind fun s1 => if 0 ≤ m ∧ m ≤ 1000 ∧ rgB r = true then (loopS (rr bs) l (min c m).toNat 0 s1).bind fun q => some (false, wait q.2 (r * (m - q.1))) else none
  | .call k f ts => (tell s k none).bind fun s1 => (findD D f).bind fun d => if ts.length = d.parts.length ∧ ts.length ≤ 1000 then (mapS (takenS s1) ts).bind fun is => (partsS s1 d.parts is).bind fun s2 => (rr d.body s2).bind fun p => some (false, p.2) else none
  | row => (plainS s row).bind fun s1 => some (false, s1)
def goS (f : Row → S → Option (Bool × S)) : List Row → Bool → S → Option (Bool × S)
  | [], b, s => some (b, s)
  | r :: rs, b, s => (f r s).bind fun p => goS f rs (p.1 || b) p.2
def rowsS (D : List Deed) : Nat → List Row → S → Option (Bool × S)
  | 0, _, _ => none
  | n + 1, rows, s => goS (stepS D (rowsS D n)) rows false s
/-! a cell of the script, nought behind its end -/
def scA (ns : List Int) (k : Nat) : Int := (ns[k]?).getD 0
theorem cell_at (n : Nat) (ns : List Int) (k : Nat) (hl : ns.length ≤ 63) (σ : Sto) : tal tds (n + 1) 9 [.scr ns, .int (k : Int)] σ = .ok (.int (scA ns k)) σ := by
  refine ev_eq ?_
  by_cases h : k < ns.length
  · have e : L2.atI ns (k : Int) = some ns[k] := Pa.at_nat (by rw [List.getElem?_eq_getElem h])
    have e2 : scA ns k = ns[k] := by simp [scA, h]
    simp [k__law_cell_at, t__law_cell_at, h, e, e2]
  · have e2 : scA ns k = 0 := by simp [scA, List.getElem?_eq_none (by omega : ns.length ≤ k)]
    simp [k__law_cell_at, t__law_cell_at, h, e2]
/-! names: words of the language, letters, a letter put into a stem -/
abbrev lets : List Nat := [97, 98, 99, 100, 101, 102, 103, 104, 105, 106, 107, 108, 109, 110, 111, 112, 113, 114, 115, 116, 117, 118, 119, 120, 121, 122]
def ltr (i : Int) : Nat := if 0 ≤ i ∧ i < 26 then 97 + i.toNat else 97
theorem ltr_ix {i : Int} (h0 : 0 ≤ i) (h1 : i < 26) (σ : Sto) : tIx (.str lets) (.int i) σ = .ok (.str [ltr i]) σ := by
  obtain ⟨j, rfl⟩ : ∃ j : Nat, i = j := ⟨i.toNat, by omega⟩
  have hm : ∀ j < 26, lets[j]? = some (97 + j) := by decide
  refine w_ixs (by decide) ?_
  rw [ltr, if_pos ⟨h0, h1⟩]
  exact Pa.at_nat (by rw [hm j (by omega)]; rfl)
theorem ltr_m (i : Int) (σ : Sto) : tIx (.str lets) (.int (i % 26)) σ = .ok (.str [ltr (i % 26)]) σ := ltr_ix (by omega) (by omega) σ
theorem ltr_lt (i : Int) : ltr i < 1114112 := by
  unfold ltr
  split <;> omega
theorem ltr_inj {i j : Int} (hi : 0 ≤ i ∧ i < 26) (hj : 0 ≤ j ∧ j < 26) (h : ltr i = ltr j) : i = j := by
  unfold ltr at h
  rw [if_pos hi, if_pos hj] at h
  omega
def wdL : List Nm := [[115, 101, 116], [112, 117, 116], [115, 101, 110, 100], [115, 97, 121], [98, 121], [105, 102], [101, 108, 115, 101], [101, 110, 100], [108, 111, 111, 112], [109, 111, 115, 116], [105, 100, 108, 101], [108, 97, 115, 116], [99, 97, 108, 108], [100, 101, 101, 100], [109, 97, 105, 110], [97, 116], [111, 118, 101, 114], [114, 101, 115, 116], [104, 97, 110, 100], [103, 105, 118, 101, 110], [111, 119, 110], [108, 101, 116], [111, 112, 101, 110], [104, 111, 117, 115, 101], [99, 108, 111, 115, 101, 100]]
theorem spl1 (σ : Sto) : tSplit (.str [115, 101, 116, 32, 112, 117, 116, 32, 115, 101, 110, 100, 32, 115, 97, 121, 32, 98, 121, 32, 105, 102, 32, 101, 108, 115, 101, 32, 101, 110, 100, 32, 108, 111, 111, 112, 32, 109, 111, 115, 116, 32, 105, 100, 108, 101, 32, 108, 97, 115, 116, 32, 99, 97, 108, 108, 32, 100, 101, 101, 100, 32, 109, 97, 105, 110, 32, 97, 116, 32, 111, 118, 101, 114, 32, 114, 101, 115, 116, 32, 104, 97, 110, 100, 32, 103, 105, 118, 101, 110, 32, 111, 119, 110, 32, 108, 101, 116, 32, 111, 112, 101, 110, 32, 104, 111, 117, 115, 101, 32, 99, 108, 111, 115, 101, 100]) [.str [32]] σ = .ok (.lst (wdL.map .str)) σ := by
  rw [w_split, if_pos (by decide)]
  have e : TL.spl [32] 0 [] [115, 101, 116, 32, 112, 117, 116, 32, 115, 101, 110, 100, 32, 115, 97, 121, 32, 98, 121, 32, 105, 102, 32, 101, 108, 115, 101, 32, 101, 110, 100, 32, 108, 111, 111, 112, 32, 109, 111, 115, 116, 32, 105, 100, 108, 101, 32, 108, 97, 115, 116, 32, 99, 97, 108, 108, 32, 100, 101, 101, 100, 32, 109, 97, 105, 110, 32, 97, 116, 32, 111, 118, 101, 114, 32, 114, 101, 115, 116, 32, 104, 97, 110, 100, 32, 103, 105, 118, 101, 110, 32, 111, 119, 110, 32, 108, 101, 116, 32, 111, 112, 101, 110, 32, 104, 111, 117, 115, 101, 32, 99, 108, 111, 115, 101, 100] = wdL := by decide +kernel
  rw [e]
def wd (i : Int) : Nm := (wdL[i.toNat]?).getD []
theorem wd_ix {i : Int} (h0 : 0 ≤ i) (h1 : i < 25) : L2.atI (wdL.map T.str) i = some (.str (wd i)) := by
  obtain ⟨j, rfl⟩ : ∃ j : Nat, i = j := ⟨i.toNat, by omega⟩
  have hl : wdL.length = 25 := by decide
  have hj : j < wdL.length := by omega
  exact Pa.at_nat (by
    show (wdL.map T.str)[j]? = _
    rw [List.getElem?_map, wd, Int.toNat_natCast, List.getElem?_eq_getElem hj]
    rfl)
theorem wd_inj {i j : Int} (hi : 0 ≤ i ∧ i < 25) (hj : 0 ≤ j ∧ j < 25) (h : wd i = wd j) : i = j := by
  have k : ∀ a < 25, ∀ b < 25, (wdL[a]?).getD [] = (wdL[b]?).getD [] → a = b := by decide +kernel
  have := k i.toNat (by omega) j.toNat (by omega) h
  omega
theorem wd_ok (i : Int) : (wd i).all (· < 1114112) = true := by
  have k : ∀ w ∈ wdL, w.all (· < 1114112) = true := by decide +kernel
  unfold wd
  cases h : wdL[i.toNat]? with
  | none => rfl
  | some w => exact k w (List.mem_of_getElem? h)
def stemF (c : Int) : Nm := (List.replicate (c / 4 % 8).toNat [ltr (c / 288 % 26)]).flatten
def atF (c : Int) : Int := c / 32 % (c / 4 % 8 + 1)
def hereF (c k : Int) : Nat := ltr ((k + c / 7488) % 26)
def nmF (c k : Int) : Nm := if c % 4 = 0 then wd ((c / 4 + k) % 25)
  else if c % 4 = 1 then (List.replicate (k % 8 + 1).toNat [ltr ((c / 4 + k / 8) % 26)]).flatten
  else Pa.cut (stemF c) none (some (atF c)) ++ (hereF c k :: Pa.cut (stemF c) (some (atF c)) none)
theorem flat1 (n x : Nat) : (List.replicate n [x]).flatten = List.replicate n x := by simp
theorem stem_len (c : Int) : (stemF c).length ≤ 7 := by
  unfold stemF
  rw [flat1, List.length_replicate]
  omega
theorem cut_mem {α : Type} {xs : List α} {lo hi : Option Int} {c : α} (h : c ∈ Pa.cut xs lo hi) : c ∈ xs := by
  unfold Pa.cut at h
  exact List.mem_of_mem_drop (List.mem_of_mem_take h)
theorem stem_ok (c : Int) (lo hi : Option Int) : ∀ z ∈ Pa.cut (stemF c) lo hi, z < 1114112 := fun z hz => by
  have h := cut_mem hz
  unfold stemF at h
  rw [flat1] at h
  rw [(List.mem_replicate.mp h).2]
  exact ltr_lt _
theorem nm_ok (c k : Int) : (nmF c k).all (· < 1114112) = true := by
  rw [List.all_eq_true]
  intro z hz
  unfold nmF at hz
  have a := ltr_lt ((c / 4 + k / 8) % 26)
  have b : hereF c k < 1114112 := ltr_lt _
  split at hz
  · exact List.all_eq_true.mp (wd_ok _) z hz
  · have key : z < 1114112 := by
      split at hz
      · rw [flat1] at hz
        rw [(List.mem_replicate.mp hz).2]
        exact a
      · rcases List.mem_append.mp hz with hz | hz
        · exact stem_ok c _ _ z hz
        · rcases List.mem_cons.mp hz with rfl | hz
          · assumption
          · exact stem_ok c _ _ z hz
    simpa using key
theorem nm_inj {c j k : Int} (hj : 0 ≤ j ∧ j < 25) (hk : 0 ≤ k ∧ k < 25) (h : nmF c j = nmF c k) : j = k := by
  unfold nmF at h
  by_cases e0 : c % 4 = 0
  · rw [if_pos e0, if_pos e0] at h
    have := wd_inj (by omega) (by omega) h
    omega
  rw [if_neg e0, if_neg e0] at h
  by_cases e : c % 4 = 1
  · rw [if_pos e, if_pos e, flat1, flat1] at h
    have l := congrArg List.length h
    rw [List.length_replicate, List.length_replicate] at l
    have l2 : j % 8 = k % 8 := by omega
    have h0 : (List.replicate (j % 8 + 1).toNat (ltr ((c / 4 + j / 8) % 26)))[0]? = some (ltr ((c / 4 + j / 8) % 26)) := by
      rw [List.getElem?_replicate, if_pos (by omega)]
    have h1 : (List.replicate (k % 8 + 1).toNat (ltr ((c / 4 + k / 8) % 26)))[0]? = some (ltr ((c / 4 + k / 8) % 26)) := by
      rw [List.getElem?_replicate, if_pos (by omega)]
    rw [h, h1] at h0
    have z := ltr_inj (by omega) (by omega) (Option.some.inj h0)
    omega
  · rw [if_neg e, if_neg e] at h
    have h := List.append_cancel_left h
    injection h with h1 h2
    have z1 := ltr_inj (by omega) (by omega) h1
    omega
theorem name_ (n : Nat) (c k : Int) (hk : 0 ≤ k ∧ k < 25) (σ : Sto) : tal tds (n + 1) 10 [.int c, .int k] σ = .ok (.str (nmF c k)) σ := by
  refine ev_eq ?_
  rw [k__law_name]
  have ls := stem_len c
  have l1 := Pa.cut_len (stemF c) none (some (atF c))
  have l2 := Pa.cut_len (stemF c) (some (atF c)) none
  have b1 : -1000000 ≤ k % 8 + 1 ∧ k % 8 + 1 ≤ 1000000 := by omega
  have b2 : (k % 8 + 1).toNat ≤ 1000000 := by omega
  have b3 : -1000000 ≤ c / 4 % 8 ∧ c / 4 % 8 ≤ 1000000 := by omega
  have b4 : (c / 4 % 8).toNat ≤ 1000000 := by omega
  have b5 : 0 < c / 4 % 8 + 1 := by omega
  have l4 : (Pa.cut (stemF c) none (some (atF c))).length + 1 ≤ 1000000 := by omega
  have l7 : (Pa.cut (stemF c) none (some (atF c))).length + 1 + (Pa.cut (stemF c) (some (atF c)) none).length ≤ 1000000 := by omega
  have es : (List.replicate (c / 4 % 8).toNat [ltr (c / 288 % 26)]).flatten = stemF c := rfl
  have ea : c / 32 % (c / 4 % 8 + 1) = atF c := rfl
  have eh : ltr ((k + c / 7488) % 26) = hereF c k := rfl
  by_cases e0 : c % 4 = 0
  · have wx := wd_ix (i := (c / 4 + k) % 25) (by omega) (by omega)
    simp [t__law_name, e0, spl1, nmF, -w_split, wx]
  · by_cases e : c % 4 = 1
    · simp [t__law_name, ltr_m, e0, e, b1, b2, nmF]
    · simp [t__law_name, ltr_m, e0, e, b3, b4, b5, nmF, -List.flatten_replicate_singleton, es, ea, eh, l4, l7]
      try omega
/-! gifts as they stand in the store -/
def celT : Cel → T
  | .n i => .int i
  | .l xs => .lst (xs.map .int)
def keysT (cs : List (Nm × Cel)) : List DKey := cs.map fun p => .inr p.1
def VOk (σ : Sto) (lo hi : Nat) (v : T) : Cel → Prop
  | .n i => v = .int i
  | .l xs => ∃ p, v = .ptr p ∧ lo ≤ p ∧ p < hi ∧ σ[p]? = some (some (.lst (xs.map .int)))
def VOks (σ : Sto) (lo hi : Nat) : List T → List (Nm × Cel) → Prop
  | [], [] => True
  | v :: vs, c :: cs => VOk σ lo hi v c.2 ∧ VOks σ lo hi vs cs
  | _, _ => False
structure DicAt (σ : Sto) (lo hi k : Nat) (cs : List (Nm × Cel)) : Prop where
  lk : lo ≤ k
  hk : k < hi
  ex : ∃ vs, σ[k]? = some (some (.dk (keysT cs) vs)) ∧ VOks σ lo hi vs cs
section
variable {σ τ : Sto} {lo hi lo' hi' k : Nat} {cs : List (Nm × Cel)} {vs : List T}
/-- lists stay as they are -/
def LKeep (σ τ : Sto) (lo hi : Nat) : Prop := ∀ p xs, lo ≤ p → p < hi → σ[p]? = some (some (.lst xs)) → τ[p]? = some (some (.lst xs))
theorem VOk.mono {v : T} {c : Cel} (h : VOk σ lo hi v c) (k : LKeep σ τ lo hi) (l : lo' ≤ lo) (u : hi ≤ hi') : VOk τ lo' hi' v c := by
  cases c with
  | n i => exact h
  | l xs =>
    obtain ⟨p, e, h1, h2, h3⟩ := h
    exact ⟨p, e, by omega, by omega, k p _ h1 h2 h3⟩
theorem VOks.mono (k : LKeep σ τ lo hi) (l : lo' ≤ lo) (u : hi ≤ hi') : ∀ {vs : List T} {cs : List (Nm × Cel)}, VOks σ lo hi vs cs → VOks τ lo' hi' vs cs
  | [], [], h => trivial
  | v :: vs, c :: cs, h => ⟨h.1.mono k l u, VOks.mono k l u h.2⟩
  | [], _ :: _, h => h.elim
  | _ :: _, [], h => h.elim
theorem VOks.len : ∀ {vs : List T} {cs : List (Nm × Cel)}, VOks σ lo hi vs cs → vs.length = cs.length
  | [], [], h => rfl
  | v :: vs, c :: cs, h => congrArg (· + 1) (VOks.len h.2)
  | [], _ :: _, h => h.elim
  | _ :: _, [], h => h.elim
theorem VOks.snoc : ∀ {vs : List T} {cs : List (Nm × Cel)} {v : T} {c : Nm × Cel}, VOks σ lo hi vs cs → VOk σ lo hi v c.2 → VOks σ lo hi (vs ++ [v]) (cs ++ [c])
  | [], [], v, c, h, q => ⟨q, trivial⟩
  | v :: vs, c :: cs, _, _, h, q => ⟨h.1, VOks.snoc h.2 q⟩
  | [], _ :: _, _, _, h, _ => h.elim
  | _ :: _, [], _, _, h, _ => h.elim
theorem VOks.lkp {x : Nm} {c : Cel} : ∀ {vs : List T} {cs : List (Nm × Cel)}, VOks σ lo hi vs cs → getc cs x = some c → ∃ v, lkpT (keysT cs) vs (.inr x) = some v ∧ VOk σ lo hi v c
  | [], [], h, e => by cases e
  | v :: vs, d :: cs, h, e => by
    simp only [getc] at e
    simp only [keysT, List.map_cons, lkp_cons]
    by_cases q : d.1 = x
    · rw [if_pos q] at e
      cases e
      exact ⟨v, by simp [q], h.1⟩
    · rw [if_neg q] at e
      obtain ⟨w, e1, e2⟩ := VOks.lkp h.2 e
      exact ⟨w, by simpa [q, keysT] using e1, e2⟩
  | [], _ :: _, h, _ => h.elim
  | _ :: _, [], h, _ => h.elim
theorem VOks.rpl {x : Nm} {c : Cel} {v : T} (hv : VOk σ lo hi v c) : ∀ {vs : List T} {cs : List (Nm × Cel)}, VOks σ lo hi vs cs → VOks σ lo hi (rplT (keysT cs) vs (.inr x) v) (setc cs x c)
  | [], [], h => trivial
  | w :: vs, d :: cs, h => by
    have z := VOks.rpl (x := x) hv h.2
    by_cases q : d.1 = x
    · simpa [keysT, rplT, setc, q, VOks] using ⟨hv, z⟩
    · simpa [keysT, rplT, setc, q, VOks] using ⟨h.1, z⟩
  | [], _ :: _, h => h.elim
  | _ :: _, [], h => h.elim
theorem not_key {x : Nm} (h : x ∉ cs.map (·.1)) : ((keysT cs).any fun k => decide (k = .inr x)) = false := by
  rw [List.any_eq_false]
  intro k hk
  obtain ⟨p, hp, rfl⟩ := List.mem_map.mp hk
  simp only [decide_eq_true_eq]
  intro z
  exact h (List.mem_map.mpr ⟨p, hp, Sum.inr.inj z⟩)
theorem is_key {x : Nm} (h : x ∈ cs.map (·.1)) : ((keysT cs).any fun k => decide (k = .inr x)) = true := by
  rw [List.any_eq_true]
  obtain ⟨p, hp, rfl⟩ := List.mem_map.mp h
  exact ⟨_, List.mem_map.mpr ⟨p, hp, rfl⟩, by simp⟩
theorem DicAt.mono (h : DicAt σ lo hi k cs) (m : ∀ p, lo ≤ p → p < hi → τ[p]? = σ[p]?) (u : hi ≤ hi') : DicAt τ lo hi' k cs := by
  obtain ⟨vs, e, q⟩ := h.ex
  exact ⟨h.lk, by have := h.hk; omega, vs, (m k h.lk h.hk).trans e, q.mono (fun p xs a b c => (m p a b).trans c) (Nat.le_refl _) u⟩
theorem set_keep {t : T} {ks : List DKey} {xs : List T} (e : σ[k]? = some (some (.dk ks xs))) : LKeep σ (σ.set k (some t)) lo hi := fun p ys _ _ h => by
  have ne : k ≠ p := fun z => by subst z; rw [e] at h; cases h
  rw [List.getElem?_set_ne ne]; exact h
/-- a new key -/
theorem DicAt.new (h : DicAt σ lo hi k cs) {x : Nm} {c : Cel} {v : T} (hx : x ∉ cs.map (·.1)) (hl : cs.length < 1000000) (hv : VOk σ lo hi v c) : ∃ τ, setC (.ptr k) (.str x) v σ = .ok () τ ∧ τ.length = σ.length ∧ (∀ p, p ≠ k → τ[p]? = σ[p]?) ∧ DicAt τ lo hi k (cs ++ [(x, c)]) := by
  obtain ⟨vs, e, q⟩ := h.ex
  have hl2 : (keysT cs).length < 1000000 := by simpa [keysT] using hl
  have ek : keysT (cs ++ [(x, c)]) = keysT cs ++ [.inr x] := by simp [keysT]
  have es : setC (.ptr k) (.str x) v σ = .ok () (σ.set k (some (.dk (keysT cs ++ [.inr x]) (vs ++ [v])))) := by
    simp only [setC, e, set_dk, key_s, Option.bind_some, hl2, if_true, putKs, putXs, not_key hx]
    rfl
  have kl : k < σ.length := (List.getElem?_eq_some_iff.mp e).1
  refine ⟨_, es, by simp, fun p hp => List.getElem?_set_ne (Ne.symm hp), h.lk, h.hk, vs ++ [v], by rw [List.getElem?_set_self kl, ek], ?_⟩
  exact (VOks.snoc q hv).mono (set_keep e) (Nat.le_refl _) (Nat.le_refl _)
/-- an old key -/
theorem DicAt.put (h : DicAt σ lo hi k cs) {x : Nm} {c : Cel} {v : T} (hx : x ∈ cs.map (·.1)) (hl : cs.length < 1000000) (hv : VOk σ lo hi v c) : ∃ τ, setC (.ptr k) (.str x) v σ = .ok () τ ∧ τ.length = σ.length ∧ (∀ p, p ≠ k → τ[p]? = σ[p]?) ∧ DicAt τ lo hi k (setc cs x c) := by
  obtain ⟨vs, e, q⟩ := h.ex
  have hl2 : (keysT cs).length < 1000000 := by simpa [keysT] using hl
  have ek : keysT (setc cs x c) = keysT cs := by
    simp only [keysT, setc, List.map_map]
    refine List.map_congr_left fun p _ => ?_
    show Sum.inr (if p.1 = x then (p.1, c) else p).1 = Sum.inr p.1
    split <;> rfl
  have es : setC (.ptr k) (.str x) v σ = .ok () (σ.set k (some (.dk (keysT cs) (rplT (keysT cs) vs (.inr x) v)))) := by
    simp only [setC, e, set_dk, key_s, Option.bind_some, hl2, if_true, putKs, putXs, is_key hx]
  have kl : k < σ.length := (List.getElem?_eq_some_iff.mp e).1
  refine ⟨_, es, by simp, fun p hp => List.getElem?_set_ne (Ne.symm hp), h.lk, h.hk, _, by rw [List.getElem?_set_self kl, ek], ?_⟩
  exact (VOks.rpl hv q).mono (set_keep e) (Nat.le_refl _) (Nat.le_refl _)
theorem DicAt.ix (h : DicAt σ lo hi k cs) {x : Nm} {c : Cel} (e : getc cs x = some c) : ∃ v, tIx (.ptr k) (.str x) σ = .ok v σ ∧ VOk σ lo hi v c := by
  obtain ⟨vs, e1, q⟩ := h.ex
  obtain ⟨v, e2, q2⟩ := q.lkp e
  refine ⟨v, ?_, q2⟩
  simp only [tIx, look, e1]
  simp [e2, R.of]
theorem DicAt.len (h : DicAt σ lo hi k cs) : tLen [.ptr k] σ = .ok (.int cs.length) σ := by
  obtain ⟨vs, e1, q⟩ := h.ex
  simp [tLen, look, e1, keysT]
end
theorem comp_ptr {p : Nat} {xs : List T} {n : Nat} {tg : DT} {tt te : D} {vs : List Nat} {E : Env} {Q : T → Sto → Prop} {σ : Sto} (hp : σ[p]? = some (some (.lst xs))) (F : T → Option T) (hn : n = xs.length) (hl : xs.length ≤ 1000000) (hs : ∀ x, x ∈ xs → PYl tg tt te (wipeE E vs) (Is σ (F x)) x σ)
    (k : Q (.lst (xs.filterMap F)) σ) : PCmp tg tt te vs E Q (.lst (.ptr p) n) σ := by
  subst hn
  refine comp_ev (fun j => (xs[j]?).bind F) hl (fun j hj => ?_) ?_ ?_
  · have e : xs[j]? = some xs[j] := List.getElem?_eq_getElem hj
    simp only [yld, lstT, look, hp, e, R.of, ev_ok, Option.bind_some]
    exact hs _ (List.getElem_mem hj)
  · simp [fin, lstT, look, hp, Itb.num]
  · show Q (.lst ((List.range xs.length).filterMap fun j => (xs[j]?).bind F)) σ
    rw [fm_list]
    exact k
end Q62

namespace Q62
open Tr
open Pa (Cfg DKey)
abbrev GL := List (Nm × Nat)
def celC (v : Int) (n : Nat) : Cel := if n = 0 then .n v else .l ((List.range n).map fun (j : Nat) => v + (j : Int))
def baseG (t : Int) : Nat → GL → List (Nm × Cel)
  | _, [] => []
  | i, g :: G => (g.1, celC (t * ((i : Int) + 1)) g.2) :: baseG t (i + 1) G
theorem baseG_app (t : Int) : ∀ (i : Nat) (G H : GL), baseG t i (G ++ H) = baseG t i G ++ baseG t (i + G.length) H
  | i, [], H => by simp [baseG]
  | i, g :: G, H => by
    have e : i + 1 + G.length = i + (G.length + 1) := by omega
    simp only [List.cons_append, baseG, baseG_app t (i + 1) G H, List.length_cons, e]
theorem baseG_len (t : Int) : ∀ (i : Nat) (G : GL), (baseG t i G).length = G.length
  | i, [] => rfl
  | i, g :: G => by simp [baseG, baseG_len t (i + 1) G]
theorem baseG_names (t : Int) : ∀ (i : Nat) (G : GL), (baseG t i G).map (·.1) = G.map (·.1)
  | i, [] => rfl
  | i, g :: G => by simp [baseG, baseG_names t (i + 1) G]
def givH : Hd → Option (Nm × Nat)
  | .given _ x _ n => some (x, n.toNat)
  | _ => none
def givG (hs : List Hd) : GL := hs.filterMap givH
def okH : Hd → Prop
  | .given _ _ _ n => 0 ≤ n ∧ n ≤ 20
  | _ => True
def prT (hs : List Hd) : T := .ins "Program" ["heads", "deeds", "main"] [.lst (hs.map hdT), .lst [], .lst []]
theorem pre_keep {σ τ τ' X : Sto} {k : Nat} (h : τ = σ ++ X) (l : τ'.length = τ.length) (o : ∀ p, p ≠ k → τ'[p]? = τ[p]?) (hk : σ.length ≤ k) : ∃ X', τ' = σ ++ X' := by
  refine ⟨τ'.drop σ.length, ?_⟩
  have e : τ'.take σ.length = σ := by
    refine List.ext_getElem? fun p => ?_
    by_cases hp : p < σ.length
    · rw [List.getElem?_take, if_pos hp, o p (by omega), h, List.getElem?_append_left hp]
    · rw [List.getElem?_take, if_neg hp, List.getElem?_eq_none (by omega)]
  have := List.take_append_drop σ.length τ'
  rw [e] at this
  exact this.symm
theorem base_ (n : Nat) {hs : List Hd} (ho : ∀ h ∈ hs, okH h) (nd : ((givG hs).map (·.1)).Nodup) (hl : hs.length ≤ 100) {t : Int} (ht : 0 ≤ t ∧ t ≤ 3) (σ : Sto) : Ev (tal tds (n + 1) 6 [prT hs, .int t] σ) fun r τ => r = .ptr σ.length ∧ ∃ X, τ = σ ++ X ∧ DicAt τ σ.length τ.length σ.length (baseG t 0 (givG hs)) := by
  have bt : -18446744073709551616 < t ∧ t < 18446744073709551616 := by omega
  rw [k_base_gifts]
  simp [t_base_gifts, prT]
  refine for_lst (fun j E τ => ∃ (o3 o4 o5 : Option T) (X : Sto), E = [some (prT hs), some (.int t), some (.ptr σ.length), o3, o4, o5] ∧ τ = σ ++ X ∧ DicAt τ σ.length τ.length σ.length (baseG t 0 (givG (hs.take j)))) ⟨none, none, none, _, rfl, rfl, ?_⟩ (by simp) (fun j E τ y hy ⟨o3, o4, o5, X, e1, e2, d⟩ => ?_) (fun E τ ⟨o3, o4, o5, X, e1, e2, d⟩ => ?_)
  · refine ⟨Nat.le_refl _, by simp, [], by simp [keysT, baseG, givG], trivial⟩
  · subst e1
    rw [List.getElem?_map] at hy
    obtain ⟨h, hh, rfl⟩ := Option.map_eq_some_iff.mp hy
    have hj := (List.getElem?_eq_some_iff.mp hh).1
    have tk : hs.take (j + 1) = hs.take j ++ [h] := by rw [List.take_succ, hh]; rfl
    have dr : hs = hs.take j ++ h :: hs.drop (j + 1) := by
      have e := (List.getElem?_eq_some_iff.mp hh).2
      rw [← e, ← List.drop_eq_getElem_cons hj, List.take_append_drop]
    have hm : h ∈ hs := List.mem_of_getElem? hh
    have ll : (givG (hs.take j)).length ≤ 100 := by
      have := List.length_filterMap_le givH (hs.take j)
      rw [List.length_take] at this
      unfold givG
      omega
    cases h with
    | given k x r m =>
      have hm := ho _ hm
      simp only [okH] at hm
      have gv : givG (hs.take (j + 1)) = givG (hs.take j) ++ [(x, m.toNat)] := by rw [tk]; simp [givG, givH]
      have hx : x ∉ (baseG t 0 (givG (hs.take j))).map (·.1) := by
        rw [baseG_names]
        rw [dr] at nd
        simp only [givG, List.filterMap_append, List.filterMap_cons, givH, List.map_append, List.map_cons] at nd
        rw [List.nodup_append] at nd
        intro hx
        exact nd.2.2 x hx x List.mem_cons_self rfl
      have bl := baseG_len t 0 (givG (hs.take j))
      have ln := d.len
      rw [bl] at ln
      have bl2 : (baseG t 0 (givG (hs.take j))).length < 1000000 := by omega
      generalize hc : baseG t 0 (givG (hs.take j)) = cs at *
      generalize hL : (givG (hs.take j)).length = L at *
      have hb : baseG t 0 (givG (hs.take (j + 1))) = cs ++ [(x, celC (t * ((L : Int) + 1)) m.toNat)] := by
        rw [gv, baseG_app, hc, hL, Nat.zero_add]
        rfl
      by_cases m0 : m = 0
      · obtain ⟨τ', es, l', oth, d'⟩ := d.new (c := .n (t * ((L : Int) + 1))) (v := .int (t * ((L : Int) + 1))) hx bl2 rfl
        obtain ⟨X', e2'⟩ := pre_keep e2 l' oth (Nat.le_refl _)
        simp [hdT, ln, bt, m0, es, hb]
        refine ⟨⟨X', e2'⟩, ?_⟩
        rw [l']
        simpa [celC] using d'
      · obtain ⟨M, rfl⟩ : ∃ M : Nat, m = (M : Int) := ⟨m.toNat, by omega⟩
        have bM : -1000000 ≤ (M : Int) ∧ (M : Int) ≤ 1000000 := by omega
        have m1 : ¬ M = 0 := by omega
        simp [hdT, ln, bt, m1, bM]
        refine comp_rng (fun i => some (.int (t * ((L : Int) + 1) + (i : Int)))) (by omega) (fun i hi => ?_) ?_
        · simp
          exact ⟨rfl, rfl⟩
        rw [fm_map]
        obtain ⟨xs, hxs⟩ : ∃ xs, xs = (List.range M).map fun (i : Nat) => t * ((L : Int) + 1) + (i : Int) := ⟨_, rfl⟩
        have ex : (List.range M).map (fun (i : Nat) => T.int (t * ((L : Int) + 1) + (i : Int))) = xs.map .int := by rw [hxs, List.map_map]; rfl
        rw [ex]
        have d1 : DicAt (τ ++ [some (T.lst (xs.map .int))]) σ.length (τ.length + 1) σ.length cs := d.mono (fun p _ hp => List.getElem?_append_left hp) (Nat.le_succ _)
        have vo : VOk (τ ++ [some (T.lst (xs.map .int))]) σ.length (τ.length + 1) (.ptr τ.length) (.l xs) := ⟨_, rfl, Nat.le_of_lt d.hk, by omega, by simp⟩
        obtain ⟨τ', es, l', oth, d'⟩ := d1.new hx bl2 vo
        have e3 : τ ++ [some (T.lst (xs.map .int))] = σ ++ (X ++ [some (T.lst (xs.map .int))]) := by rw [e2, List.append_assoc]
        obtain ⟨X', e2'⟩ := pre_keep e3 l' oth (Nat.le_refl _)
        have ec : celC (t * ((L : Int) + 1)) M = .l xs := by rw [celC, if_neg m1, hxs]
        simp [flatT, es, hb, ec]
        refine ⟨⟨X', e2'⟩, ?_⟩
        rw [l']
        simpa using d'
    | _ =>
      have gv : givG (hs.take (j + 1)) = givG (hs.take j) := by rw [tk]; simp [givG, givH]
      simp [hdT, gv]
      exact ⟨⟨X, e2⟩, d⟩
  · subst e1
    simp
    rw [List.length_map, List.take_length] at d
    exact ⟨⟨X, e2⟩, d⟩
/-! more -/
theorem raised_i (n : Nat) (i m : Int) (σ : Sto) : tal tds (n + 1) 7 [.int i, .int m] σ = .ok (.int (i + m)) σ := by
  refine ev_eq ?_
  rw [k_raised]
  simp [t_raised]
theorem raised_l (n : Nat) {p : Nat} {xs : List Int} {σ : Sto} (hp : σ[p]? = some (some (.lst (xs.map .int)))) (hl : xs.length ≤ 100) (m : Int) : tal tds (n + 1) 7 [.ptr p, .int m] σ = .ok (.ptr σ.length) (σ ++ [some (.lst ((xs.map fun x => x + m).map .int))]) := by
  refine ev_eq ?_
  have ty : (look σ (.ptr p)).bind (tyT tabC) = some "list" := by simp only [look, hp]; rfl
  rw [k_raised]
  simp [t_raised, ty, v_iSeqp hp]
  refine comp_ptr hp (fun x : T => match x with | T.int i => some (T.int (i + m)) | _ => none) (by simp) (by simp; omega) (fun x hx => ?_) ?_
  · obtain ⟨i, _, rfl⟩ := List.mem_map.mp hx
    simp
    exact ⟨rfl, rfl⟩
  · have e : (xs.map T.int).filterMap (fun x : T => match x with | T.int i => some (T.int (i + m)) | _ => none) = (xs.map fun x => x + m).map .int := by
      rw [List.filterMap_map, List.map_map]
      show xs.filterMap (fun x => some (T.int (x + m))) = _
      rw [fm_map]
      rfl
    rw [e]
    simp [flatT]
def upC (m : Int) : Cel → Cel
  | .n i => .n (i + m)
  | .l xs => .l (xs.map fun x => x + m)
def moreF (j : Nat) : Int := if j % 3 = 0 then 1 else if j % 3 = 1 then 2 else 5
def riseG (t : Int) (G : GL) (x : Nm) (m : Int) : List (Nm × Cel) := setc (baseG t 0 G) x (upC m ((getc (baseG t 0 G) x).getD (.n 0)))
def Trs (τ : Sto) (G : GL) (x : Nm) : Nat → Nat → List (Nat × Nat) → Nat → Prop
  | _, lo, [], hi => lo ≤ hi
  | j, lo, (b, a) :: r, hi => ∃ m h, DicAt τ lo m b (riseG ((j / 3 : Nat) : Int) G x (moreF j)) ∧ DicAt τ m h a (baseG ((j / 3 : Nat) : Int) 0 G) ∧ Trs τ G x (j + 1) h r hi
theorem Trs.le {τ : Sto} {G : GL} {x : Nm} : ∀ {ps : List (Nat × Nat)} {j lo hi : Nat}, Trs τ G x j lo ps hi → lo ≤ hi
  | [], j, lo, hi, h => h
  | (b, a) :: r, j, lo, hi, ⟨m, h, d1, d2, q⟩ => by
    have := Trs.le q
    have := d1.lk
    have := d1.hk
    have := d2.lk
    have := d2.hk
    omega
theorem Trs.mono {τ τ' : Sto} {G : GL} {x : Nm} : ∀ {ps : List (Nat × Nat)} {j lo hi hi' : Nat}, Trs τ G x j lo ps hi → (∀ p, lo ≤ p → p < hi → τ'[p]? = τ[p]?) → hi ≤ hi' → Trs τ' G x j lo ps hi'
  | [], j, lo, hi, hi', h, _, l => Nat.le_trans h l
  | (b, a) :: r, j, lo, hi, hi', ⟨m, h, d1, d2, q⟩, k, l => by
    have := q.le
    have := d1.lk
    have := d1.hk
    have := d2.lk
    have := d2.hk
    exact ⟨m, h, d1.mono (fun p h1 h2 => k p h1 (by omega)) (Nat.le_refl _), d2.mono (fun p h1 h2 => k p (by omega) (by omega)) (Nat.le_refl _), Trs.mono q (fun p h1 h2 => k p (by omega) h2) l⟩
theorem Trs.snoc {τ : Sto} {G : GL} {x : Nm} {b a m h : Nat} : ∀ {ps : List (Nat × Nat)} {j lo hi : Nat}, Trs τ G x j lo ps hi → DicAt τ hi m b (riseG (((j + ps.length) / 3 : Nat) : Int) G x (moreF (j + ps.length))) → DicAt τ m h a (baseG (((j + ps.length) / 3 : Nat) : Int) 0 G) → Trs τ G x j lo (ps ++ [(b, a)]) h
  | [], j, lo, hi, q, d1, d2 => ⟨m, h, ⟨Nat.le_trans q d1.lk, d1.hk, by
      obtain ⟨vs, e, z⟩ := d1.ex
      exact ⟨vs, e, z.mono (fun _ _ _ _ y => y) q (Nat.le_refl _)⟩⟩, d2, Nat.le_refl _⟩
  | (b', a') :: r, j, lo, hi, ⟨m', h', e1, e2, q⟩, d1, d2 => by
    have e : j + 1 + r.length = j + ((b', a') :: r).length := by simp; omega
    exact ⟨m', h', e1, e2, Trs.snoc q (by rw [e]; exact d1) (by rw [e]; exact d2)⟩
theorem getc_in {x : Nm} : ∀ {cs : List (Nm × Cel)}, x ∈ cs.map (·.1) → ∃ c, getc cs x = some c
  | [], h => by cases h
  | d :: cs, h => by
    by_cases e : d.1 = x
    · exact ⟨d.2, by simp [getc, e]⟩
    · obtain ⟨c, q⟩ := getc_in (cs := cs) (by
        rcases List.mem_cons.mp h with z | z
        · exact absurd z.symm e
        · exact z)
      exact ⟨c, by simp [getc, e, q]⟩
theorem celC_len (v : Int) (n : Nat) (hn : n ≤ 20) : ∀ xs, celC v n = .l xs → xs.length ≤ 20 ∧ 0 < xs.length := fun xs h => by
  unfold celC at h
  split at h
  · cases h
  · cases h
    simp
    omega
theorem base_len (t : Int) : ∀ {G : GL} (i : Nat), (∀ g ∈ G, g.2 ≤ 20) → ∀ x xs, getc (baseG t i G) x = some (.l xs) → xs.length ≤ 20 ∧ 0 < xs.length
  | [], i, _, x, xs, e => by cases e
  | g :: G, i, h, x, xs, e => by
    simp only [baseG, getc] at e
    split at e
    · exact celC_len _ _ (h g List.mem_cons_self) xs (Option.some.inj e)
    · exact base_len t (i + 1) (fun g hg => h g (List.mem_cons_of_mem _ hg)) x xs e
/-- one given of a dict is raised -/
theorem rise_ (n : Nat) {τ : Sto} {lo hi k : Nat} {cs : List (Nm × Cel)} (d : DicAt τ lo hi k cs) (hh : hi = τ.length) {x : Nm} {c : Cel} (e : getc cs x = some c) (hc : ∀ xs, c = .l xs → xs.length ≤ 100) (hx : x ∈ cs.map (·.1)) (hl : cs.length < 1000000) (m : Int) :
    ∃ v w τ1 τ2, tIx (.ptr k) (.str x) τ = .ok v τ ∧ tal tds (n + 1) 7 [v, .int m] τ = .ok w τ1 ∧ setC (.ptr k) (.str x) w τ1 = .ok () τ2 ∧ τ.length ≤ τ2.length ∧ (∀ p, p < τ.length → p ≠ k → τ2[p]? = τ[p]?) ∧ DicAt τ2 lo τ2.length k (setc cs x (upC m c)) := by
  obtain ⟨v, e1, q⟩ := d.ix e
  subst hh
  cases c with
  | n i =>
    cases (show v = .int i from q)
    obtain ⟨τ2, es, l, o, d2⟩ := d.put (c := .n (i + m)) (v := .int (i + m)) hx hl rfl
    exact ⟨_, _, τ, τ2, e1, raised_i n i m τ, es, by omega, fun p _ h => o p h, by rw [l]; exact d2⟩
  | l xs =>
    obtain ⟨p, rfl, h1, h2, h3⟩ := q
    have q2 := raised_l n h3 (hc xs rfl) m
    have d1 : DicAt (τ ++ [some (T.lst ((xs.map fun x => x + m).map .int))]) lo (τ.length + 1) k cs := d.mono (fun p _ hp => List.getElem?_append_left hp) (Nat.le_succ _)
    have vo : VOk (τ ++ [some (T.lst ((xs.map fun x => x + m).map .int))]) lo (τ.length + 1) (.ptr τ.length) (.l (xs.map fun x => x + m)) := ⟨_, rfl, by have := d.lk; have := d.hk; omega, by omega, by simp⟩
    obtain ⟨τ2, es, l, o, d2⟩ := d1.put hx hl vo
    refine ⟨_, _, _, τ2, e1, q2, es, by simp at l; omega, fun r hr hne => (o r hne).trans (List.getElem?_append_left hr), ?_⟩
    rw [l]
    simpa [upC] using d2
end Q62

namespace Q62
open Tr
open Pa (Cfg DKey)
def pairT (p : Nat × Nat) : T := .tup [.ptr p.2, .ptr p.1]
structure GOk (hs : List Hd) (x : Nm) : Prop where
  ok : ∀ h ∈ hs, okH h
  nd : ((givG hs).map (·.1)).Nodup
  ln : hs.length ≤ 100
  xin : x ∈ (givG hs).map (·.1)
theorem giv_ok {hs : List Hd} (h : ∀ h ∈ hs, okH h) : ∀ g ∈ givG hs, g.2 ≤ 20 := fun g hg => by
  obtain ⟨d, hd, e⟩ := List.mem_filterMap.mp hg
  have := h d hd
  cases d <;> cases e
  simp only [okH] at this
  show _ ≤ 20
  omega
theorem giv_len {hs : List Hd} (h : hs.length ≤ 100) : (givG hs).length ≤ 100 := Nat.le_trans (List.length_filterMap_le _ _) h
/-- one try -/
theorem try_ (n : Nat) {hs : List Hd} {x : Nm} (G : GOk hs x) {t : Int} (ht : 0 ≤ t ∧ t ≤ 3) (m : Int) (σ : Sto) : ∃ (b a h : Nat) (v w : T) (τ1 τ2 τ3 τ4 : Sto), tal tds (n + 1) 6 [prT hs, .int t] σ = .ok (.ptr b) τ1 ∧ tIx (.ptr b) (.str x) τ1 = .ok v τ1 ∧ tal tds (n + 1) 7 [v, .int m] τ1 = .ok w τ2 ∧
    setC (.ptr b) (.str x) w τ2 = .ok () τ3 ∧ tal tds (n + 1) 6 [prT hs, .int t] τ3 = .ok (.ptr a) τ4 ∧ σ.length ≤ h ∧ (∀ p, p < σ.length → τ4[p]? = σ[p]?) ∧
    DicAt τ4 σ.length h b (riseG t (givG hs) x m) ∧ DicAt τ4 h τ4.length a (baseG t 0 (givG hs)) := by
  obtain ⟨r1, τ1, q1, rfl, X1, e1, d1⟩ := base_ n G.ok G.nd G.ln ht σ
  have hx : x ∈ (baseG t 0 (givG hs)).map (·.1) := by rw [baseG_names]; exact G.xin
  obtain ⟨c, hc⟩ := getc_in hx
  have hc2 : ∀ xs, c = .l xs → xs.length ≤ 100 := fun xs z => by
    subst z
    have := base_len t 0 (giv_ok G.ok) x xs hc
    omega
  have hl : (baseG t 0 (givG hs)).length < 1000000 := by
    rw [baseG_len]
    have := giv_len G.ln
    omega
  obtain ⟨v, w, τ2, τ3, e2, q2, s2, l2, k2, d2⟩ := rise_ n d1 rfl hc hc2 hx hl m
  obtain ⟨r4, τ4, q4, rfl, X4, e4, d4⟩ := base_ n G.ok G.nd G.ln ht τ3
  have er : setc (baseG t 0 (givG hs)) x (upC m c) = riseG t (givG hs) x m := by rw [riseG, hc]; rfl
  rw [er] at d2
  have l1 : σ.length ≤ τ1.length := by rw [e1]; simp
  have k4 : ∀ p, p < τ3.length → τ4[p]? = τ3[p]? := fun p hp => by rw [e4, List.getElem?_append_left hp]
  refine ⟨σ.length, τ3.length, τ3.length, v, w, τ1, τ2, τ3, τ4, q1, e2, q2, s2, q4, by omega, fun p hp => ?_, d2.mono (fun p _ h => k4 p h) (Nat.le_refl _), d4⟩
  rw [k4 p (by omega), k2 p (by omega) (by omega), e1, List.getElem?_append_left hp]
theorem tried_ (n : Nat) {hs : List Hd} {x : Nm} (G : GOk hs x) (σ : Sto) : Ev (tal tds (n + 2) 8 [prT hs, .str x] σ) fun r τ => ∃ ps : List (Nat × Nat), r = .lst (ps.map pairT) ∧ ps.length = 12 ∧ Trs τ (givG hs) x 0 σ.length ps τ.length := by
  rw [k_tried]
  simp [t_tried]
  refine for_rng (fun j E τ => ∃ (o3 o4 o5 : Option T) (ps : List (Nat × Nat)), E = [some (prT hs), some (.str x), some (.lst (ps.map pairT)), o3, o4, o5] ∧ ps.length = 3 * j ∧ σ.length ≤ τ.length ∧ Trs τ (givG hs) x 0 σ.length ps τ.length) ⟨none, none, none, [], rfl, rfl, Nat.le_refl _, Nat.le_refl _⟩ (fun j E τ hj ⟨o3, o4, o5, ps, e1, lp, lt, tr⟩ => ?_) (fun E τ ⟨o3, o4, o5, ps, e1, lp, lt, tr⟩ => ?_)
  · subst e1
    simp
    refine for_tup (fun i E τ => ∃ (o4 o5 : Option T) (ps : List (Nat × Nat)), E = [some (prT hs), some (.str x), some (.lst (ps.map pairT)), some (.int (j : Int)), o4, o5] ∧ ps.length = 3 * j + i ∧ σ.length ≤ τ.length ∧ Trs τ (givG hs) x 0 σ.length ps τ.length) ⟨o4, o5, ps, rfl, by omega, lt, tr⟩ (by rfl) (fun i E τ y hy ⟨o4, o5, ps, e1, lp, lt, tr⟩ => ?_) (fun E τ ⟨o4, o5, ps, e1, lp, lt, tr⟩ => ?_)
    · subst e1
      have hi : i < 3 := (List.getElem?_eq_some_iff.mp hy).1
      obtain ⟨m, rfl, hm⟩ : ∃ m : Int, y = .int m ∧ m = moreF (3 * j + i) := by
        have hi : i = 0 ∨ i = 1 ∨ i = 2 := by omega
        have h0 : (3 * j) % 3 = 0 := by omega
        have h1 : (3 * j + 1) % 3 = 1 := by omega
        have h2 : (3 * j + 2) % 3 = 2 := by omega
        rcases hi with rfl | rfl | rfl
        · exact ⟨1, (Option.some.inj hy).symm, by simp [moreF, h0]⟩
        · exact ⟨2, (Option.some.inj hy).symm, by simp [moreF, h1]⟩
        · exact ⟨5, (Option.some.inj hy).symm, by simp [moreF, h2]⟩
      obtain ⟨b, a, h, v, w, τ1, τ2, τ3, τ4, q1, q2, q3, q4, q5, l1, k1, d1, d2⟩ := try_ n G (t := (j : Int)) (by omega) m τ
      have lp2 : ps.length < 1000000 := by omega
      simp [q1, q2, q3, q4, q5, lp2]
      have e3 : (0 + ps.length) / 3 = j := by omega
      have tr2 := (tr.mono (fun p _ hp => k1 p hp) (Nat.le_refl _)).snoc (b := b) (a := a) (m := h) (h := τ4.length) (by rw [e3, Nat.zero_add, lp, ← hm]; exact d1) (by rw [e3]; exact d2)
      have := d2.lk
      have := d2.hk
      exact ⟨_, _, ps ++ [(b, a)], ⟨by simp [pairT], rfl, rfl⟩, by simp; omega, by omega, tr2⟩
    · subst e1
      simp
      exact ⟨_, _, _, ps, ⟨rfl, rfl, rfl, rfl⟩, by simp at lp; omega, lt, tr⟩
  · subst e1
    simp
    exact ⟨ps, rfl, by omega, tr⟩
end Q62

namespace Q62
open Tr
open Pa (Cfg DKey)
/-! what is due -/
def giftT (cs : List (Nm × Cel)) : T := .dk (keysT cs) (cs.map fun p => celT p.2)
def dueG (t : Int) (x : Nm) (m : Int) : Nat → GL → List (Nm × Cel)
  | _, [] => []
  | i, g :: G => (g.1, celC (t * ((i : Int) + 1) + if g.1 = x then m else 0) g.2) :: dueG t x m (i + 1) G
theorem dueG_app (t : Int) (x : Nm) (m : Int) : ∀ (i : Nat) (G H : GL), dueG t x m i (G ++ H) = dueG t x m i G ++ dueG t x m (i + G.length) H
  | i, [], H => by simp [dueG]
  | i, g :: G, H => by
    have e : i + 1 + G.length = i + (G.length + 1) := by omega
    simp only [List.cons_append, dueG, dueG_app t x m (i + 1) G H, List.length_cons, e]
theorem dueG_len (t : Int) (x : Nm) (m : Int) : ∀ (i : Nat) (G : GL), (dueG t x m i G).length = G.length
  | i, [] => rfl
  | i, g :: G => by simp [dueG, dueG_len t x m (i + 1) G]
theorem dueG_names (t : Int) (x : Nm) (m : Int) : ∀ (i : Nat) (G : GL), (dueG t x m i G).map (·.1) = G.map (·.1)
  | i, [] => rfl
  | i, g :: G => by simp [dueG, dueG_names t x m (i + 1) G]
theorem due_base (t : Int) (x : Nm) : ∀ (i : Nat) (G : GL), dueG t x 0 i G = baseG t i G
  | i, [] => rfl
  | i, g :: G => by simp [dueG, baseG, due_base t x (i + 1) G]
theorem up_cel (m v : Int) (n : Nat) : upC m (celC v n) = celC (v + m) n := by
  unfold celC
  split
  · rfl
  · simp only [upC, List.map_map]
    refine congrArg Cel.l (List.map_congr_left fun j _ => ?_)
    show v + (j : Int) + m = v + m + (j : Int)
    omega
theorem setc_not {x : Nm} {c : Cel} : ∀ {cs : List (Nm × Cel)}, x ∉ cs.map (·.1) → setc cs x c = cs
  | [], _ => rfl
  | d :: cs, h => by
    have h1 : d.1 ≠ x := fun z => h (by simp [z])
    have h2 : x ∉ cs.map (·.1) := fun z => h (List.mem_cons_of_mem _ z)
    have := setc_not (c := c) h2
    simp only [setc] at this ⊢
    rw [List.map_cons, this, if_neg h1]
theorem due_not (t : Int) {x : Nm} (m : Int) : ∀ (i : Nat) (G : GL), x ∉ G.map (·.1) → dueG t x m i G = baseG t i G
  | i, [], _ => rfl
  | i, g :: G, h => by
    have h1 : g.1 ≠ x := fun z => h (by simp [z])
    have h2 : x ∉ G.map (·.1) := fun z => h (List.mem_cons_of_mem _ z)
    simp [dueG, baseG, due_not t m (i + 1) G h2, h1]
theorem due_rise (t : Int) {x : Nm} (m : Int) : ∀ (i : Nat) (G : GL), (G.map (·.1)).Nodup → x ∈ G.map (·.1) → dueG t x m i G = setc (baseG t i G) x (upC m ((getc (baseG t i G) x).getD (.n 0)))
  | i, [], _, h => by cases h
  | i, g :: G, nd, h => by
    rw [List.map_cons, List.nodup_cons] at nd
    by_cases e : g.1 = x
    · subst e
      have s := setc_not (x := g.1) (c := upC m (celC (t * ((i : Int) + 1)) g.2)) (cs := baseG t (i + 1) G) (by rw [baseG_names]; exact nd.1)
      simp only [setc, up_cel] at s
      simp [dueG, baseG, getc, setc, due_not t m (i + 1) G nd.1, up_cel, s]
    · have h2 : x ∈ G.map (·.1) := by
        rcases List.mem_cons.mp h with z | z
        · exact absurd z.symm e
        · exact z
      have ih := due_rise t m (i + 1) G nd.2 h2
      simp only [setc] at ih
      simp [dueG, baseG, getc, setc, e, ih]
def isGiv : Hd → Bool
  | .given _ _ _ _ => true
  | _ => false
theorem rpl_last {j : DKey} {t x : T} : ∀ {ks : List DKey} {xs : List T}, ks.length = xs.length → (ks.any fun k => decide (k = j)) = false → rplT (ks ++ [j]) (xs ++ [x]) j t = xs ++ [t]
  | [], [], _, _ => by simp [rplT]
  | [], _ :: _, h, _ => by cases h
  | _ :: _, [], h, _ => by cases h
  | k :: ks, y :: xs, h, q => by
    rw [List.any_cons, Bool.or_eq_false_iff] at q
    have ih := rpl_last (t := t) (x := x) (Nat.succ.inj h) q.2
    have ne : ¬ k = j := of_decide_eq_false q.1
    simp [rplT, ih, ne]
theorem any_last {j : DKey} (ks : List DKey) : ((ks ++ [j]).any fun k => decide (k = j)) = true := by simp
theorem due_ (n : Nat) {gs : List Hd} (hg : ∀ h ∈ gs, isGiv h = true) (ho : ∀ h ∈ gs, okH h) (nd : ((givG gs).map (·.1)).Nodup) (hl : gs.length ≤ 100) {t : Int} (ht : 0 ≤ t ∧ t ≤ 3) (x : Nm) (m : Int) (σ : Sto) :
    tal tds (n + 1) 12 [.lst (gs.map hdT), .int t, .str x, .int m] σ = .ok (giftT (dueG t x m 0 (givG gs))) σ := by
  have bt : -18446744073709551616 < t ∧ t < 18446744073709551616 := by omega
  refine ev_eq ?_
  rw [k__law_due]
  simp [t__law_due]
  refine ⟨by omega, ?_⟩
  refine for_rng (fun j E τ => τ = σ ∧ ∃ (o5 o6 o7 : Option T), E = [some (.lst (gs.map hdT)), some (.int t), some (.str x), some (.int m), some (giftT (dueG t x m 0 (givG (gs.take j)))), o5, o6, o7]) ⟨rfl, none, none, none, rfl⟩ (fun j E τ hj ⟨e0, o5, o6, o7, e1⟩ => ?_) (fun E τ ⟨e0, o5, o6, o7, e1⟩ => ?_)
  · subst e0 e1
    have e := List.getElem?_eq_getElem (show j < gs.length by omega)
    generalize gs[j] = h at e
    have hm := List.mem_of_getElem? e
    have tk : gs.take (j + 1) = gs.take j ++ [h] := by rw [List.take_succ, e]; rfl
    have dr : gs = gs.take j ++ h :: gs.drop (j + 1) := by
      have e2 := (List.getElem?_eq_some_iff.mp e).2
      rw [← e2, ← List.drop_eq_getElem_cons (show j < gs.length by omega), List.take_append_drop]
    have ll : (givG (gs.take j)).length = j := by
      have z : ∀ hs : List Hd, (∀ h ∈ hs, isGiv h = true) → (givG hs).length = hs.length := fun hs => by
        induction hs with
        | nil => intro _; rfl
        | cons h hs ih =>
          intro q
          have q1 := q h List.mem_cons_self
          have q2 := ih fun h hh => q h (List.mem_cons_of_mem _ hh)
          cases h <;> first | cases q1 | skip
          simp only [givG, List.filterMap_cons, givH, List.length_cons] at q2 ⊢
          rw [q2]
      rw [z _ fun h hh => hg h (List.mem_of_mem_take hh), List.length_take]
      omega
    have hi := hg h hm
    cases h <;> first | cases hi | skip
    rename_i k y r s
    have hm := ho _ hm
    simp only [okH] at hm
    have gv : givG (gs.take (j + 1)) = givG (gs.take j) ++ [(y, s.toNat)] := by rw [tk]; simp [givG, givH]
    have hy : y ∉ (dueG t x m 0 (givG (gs.take j))).map (·.1) := by
      rw [dueG_names]
      rw [dr] at nd
      simp only [givG, List.filterMap_append, List.filterMap_cons, givH, List.map_append, List.map_cons] at nd
      rw [List.nodup_append] at nd
      intro hx
      exact nd.2.2 y hx y List.mem_cons_self rfl
    have bl := dueG_len t x m 0 (givG (gs.take j))
    rw [ll] at bl
    have hb : dueG t x m 0 (givG (gs.take (j + 1))) = dueG t x m 0 (givG (gs.take j)) ++ [(y, celC (t * ((j : Int) + 1) + if y = x then m else 0) s.toNat)] := by
      rw [gv, dueG_app, ll, Nat.zero_add]
      rfl
    generalize dueG t x m 0 (givG (gs.take j)) = cs at *
    have ix : L2.atI (gs.map hdT) (j : Int) = some (hdT (.given k y r s)) := Pa.at_nat (by rw [List.getElem?_map, e]; rfl)
    obtain ⟨M, rfl⟩ : ∃ M : Nat, s = (M : Int) := ⟨s.toNat, by omega⟩
    have bM : -1000000 ≤ (M : Int) ∧ (M : Int) ≤ 1000000 := by omega
    have kl : (keysT cs).length < 1000000 := by simp [keysT]; omega
    have nk := not_key hy
    have kl2 : (keysT cs).length + 1 < 1000000 := by simp [keysT]; omega
    have ll2 : (keysT cs).length = (cs.map fun p => celT p.2).length := by simp [keysT]
    have al := any_last (j := .inr y) (keysT cs)
    have fin : ∀ v : Int, ¬ M = 0 → dueG t x m 0 (givG (gs.take (j + 1))) = cs ++ [(y, celC v M)] → keysT cs ++ [Sum.inr y] = keysT (dueG t x m 0 (givG (gs.take (j + 1)))) ∧ (cs.map fun p => celT p.2) ++ [T.lst ((List.range M).map fun (i : Nat) => T.int (v + (i : Int)))] = (dueG t x m 0 (givG (gs.take (j + 1)))).map fun p => celT p.2 := fun v m0 hb => by
      rw [hb]
      simp [keysT, celC, m0, celT]
    by_cases ex : y = x
    · subst ex
      by_cases m0 : M = 0
      · simp [hdT, ix, bt, m0, giftT, kl, putKs, putXs, nk]
        rw [hb]
        simp [keysT, celC, m0, celT]
      · simp [hdT, ix, bt, m0, bM, giftT, kl, putKs, putXs, nk]
        intro _
        refine comp_rng (fun i => some (.int (t * ((j : Int) + 1) + m + (i : Int)))) (by omega) (fun i hi => ?_) ?_
        · simp
          exact ⟨rfl, rfl⟩
        rw [fm_map]
        have rl := rpl_last (t := .lst ((List.range M).map fun (i : Nat) => T.int (t * ((j : Int) + 1) + m + (i : Int)))) (x := .int (t * ((j : Int) + 1) + m)) ll2 nk
        have f := fin _ m0 (by simpa using hb)
        simp [hdT, ix, kl2, putKs, putXs, al, rl]
        exact f
    · by_cases m0 : M = 0
      · simp [hdT, ix, bt, m0, ex, giftT, kl, putKs, putXs, nk]
        rw [hb]
        simp [keysT, celC, m0, celT, ex]
      · simp [hdT, ix, bt, m0, ex, bM, giftT, kl, putKs, putXs, nk]
        intro _
        refine comp_rng (fun i => some (.int (t * ((j : Int) + 1) + (i : Int)))) (by omega) (fun i hi => ?_) ?_
        · simp
          exact ⟨rfl, rfl⟩
        rw [fm_map]
        have rl := rpl_last (t := .lst ((List.range M).map fun (i : Nat) => T.int (t * ((j : Int) + 1) + (i : Int)))) (x := .int (t * ((j : Int) + 1))) ll2 nk
        have f := fin _ m0 (by simpa [ex] using hb)
        simp [hdT, ix, kl2, putKs, putXs, al, rl]
        exact f
  · subst e0 e1
    simp
end Q62

namespace Q62
open Tr
open Pa (Cfg DKey)
theorem lkp_gift (x : Nm) : ∀ G : List (Nm × Cel), lkpT (keysT G) (G.map fun p => celT p.2) (.inr x) = (getc G x).map celT
  | [] => by simp [getc, keysT, lkpT]
  | p :: r => by
    have ih := lkp_gift x r
    simp only [keysT] at ih
    simp only [keysT, List.map_cons, lkp_cons, getc]
    by_cases e : p.1 = x
    · simp [e]
    · have e2 : ¬ (Sum.inr p.1 : DKey) = .inr x := fun z => e (Sum.inr.inj z)
      rw [if_neg e2, if_neg e, ih]
theorem getc_nd : ∀ {cs : List (Nm × Cel)} {p : Nm × Cel}, (cs.map (·.1)).Nodup → p ∈ cs → getc cs p.1 = some p.2
  | d :: cs, p, nd, h => by
    rw [List.map_cons, List.nodup_cons] at nd
    rcases List.mem_cons.mp h with rfl | h
    · simp [getc]
    · have ne : ¬ d.1 = p.1 := fun z => nd.1 (List.mem_map.mpr ⟨p, h, z.symm⟩)
      simp only [getc, if_neg ne]
      exact getc_nd nd.2 h
section
variable {σ τ : Sto} {lo hi k : Nat} {cs : List (Nm × Cel)}
theorem VOks.zmem : ∀ {vs : List T} {cs : List (Nm × Cel)} {p : DKey × T}, VOks σ lo hi vs cs → p ∈ (keysT cs).zip vs → ∃ q ∈ cs, p.1 = .inr q.1 ∧ VOk σ lo hi p.2 q.2
  | [], [], p, h, m => by cases m
  | v :: vs, c :: cs, p, h, m => by
    simp only [keysT, List.map_cons, List.zip_cons_cons] at m
    rcases List.mem_cons.mp m with rfl | m
    · exact ⟨c, List.mem_cons_self, rfl, h.1⟩
    · obtain ⟨q, h1, h2⟩ := VOks.zmem h.2 m
      exact ⟨q, List.mem_cons_of_mem _ h1, h2⟩
  | [], _ :: _, _, h, _ => h.elim
  | _ :: _, [], _, h, _ => h.elim
theorem eqTT_s (σ : Sto) (n : Nat) (x y : T) : eqTT σ (n + 1) x y = (sameF x y || (idT x y || eqObT σ (eqTT σ n) x y)) := rfl
theorem eqTT_i (σ : Sto) (n : Nat) (i : Int) : eqTT σ (n + 1) (.int i) (.int i) = true := by
  rw [eqTT_s, show sameF (.int i) (.int i) = true from beq_self_eq_true i, Bool.true_or]
theorem eqAll_i (σ : Sto) (n : Nat) : ∀ (xs : List Int), eqAllT (eqTT σ (n + 1)) (xs.map .int) (xs.map .int) = true
  | [] => rfl
  | x :: xs => by
    simp only [List.map_cons, eqAllT, eqAll_i σ n xs, eqTT_i, Bool.and_true]
theorem eqTT_v (n : Nat) {v : T} {c : Cel} (h : VOk σ lo hi v c) : eqTT σ (n + 2) v (celT c) = true := by
  cases c with
  | n i =>
    cases (show v = .int i from h)
    exact eqTT_i σ (n + 1) i
  | l xs =>
    obtain ⟨p, rfl, _, _, e⟩ := h
    have q : eqObT σ (eqTT σ (n + 1)) (.ptr p) (.lst (xs.map .int)) = true := by
      simp only [eqObT, look, e]
      exact eqAll_i σ n xs
    rw [celT, eqTT_s, q, Bool.or_true, Bool.or_true]
theorem eq_dic (d : DicAt σ lo hi k cs) (nd : (cs.map (·.1)).Nodup) : tEq false (.ptr k) (giftT cs) σ = .ok (.bl true) σ := by
  obtain ⟨vs, e, q⟩ := d.ex
  have key : eqObT σ (eqTT σ 60) (.ptr k) (giftT cs) = true := by
    have tt : ∀ v c, VOk σ lo hi v c → eqTT σ 60 v (celT c) = true := fun v c h => eqTT_v 58 h
    generalize eqTT σ 60 = F at tt
    simp only [eqObT, look, e, giftT, Bool.and_eq_true, decide_eq_true_eq, true_and, List.all_eq_true]
    intro p hp
    obtain ⟨c, hc, e1, h⟩ := q.zmem hp
    rw [e1, lkp_gift, getc_nd nd hc]
    exact tt _ _ h
  have l1 : look σ (.ptr k) = some (.dk (keysT cs) vs) := by simp only [look, e]
  have l2 : look σ (giftT cs) = some (giftT cs) := rfl
  unfold tEq
  rw [l1, l2]
  have s : scalT (.dk (keysT cs) vs) (giftT cs) = false := rfl
  have dt : datT (.dk (keysT cs) vs) = none := by simp [datT]
  simp only [s, dt, key]
  rfl
theorem DicAt.isin (h : DicAt σ lo hi k cs) {x : Nm} {c : Cel} (e : getc cs x = some c) : tIn true (.str x) (.ptr k) σ = .ok (.bl false) σ := by
  obtain ⟨vs, e1, q⟩ := h.ex
  obtain ⟨v, e2, q2⟩ := q.lkp e
  simp [tIn, look, e1, e2]
theorem DicAt.ty (h : DicAt σ lo hi k cs) : (look σ (.ptr k)).bind (tyT tabC) = some "dict" := by
  obtain ⟨vs, e1, q⟩ := h.ex
  simp only [look, e1]
  rfl
theorem all_t (xs : List Int) (σ : Sto) : tAll [.lst ((xs.map T.int).filterMap fun _ => some (T.bl true))] σ = .ok (.bl true) σ := by
  rw [fm_map, List.map_map]
  have z := w_all σ (bls_map (fun _ : Int => true) xs)
  rw [show (xs.map (fun _ : Int => true)).all id = true by simp] at z
  exact z
theorem same_ (n : Nat) (d : DicAt τ lo hi k cs) (nd : (cs.map (·.1)).Nodup) (hx : ∀ x xs, getc cs x = some (.l xs) → xs.length ≤ 100) : tal tds (n + 1) 13 [.ptr k, giftT cs] τ = .ok (.bl true) τ := by
  have ty := d.ty
  have ln := d.len
  have eq := eq_dic d nd
  have ln2 : tLen [giftT cs] τ = .ok (.int cs.length) τ := by simp [giftT, keysT]
  refine ev_eq ?_
  rw [k__law_same]
  simp [t__law_same, ty, ln, ln2]
  rw [giftT]
  simp
  refine for_keys (fun j E τ' => τ' = τ ∧ ∃ (o2 o3 o4 : Option T), E = [some (.ptr k), some (giftT cs), o2, o3, o4]) ⟨rfl, none, none, none, rfl⟩ (by simp) (fun j E τ' key hk ⟨e0, o2, o3, o4, e1⟩ => ?_) (fun E τ' ⟨e0, o2, o3, o4, e1⟩ => ?_)
  · subst e0 e1
    simp only [keysT, List.getElem?_map] at hk
    obtain ⟨p, hp, rfl⟩ := Option.map_eq_some_iff.mp hk
    have g := getc_nd nd (List.mem_of_getElem? hp)
    obtain ⟨v, ix, vo⟩ := d.ix g
    have iy : tIx (giftT cs) (.str p.1) τ' = .ok (celT p.2) τ' := by
      rw [giftT, w_ixd, key_s, Option.bind_some, lkp_gift, g]
      rfl
    have isn := d.isin g
    obtain ⟨x, c⟩ := p
    simp only at g ix iy isn vo
    cases c with
    | n i =>
      cases (show v = .int i from vo)
      simp [isn, ix, iy, celT]
      refine comp_lst (fun _ => some (.bl true)) rfl (by simp) (fun z hz => ?_) ?_
      · rw [List.mem_singleton.mp hz]
        simp
        exact ⟨rfl, rfl⟩
      · have ta : ∀ σ, tAll [.lst [.bl true]] σ = .ok (.bl true) σ := fun σ => rfl
        simp [ta]
    | l xs =>
      obtain ⟨q, rfl, _, _, e⟩ := vo
      have ty2 : (look τ' (.ptr q)).bind (tyT tabC) = some "list" := by simp only [look, e]; rfl
      have b := hx _ _ g
      simp [isn, ix, iy, celT, ty2, v_iSeqp e]
      refine comp_ptr e (fun _ => some (.bl true)) (by simp) (by simp; omega) (fun z hz => ?_) ?_
      · obtain ⟨i, _, rfl⟩ := List.mem_map.mp hz
        simp
        exact ⟨rfl, rfl⟩
      · have ta := all_t xs
        generalize (xs.map T.int).filterMap (fun _ => some (T.bl true)) = Y at ta ⊢
        simp [ta]
  · subst e0 e1
    simp [eq]
end
/-! what is told is changed -/
def WOk (τ : Sto) (lo hi : Nat) (v : T) : Prop := (∃ i, v = .int i) ∨ ∃ p xs, v = .ptr p ∧ lo ≤ p ∧ p < hi ∧ τ[p]? = some (some (.lst xs)) ∧ 0 < xs.length
structure DK (τ : Sto) (lo hi k : Nat) (ks : List DKey) : Prop where
  lk : lo ≤ k
  hk : k < hi
  ex : ∃ vs, τ[k]? = some (some (.dk ks vs)) ∧ vs.length = ks.length ∧ ∀ v ∈ vs, WOk τ lo hi v
theorem VOks.mem {σ : Sto} {lo hi : Nat} {v : T} : ∀ {vs : List T} {cs : List (Nm × Cel)}, VOks σ lo hi vs cs → v ∈ vs → ∃ q ∈ cs, VOk σ lo hi v q.2
  | [], [], h, m => by cases m
  | w :: vs, c :: cs, h, m => by
    rcases List.mem_cons.mp m with rfl | m
    · exact ⟨c, List.mem_cons_self, h.1⟩
    · obtain ⟨q, h1, h2⟩ := VOks.mem h.2 m
      exact ⟨q, List.mem_cons_of_mem _ h1, h2⟩
  | [], _ :: _, h, _ => h.elim
  | _ :: _, [], h, _ => h.elim
theorem DicAt.dk {τ : Sto} {lo hi k : Nat} {cs : List (Nm × Cel)} (d : DicAt τ lo hi k cs) (nd : (cs.map (·.1)).Nodup) (hx : ∀ x xs, getc cs x = some (.l xs) → 0 < xs.length) : DK τ lo hi k (keysT cs) := by
  obtain ⟨vs, e, q⟩ := d.ex
  refine ⟨d.lk, d.hk, vs, e, by rw [q.len]; simp [keysT], fun v hv => ?_⟩
  obtain ⟨c, hc, h⟩ := q.mem hv
  have g := getc_nd nd hc
  obtain ⟨x, c⟩ := c
  cases c with
  | n i => exact .inl ⟨i, h⟩
  | l xs =>
    obtain ⟨p, e1, h1, h2, h3⟩ := h
    have := hx _ _ g
    exact .inr ⟨p, _, e1, h1, h2, h3, by simpa using this⟩
theorem lkp_mem {j : DKey} : ∀ {ks : List DKey} {vs : List T}, vs.length = ks.length → j ∈ ks → ∃ v ∈ vs, lkpT ks vs j = some v
  | [], _, _, h => by cases h
  | k :: ks, [], l, h => by cases l
  | k :: ks, v :: vs, l, h => by
    by_cases e : k = j
    · exact ⟨v, List.mem_cons_self, by simp [e]⟩
    · obtain ⟨w, h1, h2⟩ := lkp_mem (vs := vs) (Nat.succ.inj l) ((List.mem_cons.mp h).resolve_left fun z => e z.symm)
      exact ⟨w, List.mem_cons_of_mem _ h1, by simp [e, h2]⟩
theorem rpl_mem {j : DKey} {t w : T} : ∀ {ks : List DKey} {vs : List T}, w ∈ rplT ks vs j t → w = t ∨ w ∈ vs
  | [], _, h => by simp [rplT] at h
  | _ :: _, [], h => by simp [rplT] at h
  | k :: ks, v :: vs, h => by
    rw [rplT] at h
    rcases List.mem_cons.mp h with h | h
    · split at h
      · exact .inl h
      · exact .inr (h ▸ List.mem_cons_self)
    · rcases rpl_mem h with h | h
      · exact .inl h
      · exact .inr (List.mem_cons_of_mem _ h)
theorem rpl_len {j : DKey} {t : T} : ∀ {ks : List DKey} {vs : List T}, vs.length = ks.length → (rplT ks vs j t).length = ks.length
  | [], [], _ => rfl
  | [], _ :: _, h => by cases h
  | _ :: _, [], h => by cases h
  | k :: ks, v :: vs, h => by simp [rplT, rpl_len (ks := ks) (vs := vs) (Nat.succ.inj h)]
theorem DK.ix {τ : Sto} {lo hi k : Nat} {ks : List DKey} (d : DK τ lo hi k ks) {x : Nm} (hx : .inr x ∈ ks) : ∃ v, tIx (.ptr k) (.str x) τ = .ok v τ ∧ WOk τ lo hi v := by
  obtain ⟨vs, e, l, h⟩ := d.ex
  obtain ⟨v, h1, h2⟩ := lkp_mem l hx
  refine ⟨v, ?_, h v h1⟩
  simp only [tIx, look, e]
  simp [h2, R.of]
/-- a list's first number is changed -/
theorem DK.lst {τ : Sto} {lo hi k : Nat} {ks : List DKey} (d : DK τ lo hi k ks) {p : Nat} {xs : List T} (e : τ[p]? = some (some (.lst xs))) (hl : 0 < xs.length) : ∃ τ', setC (.ptr p) (.int 0) (.int 99) τ = .ok () τ' ∧ τ'.length = τ.length ∧ (∀ q, q ≠ p → τ'[q]? = τ[q]?) ∧ DK τ' lo hi k ks := by
  have ix : L2.ixN xs.length 0 = some 0 := by
    unfold L2.ixN
    have h : xs ≠ [] := fun z => by subst z; cases hl
    simp [h]
  have pl := (List.getElem?_eq_some_iff.mp e).1
  refine ⟨τ.set p (some (.lst (xs.set 0 (.int 99)))), ?_, by simp, fun q hq => List.getElem?_set_ne (Ne.symm hq), ?_⟩
  · simp only [setC, e, setT, ix]
  · obtain ⟨vs, e2, l, h⟩ := d.ex
    have ne : p ≠ k := fun z => by subst z; rw [e] at e2; cases e2
    refine ⟨d.lk, d.hk, vs, by rw [List.getElem?_set_ne ne]; exact e2, l, fun v hv => ?_⟩
    rcases h v hv with z | ⟨q, ys, rfl, h1, h2, h3, h4⟩
    · exact .inl z
    · by_cases hq : p = q
      · subst hq
        rw [e] at h3
        cases h3
        exact .inr ⟨p, _, rfl, h1, h2, List.getElem?_set_self pl, by simpa using h4⟩
      · exact .inr ⟨q, ys, rfl, h1, h2, by rw [List.getElem?_set_ne hq]; exact h3, h4⟩
theorem DK.put {τ : Sto} {lo hi k : Nat} {ks : List DKey} (d : DK τ lo hi k ks) {x : Nm} (hx : .inr x ∈ ks) (hl : ks.length < 1000000) : ∃ τ', setC (.ptr k) (.str x) (.int 99) τ = .ok () τ' ∧ τ'.length = τ.length ∧ (∀ q, q ≠ k → τ'[q]? = τ[q]?) ∧ DK τ' lo hi k ks := by
  obtain ⟨vs, e, l, h⟩ := d.ex
  have an : (ks.any fun k => decide (k = .inr x)) = true := by
    rw [List.any_eq_true]
    exact ⟨_, hx, by simp⟩
  have pl := (List.getElem?_eq_some_iff.mp e).1
  refine ⟨τ.set k (some (.dk ks (rplT ks vs (.inr x) (.int 99)))), ?_, by simp, fun q hq => List.getElem?_set_ne (Ne.symm hq), ?_⟩
  · simp only [setC, e, set_dk, key_s, Option.bind_some, hl, if_true, putKs, putXs, an]
  · refine ⟨d.lk, d.hk, _, List.getElem?_set_self pl, rpl_len l, fun v hv => ?_⟩
    have keep : ∀ v, WOk τ lo hi v → WOk (τ.set k (some (.dk ks (rplT ks vs (.inr x) (.int 99))))) lo hi v := fun v z => by
      rcases z with z | ⟨q, ys, rfl, h1, h2, h3, h4⟩
      · exact .inl z
      · have ne : k ≠ q := fun z => by subst z; rw [e] at h3; cases h3
        exact .inr ⟨q, ys, rfl, h1, h2, by rw [List.getElem?_set_ne ne]; exact h3, h4⟩
    rcases rpl_mem hv with rfl | hv
    · exact .inl ⟨99, rfl⟩
    · exact keep v (h v hv)
end Q62

namespace Q62
open Tr
open Pa (Cfg DKey)
theorem rise_names (t : Int) (G : GL) (x : Nm) (m : Int) : (riseG t G x m).map (·.1) = G.map (·.1) := by
  rw [riseG, ← baseG_names t 0 G]
  simp only [setc, List.map_map]
  refine List.map_congr_left fun p _ => ?_
  show (if p.1 = x then (p.1, _) else p).1 = p.1
  split <;> rfl
theorem rise_len (t : Int) {G : GL} (hG : ∀ g ∈ G, g.2 ≤ 20) (x : Nm) (m : Int) : ∀ y xs, getc (riseG t G x m) y = some (.l xs) → xs.length ≤ 20 ∧ 0 < xs.length := fun y xs h => by
  rw [riseG] at h
  have gs : ∀ (cs : List (Nm × Cel)) (c : Cel), getc (setc cs x c) y = if x = y then (getc cs y).map fun _ => c else getc cs y := fun cs c => by
    induction cs with
    | nil => simp [setc, getc]
    | cons d cs ih =>
      simp only [setc] at ih
      by_cases e : d.1 = x
      · by_cases f : x = y
        · simp [setc, getc, e, f]
        · have e2 : ¬ d.1 = y := fun z => f (e.symm.trans z)
          simp [setc, getc, e, f, ih]
      · by_cases f : d.1 = y
        · have g2 : ¬ x = y := fun z => e (f.trans z.symm)
          have g3 : ¬ y = x := fun z => g2 z.symm
          simp [setc, getc, e, f, g2, g3]
        · simp [setc, getc, e, f, ih]
  rw [gs] at h
  split at h
  · rename_i e
    subst e
    cases q : getc (baseG t 0 G) x with
    | none => rw [q] at h; cases h
    | some c =>
      rw [q] at h
      cases c with
      | n i => cases h
      | l ys =>
        cases h
        have := base_len t 0 hG x ys q
        simpa using this
  · exact base_len t 0 hG y xs h
def ordJ (k i : Nat) : Nat := if k % 2 = 0 then i else 1 - i
theorem right_ (n : Nat) {hs : List Hd} {x : Nm} (G : GOk hs x) {gs : List Hd} (hg : ∀ h ∈ gs, isGiv h = true) (eg : givG gs = givG hs) (og : ∀ h ∈ gs, okH h) (lg : gs.length ≤ 100) {ps : List (Nat × Nat)} (lp : ps.length = 12) {τ : Sto} {lo : Nat} (tr : Trs τ (givG hs) x 0 lo ps τ.length) :
    Ev (tal tds (n + 2) 14 [.lst (ps.map pairT), .lst (gs.map hdT), .str x] τ) fun r _ => r = .bl true := by
  have nd := G.nd
  have gk := giv_ok G.ok
  have gl := giv_len G.ln
  rw [k__law_right]
  simp [t__law_right, lp]
  refine for_rng (fun k E τ => ∃ (o3 o4 o5 o6 : Option T) (lo : Nat), E = [some (.lst (ps.map pairT)), some (.lst (gs.map hdT)), some (.str x), o3, o4, o5, o6] ∧ Trs τ (givG hs) x k lo (ps.drop k) τ.length) ⟨none, none, none, none, lo, rfl, tr⟩ (fun k E τ hk ⟨o3, o4, o5, o6, lo, e1, tr⟩ => ?_) (fun E τ ⟨o3, o4, o5, o6, lo, e1, tr⟩ => ?_)
  · subst e1
    have hk2 : k < ps.length := by omega
    obtain ⟨⟨b, a⟩, hba⟩ : ∃ p, ps[k]? = some p := ⟨_, List.getElem?_eq_getElem hk2⟩
    have dr : ps.drop k = (b, a) :: ps.drop (k + 1) := by
      have e2 := (List.getElem?_eq_some_iff.mp hba).2
      rw [← e2, ← List.drop_eq_getElem_cons hk2]
    rw [dr] at tr
    obtain ⟨m, h, d1, d2, tr⟩ := tr
    have ix : L2.atI (ps.map pairT) (k : Int) = some (.tup [.ptr a, .ptr b]) := Pa.at_nat (by rw [List.getElem?_map, hba]; rfl)
    have px : L2.atI [T.tup [T.int 0, T.int 1], T.tup [T.int 1, T.int 0]] ((k : Int) % 2) = some (.tup [.int (ordJ k 0 : Nat), .int (ordJ k 1 : Nat)]) := by
      have h : (k : Int) % 2 = 0 ∧ k % 2 = 0 ∨ (k : Int) % 2 = 1 ∧ k % 2 = 1 := by omega
      rcases h with ⟨h1, h2⟩ | ⟨h1, h2⟩ <;> rw [h1] <;> simp [ordJ, h2] <;> rfl
    have mx : L2.atI [T.int 1, T.int 2, T.int 5] ((k : Int) % 3) = some (.int (moreF k)) := by
      have h : (k : Int) % 3 = 0 ∧ k % 3 = 0 ∨ (k : Int) % 3 = 1 ∧ k % 3 = 1 ∨ (k : Int) % 3 = 2 ∧ k % 3 = 2 := by omega
      rcases h with ⟨h1, h2⟩ | ⟨h1, h2⟩ | ⟨h1, h2⟩ <;> rw [h1] <;> simp [moreF, h2] <;> rfl
    have mb : -18446744073709551616 < moreF k ∧ moreF k < 18446744073709551616 := by
      unfold moreF
      repeat' split
      all_goals omega
    have tk : (k : Int) / 3 = ((k / 3 : Nat) : Int) := by omega
    have t3 : 0 ≤ ((k / 3 : Nat) : Int) ∧ ((k / 3 : Nat) : Int) ≤ 3 := by omega
    have q0 : dueG ((k / 3 : Nat) : Int) x ((0 : Nat) * moreF k) 0 (givG gs) = baseG ((k / 3 : Nat) : Int) 0 (givG hs) := by
      rw [eg]
      simp [due_base]
    have q1 : dueG ((k / 3 : Nat) : Int) x ((1 : Nat) * moreF k) 0 (givG gs) = riseG ((k / 3 : Nat) : Int) (givG hs) x (moreF k) := by
      rw [eg, riseG, ← due_rise _ _ _ _ nd G.xin]
      simp
    have n0 := baseG_names ((k / 3 : Nat) : Int) 0 (givG hs)
    have n1 := rise_names ((k / 3 : Nat) : Int) (givG hs) x (moreF k)
    have l0 := base_len ((k / 3 : Nat) : Int) 0 gk
    have l1 := rise_len ((k / 3 : Nat) : Int) gk x (moreF k)
    generalize baseG ((k / 3 : Nat) : Int) 0 (givG hs) = CA at *
    generalize riseG ((k / 3 : Nat) : Int) (givG hs) x (moreF k) = CB at *
    generalize ((k / 3 : Nat) : Int) = t0 at *
    obtain ⟨L, H, K, C, hD, hdis, hle, hix, hdue, hnm, hln⟩ : ∃ (L H K : Nat → Nat) (C : Nat → List (Nm × Cel)), (∀ j < 2, DicAt τ (L j) (H j) (K j) (C j)) ∧ (H 1 ≤ L 0) ∧ (∀ j < 2, H j ≤ h) ∧
        (∀ j < 2, L2.atI [T.ptr a, T.ptr b] ((j : Nat) : Int) = some (.ptr (K j))) ∧ (∀ j < 2, dueG t0 x ((j : Nat) * moreF k) 0 (givG gs) = C j) ∧ (∀ j < 2, (C j).map (·.1) = (givG hs).map (·.1)) ∧ (∀ j < 2, ∀ y xs, getc (C j) y = some (.l xs) → xs.length ≤ 20 ∧ 0 < xs.length) := by
      have two : ∀ {P : Nat → Prop}, P 0 → P 1 → ∀ j < 2, P j := fun {P} h0 h1 j hj => by
        have : j = 0 ∨ j = 1 := by omega
        rcases this with rfl | rfl
        · exact h0
        · exact h1
      have b1 := d1.lk
      have b2 := d1.hk
      have b3 := d2.lk
      have b4 := d2.hk
      exact ⟨fun j => if j = 0 then m else lo, fun j => if j = 0 then h else m, fun j => if j = 0 then a else b, fun j => if j = 0 then CA else CB, two d2 d1, Nat.le_refl _, two (Nat.le_refl _) (by show m ≤ h; omega), two rfl rfl, two q0 q1, two n0 n1, two l0 l1⟩
    simp [ix, px]
    refine for_tup (fun i E τ' => ∃ (o5 o6 : Option T), E = [some (.lst (ps.map pairT)), some (.lst (gs.map hdT)), some (.str x), some (.int (k : Int)), some (.tup [.ptr a, .ptr b]), o5, o6] ∧ (∀ i', i ≤ i' → i' < 2 → DicAt τ' (L (ordJ k i')) (H (ordJ k i')) (K (ordJ k i')) (C (ordJ k i'))) ∧ Trs τ' (givG hs) x (k + 1) h (ps.drop (k + 1)) τ'.length)
      ⟨o5, o6, rfl, fun i' _ h2 => hD _ (by unfold ordJ; split <;> omega), tr⟩ (by rfl) (fun i E τ' y hy ⟨o5, o6, e1, dA, tr⟩ => ?_) (fun E τ' ⟨o5, o6, e1, dA, tr⟩ => ?_)
    · subst e1
      have hi : i < 2 := (List.getElem?_eq_some_iff.mp hy).1
      have hi2 : i = 0 ∨ i = 1 := by omega
      obtain ⟨j, hj, ey, ej⟩ : ∃ j : Nat, j < 2 ∧ y = .int (j : Int) ∧ ordJ k i = j := by
        refine ⟨ordJ k i, by unfold ordJ; split <;> omega, ?_, rfl⟩
        rcases hi2 with rfl | rfl <;> exact (Option.some.inj hy).symm
      subst ey
      have d := dA i (Nat.le_refl _) hi
      rw [ej] at d
      have nj : ((C j).map (·.1)).Nodup := by rw [hnm j hj]; exact nd
      have du := due_ n hg og (by rw [eg]; exact nd) lg t3 x (((j : Nat) : Int) * moreF k) τ'
      rw [hdue j hj] at du
      have sm := same_ n d nj (fun y xs e => by have := hln j hj y xs e; omega)
      have lC : (C j).length ≤ 100 := by
        have := congrArg List.length (hnm j hj)
        simp at this
        omega
      obtain ⟨vs, e0, vo⟩ := d.ex
      have lx := w_listXp e0
      have pj := hix j hj
      simp [pj, tk, mx, mb, du, sm, lx]
      have dk := d.dk nj (fun y xs e => (hln j hj y xs e).2)
      have lk : (keysT (C j)).length < 1000000 := by simp [keysT]; omega
      refine for_lst (fun i2 E τ2 => ∃ o6, E = [some (.lst (ps.map pairT)), some (.lst (gs.map hdT)), some (.str x), some (.int (k : Int)), some (.tup [.ptr a, .ptr b]), some (.int (j : Int)), o6] ∧ τ2.length = τ'.length ∧ (∀ p, (p < L j ∨ H j ≤ p) → τ2[p]? = τ'[p]?) ∧ DK τ2 (L j) (H j) (K j) (keysT (C j)))
        ⟨o6, rfl, rfl, fun _ _ => rfl, dk⟩ (by simp [Itb.num]) (fun i2 E τ2 z hz ⟨o6, e1, tl, kp, dk⟩ => ?_) (fun E τ2 ⟨o6, e1, tl, kp, dk⟩ => ?_)
      · subst e1
        rw [List.getElem?_map] at hz
        obtain ⟨key, hkey, rfl⟩ := Option.map_eq_some_iff.mp hz
        have hm := List.mem_of_getElem? hkey
        obtain ⟨q, hq, rfl⟩ := List.mem_map.mp hm
        obtain ⟨v, ix2, wo⟩ := dk.ix hm
        have kl := dk.lk
        have kh := dk.hk
        rcases wo with ⟨w, rfl⟩ | ⟨p, xs, rfl, p1, p2, p3, p4⟩
        · obtain ⟨τ3, s3, l3, o3, dk3⟩ := dk.put hm lk
          simp [pj, ix2, s3]
          exact ⟨by omega, fun p hp => (o3 p (by omega)).trans (kp p hp), dk3⟩
        · have ty2 : (look τ2 (.ptr p)).bind (tyT tabC) = some "list" := by simp only [look, p3]; rfl
          obtain ⟨τ3, s3, l3, o3, dk3⟩ := dk.lst p3 p4
          obtain ⟨τ4, s4, l4, o4, dk4⟩ := dk3.put hm lk
          simp [pj, ix2, ty2, s3, s4]
          exact ⟨by omega, fun r hr => (o4 r (by omega)).trans ((o3 r (by omega)).trans (kp r hr)), dk4⟩
      · subst e1
        have lh := hle j hj
        simp
        refine ⟨fun i' h1 h2 => ?_, ?_⟩
        · have d' := dA i' (by omega) h2
          have i0 : i = 0 := by omega
          have i1 : i' = 1 := by omega
          subst i0 i1
          have oj : ordJ k 1 = 1 - j := by
            rw [← ej]
            unfold ordJ
            split <;> omega
          rw [oj] at d' ⊢
          refine d'.mono (fun p h3 h4 => kp p ?_) (Nat.le_refl _)
          have jj : j = 0 ∨ j = 1 := by omega
          rcases jj with rfl | rfl
          · simp at h3 h4
            omega
          · simp at h3 h4
            omega
        · refine tr.mono (fun p h3 h4 => kp p (.inr (by omega))) (by omega)
    · subst e1
      simp
      exact ⟨_, tr⟩
  · subst e1
    simp
end Q62

namespace Q62
open Tr
open Pa (Cfg DKey)
def hdN : Hd → Nm
  | .hand _ x _ => x
  | .given _ x _ _ => x
  | .own _ x _ => x
  | .mark _ x _ => x
theorem head_ (n : Nat) (c : Int) (k : Nat) (x : Nm) : ∃ h : Hd, hdN h = x ∧ okH h ∧ (k = 0 → isGiv h = true) ∧ ∀ σ, tal tds (n + 3) 11 [.int c, .int (k : Int), .str x] σ = .ok (hdT h) σ := by
  obtain ⟨s, hs0, hs1, ix⟩ : ∃ s : Int, 0 ≤ s ∧ s ≤ 20 ∧ L2.atI [T.int 0, T.int 0, T.int (1 + c / 24 % 20), T.int (1 + c / 24 % 3)] (c / 6 % 4) = some (.int s) := by
    have h : c / 6 % 4 = 0 ∨ c / 6 % 4 = 1 ∨ c / 6 % 4 = 2 ∨ c / 6 % 4 = 3 := by omega
    rcases h with h | h | h | h <;> rw [h]
    · exact ⟨0, by omega, by omega, rfl⟩
    · exact ⟨0, by omega, by omega, rfl⟩
    · exact ⟨1 + c / 24 % 20, by omega, by omega, rfl⟩
    · exact ⟨1 + c / 24 % 3, by omega, by omega, rfl⟩
  by_cases k0 : k = 0
  · subst k0
    refine ⟨.given 1 x (c / 480 % 3) s, rfl, ⟨hs0, hs1⟩, fun _ => rfl, fun σ => ev_eq ?_⟩
    rw [k__law_head]
    simp [t__law_head, ix, hdT]
  · have k1 : 0 < k := by omega
    by_cases e4 : c % 6 = 4
    · refine ⟨.hand ((k : Int) + 1) x (c / 6 % 3), rfl, trivial, fun z => absurd z k0, fun σ => ev_eq ?_⟩
      rw [k__law_head]
      simp [t__law_head, ix, hdT, k1, e4]
    by_cases e5 : c % 6 = 5
    · refine ⟨.mark ((k : Int) + 1) x (c / 6 % 3), rfl, trivial, fun z => absurd z k0, fun σ => ev_eq ?_⟩
      rw [k__law_head]
      simp [t__law_head, ix, hdT, k1, e4, e5]
    by_cases e3 : 2 < c % 6
    · refine ⟨.own ((k : Int) + 1) x s, rfl, trivial, fun z => absurd z k0, fun σ => ev_eq ?_⟩
      rw [k__law_head]
      simp [t__law_head, ix, hdT, k1, e4, e5, e3]
    · refine ⟨.given ((k : Int) + 1) x (c / 480 % 3) s, rfl, ⟨hs0, hs1⟩, fun _ => rfl, fun σ => ev_eq ?_⟩
      rw [k__law_head]
      simp [t__law_head, ix, hdT, k1, e4, e5, e3]
theorem cut23 (ns : List Int) (hl : ns.length ≤ 63) : (Pa.cut ns (some 3) (some 26)).length ≤ 23 := by
  unfold Pa.cut
  simp [HT.sIx]
  omega
theorem giv_filter : ∀ hs : List Hd, givG (hs.filter isGiv) = givG hs
  | [] => rfl
  | h :: hs => by
    have ih := giv_filter hs
    unfold givG at ih ⊢
    cases h <;> first | exact ih | exact congrArg (_ :: ·) ih
theorem giv_sub : ∀ hs : List Hd, List.Sublist ((givG hs).map (·.1)) (hs.map hdN)
  | [] => List.Sublist.slnil
  | h :: hs => by
    have ih := giv_sub hs
    unfold givG at ih ⊢
    cases h <;> simp only [List.filterMap_cons, givH, List.map_cons, hdN]
    · exact ih.cons _
    · exact ih.cons₂ _
    · exact ih.cons _
    · exact ih.cons _
theorem nm_nodup (c : Int) {n : Nat} (h : n ≤ 25) : ((List.range n).map fun (i : Nat) => nmF c (i : Int)).Nodup := by
  rw [List.nodup_iff_pairwise_ne, List.pairwise_map]
  refine List.Pairwise.imp_of_mem ?_ (List.nodup_iff_pairwise_ne.mp List.nodup_range)
  intro a b ha hb ne z
  have ha := List.mem_range.mp ha
  have hb := List.mem_range.mp hb
  have := nm_inj (by omega) (by omega) z
  omega
theorem giv_trees : ∀ hs : List Hd, (hs.map hdT).filterMap (fun t => match t with | .ins c _ _ => if c = "GivenRow" then some t else none | _ => none) = (hs.filter isGiv).map hdT
  | [] => rfl
  | h :: hs => by
    have ih := giv_trees hs
    cases h <;> simp [List.filter_cons, isGiv, hdT] at ih ⊢ <;> exact ih
theorem giv_in {h : Hd} {hs : List Hd} (g : isGiv h = true) (m : h ∈ hs) : hdN h ∈ (givG hs).map (·.1) := by
  cases h <;> first | cases g | skip
  rename_i k x r n
  exact List.mem_map.mpr ⟨(x, n.toNat), List.mem_filterMap.mpr ⟨_, m, rfl⟩, rfl⟩
theorem law_true (ns : List Int) (hl : ns.length ≤ 63) : Ev (tal tds 40 15 [.scr ns] []) fun t _ => t = .bl true := by
  have c0 : ∀ σ, tal tds 39 9 [.scr ns, .int 0] σ = .ok (.int (scA ns 0)) σ := cell_at 38 ns 0 hl
  have c1 : ∀ σ, tal tds 39 9 [.scr ns, .int 1] σ = .ok (.int (scA ns 1)) σ := cell_at 38 ns 1 hl
  have c2 : ∀ σ, tal tds 39 9 [.scr ns, .int 2] σ = .ok (.int (scA ns 2)) σ := cell_at 38 ns 2 hl
  generalize scA ns 0 = x0 at *
  generalize scA ns 1 = x1 at *
  generalize scA ns 2 = x2 at *
  obtain ⟨ms, hms, lms⟩ : ∃ ms : List Int, Pa.cut (ns.map T.int) (some 3) (some 26) = ms.map T.int ∧ ms.length ≤ 23 := by
    refine ⟨Pa.cut ns (some 3) (some 26), (Pa.cut_map _ _ _ _).symm, ?_⟩
    exact cut23 ns hl
  rw [k_law 39]
  simp [t_law, c2, hms]
  refine ⟨by omega, by omega, ?_⟩
  refine for_rng (fun j E τ => τ = [] ∧ ∃ (o3 : Option T) (hs : List Hd), E = [some (.scr ns), some (.lst (hs.map hdT)), some (.lst (.int x2 :: ms.map .int)), o3, none, none, none, none, none] ∧ hs.length = j ∧ (∀ h ∈ hs, okH h) ∧ hs.map hdN = (List.range j).map (fun (i : Nat) => nmF x1 (i : Int)) ∧ (0 < j → ∃ h r, hs = h :: r ∧ isGiv h = true))
    ⟨rfl, none, [], rfl, rfl, by simp, rfl, by simp⟩ (fun j E τ hj ⟨e0, o3, hs, e1, lh, ho, hn, h0⟩ => ?_) (fun E τ ⟨e0, o3, hs, e1, lh, ho, hn, h0⟩ => ?_)
  · subst e0 e1
    have hj2 : j < (x2 :: ms).length := by simpa using hj
    have ix : L2.atI (T.int x2 :: ms.map T.int) (j : Int) = some (.int (x2 :: ms)[j]) := Pa.at_nat (by
      rw [← List.map_cons (f := T.int), List.getElem?_map, List.getElem?_eq_getElem hj2]
      rfl)
    generalize (x2 :: ms)[j] = c at ix
    have qn : ∀ σ, tal tds 39 10 [.int x1, .int (j : Int)] σ = .ok (.str (nmF x1 (j : Int))) σ := name_ 38 x1 (j : Int) (by omega)
    obtain ⟨h, hn1, hk, hg, qh⟩ := head_ 36 c j (nmF x1 (j : Int))
    have lh2 : hs.length < 1000000 := by omega
    simp [ix, c1, qn, qh, lh2]
    refine ⟨_, hs ++ [h], ⟨by simp, rfl⟩, by simp [lh], ?_, ?_, ?_⟩
    · intro d hd
      rcases List.mem_append.mp hd with hd | hd
      · exact ho d hd
      · rw [List.mem_singleton.mp hd]; exact hk
    · rw [List.map_append, hn, List.range_succ, List.map_append, List.map_singleton, List.map_singleton, hn1]
    · by_cases j0 : j = 0
      · have : hs = [] := List.eq_nil_of_length_eq_zero (by omega)
        subst this
        exact ⟨h, ⟨[], rfl⟩, hg j0⟩
      · obtain ⟨h', r, e, g⟩ := h0 (by omega)
        exact ⟨h', ⟨r ++ [h], by rw [e]; rfl⟩, g⟩
  subst e0 e1
  have lh24 : hs.length ≤ 24 := by omega
  obtain ⟨gs, hgs⟩ : ∃ gs, gs = hs.filter isGiv := ⟨_, rfl⟩
  have g1 : ∀ h ∈ gs, isGiv h = true := fun h hh => by rw [hgs] at hh; exact (List.mem_filter.mp hh).2
  have g2 : ∀ h ∈ gs, okH h := fun h hh => by rw [hgs] at hh; exact ho h (List.mem_filter.mp hh).1
  have g3 : gs.length ≤ 24 := by rw [hgs]; exact Nat.le_trans (List.length_filter_le _ _) lh24
  have g4 : givG gs = givG hs := by rw [hgs]; exact giv_filter hs
  have g5 : 0 < gs.length := by
    obtain ⟨h', r, e, g⟩ := h0 (by omega)
    rw [hgs, e, List.filter_cons, if_pos g]
    simp
  have nd : ((givG hs).map (·.1)).Nodup := by
    refine (giv_sub hs).nodup ?_
    rw [hn]
    exact nm_nodup x1 (by omega)
  have hf : (hs.map hdT).filterMap (fun t => match t with | .ins c _ _ => if c = "GivenRow" then some t else none | _ => none) = gs.map hdT := by rw [hgs]; exact giv_trees hs
  simp
  refine comp_lst (fun t => match t with | .ins c _ _ => if c = "GivenRow" then some t else none | _ => none) (by simp [Itb.num]) (by simp; omega) (fun t ht => ?_) ?_
  · obtain ⟨h, _, rfl⟩ := List.mem_map.mp ht
    cases h <;> simp [hdT] <;> exact ⟨rfl, rfl⟩
  rw [hf]
  have pick : ∀ i : Int, ∃ h x, h ∈ gs ∧ L2.atI (gs.map hdT) (i % (gs.length : Int)) = some (hdT h) ∧ hdN h = x ∧ x ∈ (givG hs).map (·.1) := fun i => by
    obtain ⟨k, hk⟩ : ∃ k : Nat, i % (gs.length : Int) = (k : Int) := ⟨(i % (gs.length : Int)).toNat, by have := Int.emod_nonneg i (show (gs.length : Int) ≠ 0 by omega); omega⟩
    have kl : k < gs.length := by have := Int.emod_lt_of_pos i (show 0 < (gs.length : Int) by omega); omega
    refine ⟨gs[k], _, List.getElem_mem kl, ?_, rfl, ?_⟩
    · rw [hk]
      exact Pa.at_nat (by rw [List.getElem?_map, List.getElem?_eq_getElem kl]; rfl)
    · rw [← g4]
      exact giv_in (g1 _ (List.getElem_mem kl)) (List.getElem_mem kl)
  have fldn : ∀ h ∈ gs, ∀ σ, fldR tabF "name" (hdT h) σ = .ok (.str (hdN h)) σ := fun h hh σ => by
    have := g1 h hh
    cases h <;> first | (cases this; done) | (refine ev_eq ?_; simp [hdT, hdN])
  obtain ⟨ha, xa, ma, ia, na, ga⟩ := pick x0
  obtain ⟨hb, xb, mb, ib, nb, gb⟩ := pick (x0 / 24)
  have fa := fldn ha ma
  have fb := fldn hb mb
  rw [na] at fa
  rw [nb] at fb
  have Ga : GOk hs xa := ⟨ho, nd, by omega, ga⟩
  have Gb : GOk hs xb := ⟨ho, nd, by omega, gb⟩
  have l0 : 0 < (gs.length : Int) := by omega
  simp [c0, ia, fa, l0]
  refine ⟨by omega, ?_⟩
  have run : ∀ {x : Nm} (G : GOk hs x) (σ : Sto), Ev (tal tds 39 8 [prT hs, .str x] σ) fun r τ => ∀ τ', τ' = τ → Ev (tal tds 39 14 [r, .lst (gs.map hdT), .str x] τ') fun r _ => r = .bl true := fun {x} G σ => by
    refine Ev.mono (tried_ 37 G σ) fun r τ ⟨ps, e, lp, tr⟩ τ' et => ?_
    subst e et
    exact right_ 37 G g1 g4 g2 (by omega) lp tr
  refine Ev.mono (run Ga []) fun r τ k => ?_
  simp
  refine Ev.mono (k τ rfl) fun r τ e => ?_
  subst e
  simp [c0, ib, fb, l0]
  refine ⟨by omega, ?_⟩
  refine Ev.mono (run Gb τ) fun r τ k => ?_
  simp
  refine Ev.mono (k τ rfl) fun r τ e => ?_
  subst e
  simp
  refine Ev.mono (run Ga τ) fun r τ k => ?_
  simp
  refine Ev.mono (k τ rfl) fun r τ e => ?_
  subst e
  simp

theorem plain (g : Cfg) (M : Pa.Mem) (sv : Pa.Val) (ns : List Int) (hg : ∀ k, k ≠ 0 → g.con k = lw.con k) (hn : ns.length ≤ 63) (h : Pa.Scr g ns sv M) : ∃ M', Pa.cal g lw.fds 40 15 [sv] M = .ok (.bl true) M' := by
  obtain ⟨t, σ', e, rfl⟩ := law_true ns hn
  exact law_tree (tks hg) (ix := 15) rfl h e
end Q62

open PySem PySem.W
open PySem.Calls PyProof.Rows
theorem PySem.Challenge.cw_hushrow_k62_twelve_tries_holds : PySem.Challenge.rw_hushrow_k62_twelve_tries.Holds := by
  w_on; o_law
  refine HandSHeadRun.head_any (r := OpenLaw.row PySem.Challenge.rw_hushrow_k62_twelve_tries) (q := view (OpenLaw.row PySem.Challenge.rw_hushrow_k62_twelve_tries).prog [20]) (H := Hd62.hk) (ob := Hd62.ob) (M := 40000) (loose := [(Str.ofString "_wall"), (Str.ofString "Row"), (Str.ofString "HandRow"), (Str.ofString "GivenRow"), (Str.ofString "OwnRow"), (Str.ofString "LetRow"), (Str.ofString "Program"), (Str.ofString "MORE"), (Str.ofString "base_gifts"), (Str.ofString "raised"), (Str.ofString "tried"), (Str.ofString "_law_cell_at"), (Str.ofString "_law_name"), (Str.ofString "_law_head"), (Str.ofString "_law_due"), (Str.ofString "_law_same"), (Str.ofString "_law_right")]) (d := HandSHeadRun.topDef (OpenLaw.row PySem.Challenge.rw_hushrow_k62_twelve_tries).prog 20) (kwd := []) Hd62.ob_eq
    (by kernel_rfl) (fun s => by kernel_rfl) Hd62.run (by kernel_rfl) (by kernel_rfl) (by kernel_rfl) (by rfl) (by first | assumption | decide +kernel) (by decide +kernel) ⟨rfl, rfl, rfl, rfl, rfl, by decide +kernel⟩ ?hw ?hc
  case hw => w_witness2
  case hc =>
    exact Pa.law_walkS (l := PySem.Challenge.rw_hushrow_k62_twelve_tries) (m := 63) (N := 40) (ix := 15) (x := "_law_script") (dl := Q62.fd_law) rfl (by decide) (by kernel_rfl) ⟨rfl, by decide, by decide⟩ rfl (by kernel_rfl) rfl rfl (fun _ _ _ _ _ _ us hl => (match us, hl with | [_], _ => rfl)) (by decide +kernel) Q62.oks Q62.plain

