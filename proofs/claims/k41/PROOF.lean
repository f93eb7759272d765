import PyProof.Rows.All
import Wide.All
import OpenK.AllK
import Wide.FinOn
import PySem.Challenge.RW_answersheld_k41_entries_between_values
import HandS.ForMost
import HandS.Wide
import HandS.IsInst
import HandS.Codes
import HandS.TupAny
import HandS.AnyAll
import HandS.Lambda
import HandS.TryOnly
import HandS.ReplaceLit
import HandS.Defaults
import HandS.TupLe
import KE.LtData
import HandS.EndBits
import HandS.EndTab
import HandS.Head0
import HandS.Head1
import HandS.Head2
import HandS.HeadEnd
import HandS.HeadHook1
import HandS.HeadHook2
import HandS.HeadHook3
import HandS.HeadHook4
import HandS.HeadWalk
import KE.SortKeyHeap
import HandS.ExcValue
import HandS.Deep
import HandS.Remove
import HandS.Style
import KE.GoesEnum
set_option Elab.async false
set_option linter.all false
set_option maxRecDepth 100000
set_option maxHeartbeats 4000000
/-! DL: data by value over HandS. -/
namespace DL
open PySem PySem.Spec PyProof.Rows L2

/-! ### persistent data -/
/-- the tables of code objects that may grow -/
class TabP where
  ps : List Addr
  ls : List (Addr × Str) := []
variable [TabP]
/-- the table at P may grow; where a name is told for it, all its code objects bear it -/
def TbOk (H : Hp) (P : Addr) : Prop := GxR.TabG H P ∧ ∀ q, (P, q) ∈ TabP.ls → LamX.TabS H P q
theorem TbOk.ext {H H' : Hp} {P : Addr} (t : TbOk H P) (h : ∀ b o, H b = some o → H' b = some o) : TbOk H' P := ⟨let ⟨ps, e, z⟩ := t.1; ⟨ps, h _ _ e, z⟩, fun q m => (t.2 q m).ext h⟩
theorem TbOk.mut {H : Hp} {P p : Addr} {o u : HO} (t : TbOk H P) (h : H p = some u) (h3 : ∀ ps, u ≠ .tbl ps) (h4 : ∀ f, u ≠ .ext f) : TbOk (upd H p o) P := by
  refine ⟨let ⟨ps, e, z⟩ := t.1; ⟨ps, by rw [upd_ne (ne_of e h (h3 ps).symm)]; exact e, z⟩, fun q m => ?_⟩
  obtain ⟨ps, e, z, k⟩ := t.2 q m
  refine ⟨ps, by rw [upd_ne (ne_of e h (h3 ps).symm)]; exact e, z, fun pos cv hc => ?_⟩
  obtain ⟨c, e1, e2⟩ := k pos cv hc
  exact ⟨c, e1, by rw [upd_ne (ne_of e2 h (h4 _).symm)]; exact e2⟩
/-- what never changes: tuples, frozen things -/
structure Per (H H' : Hp) : Prop where
  tup : ∀ b xs, H b = some (.tup xs) → H' b = some (.tup xs)
  frz : ∀ b o u, H b = some (.frz o u) → H' b = some (.frz o u)
  tab : ∀ b, TbOk H b → TbOk H' b
theorem Per.rfl {H : Hp} : Per H H := ⟨fun _ _ h => h, fun _ _ _ h => h, fun _ h => h⟩
theorem Per.trans {H H1 H2 : Hp} (a : Per H H1) (b : Per H1 H2) : Per H H2 := ⟨fun c xs h => b.tup c xs (a.tup c xs h), fun c o u h => b.frz c o u (a.frz c o u h), fun c h => b.tab c (a.tab c h)⟩
theorem Per.same {H H' : Hp} (h : Same H H') : Per H H' := ⟨fun b xs e => h b _ e, fun b o u e => h b _ e, fun b t => t.ext h⟩
theorem Per.fresh {H : Hp} {p : Addr} {o : HO} (h : H p = none) : Per H (upd H p o) := .same fun b u e => by rw [upd_ne (ne_of_none e h)]; exact e
theorem Per.mut {H : Hp} {p : Addr} {o u : HO} (h : H p = some u) (h1 : ∀ xs, u ≠ .tup xs) (h2 : ∀ o w, u ≠ .frz o w) (h3 : ∀ ps, u ≠ .tbl ps := by intro _ z; cases z) (h4 : ∀ f, u ≠ .ext f := by intro _ z; cases z) : Per H (upd H p o) :=
  ⟨fun b xs e => by rw [upd_ne (ne_of e h (h1 xs).symm)]; exact e, fun b q w e => by rw [upd_ne (ne_of e h (h2 q w).symm)]; exact e, fun b t => t.mut h h3 h4⟩

/-- a list that is frozen -/
def SqF (H : Hp) (a : Addr) (xs : List V) : Prop := ∃ o, H a = some (.frz o (.lst xs))
theorem SqF.seq {K : PySem.W.Frag} {H : Hp} {a : Addr} {xs : List V} (h : SqF H a xs) : SqL K H a xs := .inl (.inr h)
theorem SqF.mono {H H' : Hp} {a : Addr} {xs : List V} (p : Per H H') (h : SqF H a xs) : SqF H' a xs := let ⟨o, h⟩ := h; ⟨o, p.frz _ _ _ h⟩
theorem sqT_mono {K : PySem.W.Frag} {H H' : Hp} {a : Addr} {xs : List V} (p : Per H H') (h : SqT K H a xs) : SqT K H' a xs := by
  rcases h with (h | ⟨o, h⟩) | h
  · exact .inl (.inl (p.tup _ _ h))
  · exact .inl (.inr ⟨o, p.frz _ _ _ h⟩)
  · exact .inr h

mutual
/-- a value that is such data for good -/
inductive Pd (K : PySem.W.Frag) (H : Hp) : PyData → V → Prop
  | non : Pd K H .none .non
  | bl (b : Bool) : Pd K H (.bool b) (.bl b)
  | int (i : Int) : Pd K H (.int i) (.int i)
  | str (x : Str) : Pd K H (.str x) (.str x)
  | lst {a : Addr} {xs : List V} {ds : List PyData} : SqF H a xs → PdAll K H ds xs → Pd K H (.list ds) (.ref a)
  | tup {a : Addr} {xs : List V} {ds : List PyData} : SqT K H a xs → PdAll K H ds xs → Pd K H (.tuple ds) (.ref a)
inductive PdAll (K : PySem.W.Frag) (H : Hp) : List PyData → List V → Prop
  | nil : PdAll K H [] []
  | cons {v : V} {vs : List V} {d : PyData} {ds : List PyData} : Pd K H d v → PdAll K H ds vs → PdAll K H (d :: ds) (v :: vs)
end
section
variable {K : PySem.W.Frag} {H H' : Hp}
mutual
theorem Pd.mono (p : Per H H') : ∀ (d : PyData) (v : V), Pd K H d v → Pd K H' d v
  | .none, _, h => by cases h; exact .non
  | .bool b, _, h => by cases h; exact .bl b
  | .int i, _, h => by cases h; exact .int i
  | .str x, _, h => by cases h; exact .str x
  | .list ds, _, h => by
    cases h with
    | lst a b => exact .lst (a.mono p) (PdAll.mono p ds _ b)
  | .tuple ds, _, h => by
    cases h with
    | tup a b => exact .tup (sqT_mono p a) (PdAll.mono p ds _ b)
  | .dict _, _, h => by cases h
theorem PdAll.mono (p : Per H H') : ∀ (ds : List PyData) (vs : List V), PdAll K H ds vs → PdAll K H' ds vs
  | [], _, h => by cases h; exact .nil
  | d :: ds, _, h => by
    cases h with
    | cons a b => exact .cons (Pd.mono p d _ a) (PdAll.mono p ds _ b)
end
mutual
theorem Pd.dp : ∀ (d : PyData) (v : V), Pd K H d v → Dp K H v d
  | .none, _, h => by cases h; exact .non
  | .bool b, _, h => by cases h; exact .bl b
  | .int i, _, h => by cases h; exact .int i
  | .str x, _, h => by cases h; exact .str x
  | .list ds, _, h => by
    cases h with
    | lst a b => exact .lst a.seq (PdAll.dp ds _ b)
  | .tuple ds, _, h => by
    cases h with
    | tup a b => exact .tup a (PdAll.dp ds _ b)
  | .dict _, _, h => by cases h
theorem PdAll.dp : ∀ (ds : List PyData) (vs : List V), PdAll K H ds vs → DpAll K H vs ds
  | [], _, h => by cases h; exact .nil
  | d :: ds, _, h => by
    cases h with
    | cons a b => exact .cons (Pd.dp d _ a) (PdAll.dp ds _ b)
end
theorem PdAll.len : ∀ {ds : List PyData} {vs : List V}, PdAll K H ds vs → ds.length = vs.length
  | [], _, h => by cases h; rfl
  | _ :: ds, _, h => by
    cases h with
    | cons a b => rw [List.length_cons, List.length_cons, PdAll.len b]
theorem PdAll.get : ∀ {ds : List PyData} {vs : List V} {i : Nat} {d : PyData}, PdAll K H ds vs → ds[i]? = some d → ∃ v, vs[i]? = some v ∧ Pd K H d v
  | [], _, _, _, h, e => by simp at e
  | d :: ds, _, 0, _, h, e => by
    cases h with
    | cons a b => simp at e; subst e; exact ⟨_, by simp, a⟩
  | d :: ds, _, i + 1, _, h, e => by
    cases h with
    | cons a b =>
      obtain ⟨v, h1, h2⟩ := PdAll.get (i := i) b (by simpa using e)
      exact ⟨v, by simpa using h1, h2⟩
theorem PdAll.getV : ∀ {ds : List PyData} {vs : List V} {i : Nat} {v : V}, PdAll K H ds vs → vs[i]? = some v → ∃ d, ds[i]? = some d ∧ Pd K H d v
  | [], _, _, _, h, e => by cases h; simp at e
  | d :: ds, _, 0, _, h, e => by
    cases h with
    | cons a b => simp at e; subst e; exact ⟨_, by simp, a⟩
  | d :: ds, _, i + 1, _, h, e => by
    cases h with
    | cons a b =>
      obtain ⟨v, h1, h2⟩ := PdAll.getV (i := i) b (by simpa using e)
      exact ⟨v, by simpa using h1, h2⟩
theorem PdAll.app : ∀ {ds es : List PyData} {vs ws : List V}, PdAll K H ds vs → PdAll K H es ws → PdAll K H (ds ++ es) (vs ++ ws)
  | [], _, _, _, h, h' => by cases h; exact h'
  | _ :: ds, _, _, _, h, h' => by
    cases h with
    | cons a b => exact .cons a (PdAll.app b h')
theorem PdAll.set : ∀ {ds : List PyData} {vs : List V} (i : Nat) {d : PyData} {v : V}, PdAll K H ds vs → Pd K H d v → PdAll K H (ds.set i d) (vs.set i v)
  | [], _, _, _, _, h, h' => by cases h; exact .nil
  | _ :: ds, _, 0, _, _, h, h' => by
    cases h with
    | cons a b => exact .cons h' b
  | _ :: ds, _, i + 1, _, _, h, h' => by
    cases h with
    | cons a b => exact .cons a (PdAll.set i b h')
theorem PdAll.take : ∀ {ds : List PyData} {vs : List V} (n : Nat), PdAll K H ds vs → PdAll K H (ds.take n) (vs.take n)
  | _, _, 0, h => .nil
  | _, _, n + 1, .nil => .nil
  | _, _, n + 1, .cons a b => .cons a (PdAll.take n b)
theorem PdAll.drop : ∀ {ds : List PyData} {vs : List V} (n : Nat), PdAll K H ds vs → PdAll K H (ds.drop n) (vs.drop n)
  | _, _, 0, h => h
  | _, _, n + 1, .nil => .nil
  | _, _, n + 1, .cons a b => PdAll.drop n b
theorem dp_len : ∀ {ds : List PyData} {vs : List V}, DpAll K H vs ds → ds.length = vs.length
  | [], _, h => by cases h; rfl
  | _ :: ds, _, h => by
    cases h with
    | cons a b => rw [List.length_cons, List.length_cons, dp_len b]
end

/-! ### the abstract frame -/
/-- a mutable object that one name alone holds -/
inductive Cell where
  | lst (ds : List PyData)
  | dct (kvs : List (Key × PyData))
/-- what a name holds: nothing known, data, a cell (pinned: the caller's) -/
inductive SV where
  | no | d (x : PyData) | c (pin : Bool) (c : Cell)
/-- what an expression gives: data, the cell of a name, a new cell -/
inductive RV where
  | d (x : PyData) | s (i : Nat) | f (c : Cell)
abbrev Fm := List SV
inductive PdKV (K : PySem.W.Frag) (H : Hp) : List (Key × PyData) → List (Key × V) → Prop
  | nil : PdKV K H [] []
  | cons {k : Key} {d : PyData} {v : V} {ds : List (Key × PyData)} {vs : List (Key × V)} : Pd K H d v → PdKV K H ds vs → PdKV K H ((k, d) :: ds) ((k, v) :: vs)
theorem PdKV.mono {K : PySem.W.Frag} {H H' : Hp} (p : Per H H') : ∀ {ds : List (Key × PyData)} {vs : List (Key × V)}, PdKV K H ds vs → PdKV K H' ds vs
  | _, _, .nil => .nil
  | _, _, .cons a b => .cons (a.mono p) (b.mono p)
def AtC (K : PySem.W.Frag) (H : Hp) (p : Addr) : Cell → Prop
  | .lst ds => ∃ vs, H p = some (.lst vs) ∧ PdAll K H ds vs
  | .dct kvs => ∃ ws, H p = some (.dK ws) ∧ PdKV K H kvs ws
theorem AtC.mono {K : PySem.W.Frag} {H H' : Hp} {p : Addr} {c : Cell} (h : AtC K H p c) (q : Per H H') (e : H' p = H p) : AtC K H' p c := by
  cases c with
  | lst ds => obtain ⟨vs, a, b⟩ := h; exact ⟨vs, e.trans a, b.mono q⟩
  | dct kvs => obtain ⟨vs, a, b⟩ := h; exact ⟨vs, e.trans a, b.mono q⟩
theorem AtC.some {K : PySem.W.Frag} {H : Hp} {p : Addr} {c : Cell} (h : AtC K H p c) : ∃ o, H p = some o ∧ (∀ xs, o ≠ .tup xs) ∧ (∀ q w, o ≠ .frz q w) ∧ ∀ ps, o ≠ .tbl ps := by
  cases c with
  | lst ds => obtain ⟨vs, a, b⟩ := h; exact ⟨_, a, fun _ z => (nomatch z), fun _ _ z => (nomatch z), fun _ z => (nomatch z)⟩
  | dct kvs => obtain ⟨vs, a, b⟩ := h; exact ⟨_, a, fun _ z => (nomatch z), fun _ _ z => (nomatch z), fun _ z => (nomatch z)⟩
theorem AtC.nx {K : PySem.W.Frag} {H : Hp} {p : Addr} {c : Cell} (h : AtC K H p c) (f : _) (z : H p = Option.some (.ext f)) : False := by
  cases c with
  | lst ds => obtain ⟨vs, a, b⟩ := h; rw [a] at z; cases z
  | dct kvs => obtain ⟨vs, a, b⟩ := h; rw [a] at z; cases z
/-- p is some name's cell -/
def CA (Γ : Fm) (σ : L2.St) (p : Addr) : Prop := ∃ (i : Nat) (b : Bool) (c : Cell), Γ[i]? = some (.c b c) ∧ σ[i]? = some (some (.ref p))
structure Ok (K : PySem.W.Frag) (Γ : Fm) (σ : L2.St) (H : Hp) : Prop where
  len : Γ.length = σ.length
  dat : ∀ (i : Nat) (x : PyData), Γ[i]? = some (.d x) → ∃ v, σ[i]? = some (some v) ∧ Pd K H x v
  cel : ∀ (i : Nat) (b : Bool) (c : Cell), Γ[i]? = some (.c b c) → ∃ p, σ[i]? = some (some (.ref p)) ∧ AtC K H p c
  dis : ∀ (i j : Nat) (b : Bool) (c : Cell) (b' : Bool) (c' : Cell) (p : Addr), Γ[i]? = some (.c b c) → Γ[j]? = some (.c b' c') → σ[i]? = some (some (.ref p)) → σ[j]? = some (some (.ref p)) → i = j
  tab : ∀ P ∈ TabP.ps, TbOk H P
/-- what an evaluation does to the frame and the heap -/
structure Ev (Γ : Fm) (σ : L2.St) (H : Hp) (Γ' : Fm) (H' : Hp) : Prop where
  sub : ∀ p, CA Γ' σ p → CA Γ σ p
  per : Per H H'
  fr : ∀ b o, H b = some o → (∀ ps, o ≠ .tbl ps) → ¬ CA Γ σ b → H' b = some o
  dom : ∀ b, H' b = none → H b = none
  pin : ∀ (i : Nat) (c : Cell), Γ[i]? = some (.c true c) → ∃ c', Γ'[i]? = some (.c true c')
  dfn : ∀ (i : Nat) (sv : SV), Γ[i]? = some sv → sv ≠ .no → ∃ sv', Γ'[i]? = some sv' ∧ sv' ≠ .no
theorem Ev.rfl {Γ : Fm} {σ : L2.St} {H : Hp} : Ev Γ σ H Γ H := ⟨fun _ h => h, .rfl, fun _ _ h _ _ => h, fun _ h => h, fun _ c h => ⟨c, h⟩, fun _ sv h n => ⟨sv, h, n⟩⟩
theorem Ev.trans {Γ Γ1 Γ2 : Fm} {σ : L2.St} {H H1 H2 : Hp} (a : Ev Γ σ H Γ1 H1) (b : Ev Γ1 σ H1 Γ2 H2) : Ev Γ σ H Γ2 H2 :=
  ⟨fun p h => a.sub p (b.sub p h), a.per.trans b.per, fun c o h t n => b.fr c o (a.fr c o h t n) t fun z => n (a.sub c z), fun c h => a.dom c (b.dom c h),
    fun i c h => let ⟨_, e⟩ := a.pin i c h; b.pin i _ e, fun i sv h n => let ⟨_, e, n'⟩ := a.dfn i sv h n; b.dfn i _ e n'⟩
/-- all but the tables stands -/
structure Sm (H H' : Hp) : Prop where
  per : Per H H'
  dom : ∀ b, H' b = none → H b = none
  fr : ∀ b o, H b = some o → (∀ ps, o ≠ .tbl ps) → H' b = some o
theorem Sm.of {H H' : Hp} (h : Same H H') : Sm H H' := ⟨.same h, fun b e => h.free e, fun b o e _ => h b o e⟩
theorem Ev.sm {Γ : Fm} {σ : L2.St} {H H' : Hp} (h : Sm H H') : Ev Γ σ H Γ H' := ⟨fun _ h => h, h.per, fun b o e t _ => h.fr b o e t, h.dom, fun _ c h => ⟨c, h⟩, fun _ sv h n => ⟨sv, h, n⟩⟩
theorem Ev.new {Γ : Fm} {σ : L2.St} {H H' : Hp} (h : Same H H') : Ev Γ σ H Γ H' := ⟨fun _ h => h, .same h, fun b o e _ _ => h b o e, fun b e => h.free e, fun _ c h => ⟨c, h⟩, fun _ sv h n => ⟨sv, h, n⟩⟩
def RvOk (K : PySem.W.Frag) (Γ : Fm) (σ : L2.St) (H0 H : Hp) : RV → V → Prop
  | .d x, v => Pd K H x v
  | .s i, v => σ[i]? = some (some v) ∧ ∃ sv, Γ[i]? = some sv ∧ sv ≠ .no
  | .f c, v => ∃ p, v = .ref p ∧ AtC K H p c ∧ H0 p = none
section
variable {K : PySem.W.Frag} {Γ Γ' Γ1 Γ2 : Fm} {σ : L2.St} {H H0 H1 H2 H' : Hp} {rv : RV} {v : V}
theorem Ok.ca (ok : Ok K Γ σ H) {p : Addr} (h : CA Γ σ p) : ∃ c, AtC K H p c := by
  obtain ⟨i, b, c, h1, h2⟩ := h
  obtain ⟨q, e, a⟩ := ok.cel i b c h1
  rw [h2] at e; cases e
  exact ⟨c, a⟩
theorem Ok.noca (ok : Ok K Γ σ H) {p : Addr} (h : H p = none) : ¬ CA Γ σ p := fun z => by
  obtain ⟨c, a⟩ := ok.ca z
  obtain ⟨o, e, _⟩ := a.some
  rw [h] at e; cases e
/-- behind a step that leaves the cells -/
theorem Ok.stay (ok : Ok K Γ σ H) (p : Per H H') (h : ∀ b, CA Γ σ b → H' b = H b) : Ok K Γ σ H' :=
  ⟨ok.len, fun i x e => let ⟨v, a, b⟩ := ok.dat i x e; ⟨v, a, b.mono p⟩, fun i b c e => let ⟨q, a, z⟩ := ok.cel i b c e; ⟨q, a, z.mono p (h q ⟨i, b, c, e, a⟩)⟩, ok.dis, fun P hP => p.tab P (ok.tab P hP)⟩
theorem Ok.sm (ok : Ok K Γ σ H) (h : Sm H H') : Ok K Γ σ H' := ok.stay h.per fun b z => by
  obtain ⟨c, a⟩ := ok.ca z
  obtain ⟨o, e, _, _, t⟩ := a.some
  rw [e]; exact h.fr _ _ e t
theorem Ok.new (ok : Ok K Γ σ H) (h : Same H H') : Ok K Γ σ H' := ok.sm (.of h)
/-- the first part's value behind the second part -/
theorem RvOk.on (r : RvOk K Γ1 σ H H1 rv v) (a : Ev Γ σ H Γ1 H1) (ok : Ok K Γ σ H) (b : Ev Γ1 σ H1 Γ2 H2) : RvOk K Γ2 σ H H2 rv v := by
  cases rv with
  | d x => exact Pd.mono b.per _ _ r
  | s i => obtain ⟨e, sv, h1, h2⟩ := r; exact ⟨e, b.dfn i sv h1 h2⟩
  | f c =>
    obtain ⟨p, e, h1, h2⟩ := r
    obtain ⟨o, h3, _, _, t⟩ := h1.some
    exact ⟨p, e, h1.mono b.per ((b.fr p o h3 t fun z => ok.noca h2 (a.sub p z)).trans h3.symm), h2⟩
/-- a value of the second part, seen from the start -/
theorem RvOk.up (r : RvOk K Γ2 σ H1 H2 rv v) (a : Ev Γ σ H Γ1 H1) : RvOk K Γ2 σ H H2 rv v := by
  cases rv with
  | d x => exact r
  | s i => exact r
  | f c => obtain ⟨p, e, h1, h2⟩ := r; exact ⟨p, e, h1, a.dom p h2⟩
/-- what may be read of it -/
def svD : Option SV → Option PyData
  | some (.d x) => some x
  | some (.c _ (.lst ds)) => some (.list ds)
  | _ => none
def val (Γ : Fm) : RV → Option PyData
  | .d x => some x
  | .s i => svD Γ[i]?
  | .f (.lst ds) => some (.list ds)
  | .f (.dct _) => none
theorem rd (ok : Ok K Γ σ H) (r : RvOk K Γ σ H0 H rv v) {x : PyData} (h : val Γ rv = some x) : Dp K H v x := by
  cases rv with
  | d y => cases h; exact Pd.dp _ _ r
  | s i =>
    obtain ⟨e, sv, h1, _⟩ := r
    have h : svD Γ[i]? = some x := h
    rw [h1] at h
    cases sv with
    | no => cases h
    | d y => cases h; obtain ⟨u, a, b⟩ := ok.dat i _ h1; rw [e] at a; cases a; exact Pd.dp _ _ b
    | c b c =>
      cases c with
      | lst ds =>
        cases h
        obtain ⟨u, a, q⟩ := ok.cel i _ _ h1
        rw [e] at a; cases a
        obtain ⟨vs, q1, q2⟩ := q
        exact .lst (.inl (.inl q1)) (PdAll.dp _ _ q2)
      | dct _ => cases h
  | f c =>
    obtain ⟨p, rfl, h1, _⟩ := r
    cases c with
    | lst ds => cases h; obtain ⟨vs, q1, q2⟩ := h1; exact .lst (.inl (.inl q1)) (PdAll.dp _ _ q2)
    | dct _ => cases h
end
end DL
set_option Elab.async false
set_option linter.all false
set_option maxRecDepth 100000
set_option maxHeartbeats 4000000
/-! DL2: judgements, expressions. -/
namespace DL
open PySem PySem.Spec PyProof.Rows L2
variable [TabP]

/-- readable now, its items for good -/
inductive Rb (K : PySem.W.Frag) (H : Hp) : PyData → V → Prop
  | pd {d : PyData} {v : V} : Pd K H d v → Rb K H d v
  | lst {a : Addr} {xs : List V} {ds : List PyData} : Rd H a (.lst xs) → PdAll K H ds xs → Rb K H (.list ds) (.ref a)
section
variable {K : PySem.W.Frag} {H : Hp} {v : V}
theorem Rb.dp {d : PyData} : Rb K H d v → Dp K H v d
  | .pd h => h.dp
  | .lst a b => .lst (.inl a) b.dp
theorem Rb.int {i : Int} (h : Rb K H (.int i) v) : v = .int i := by
  cases h with | pd h => cases h; rfl
theorem Rb.bool {i : Bool} (h : Rb K H (.bool i) v) : v = .bl i := by
  cases h with | pd h => cases h; rfl
theorem Rb.non (h : Rb K H .none v) : v = .non := by
  cases h with | pd h => cases h; rfl
theorem Rb.str {i : Str} (h : Rb K H (.str i) v) : v = .str i := by
  cases h with | pd h => cases h; rfl
theorem Rb.list {ds : List PyData} (h : Rb K H (.list ds) v) : ∃ a xs, v = .ref a ∧ Rd H a (.lst xs) ∧ PdAll K H ds xs := by
  cases h with
  | pd h => cases h with | lst a b => exact ⟨_, _, rfl, .inr a, b⟩
  | lst a b => exact ⟨_, _, rfl, a, b⟩
theorem Rb.tup {ds : List PyData} (h : Rb K H (.tuple ds) v) : ∃ a xs, v = .ref a ∧ SqT K H a xs ∧ PdAll K H ds xs := by
  cases h with | pd h => cases h with | tup a b => exact ⟨_, _, rfl, a, b⟩
theorem Rb.nodict {ds : List (PyData × PyData)} (h : Rb K H (.dict ds) v) : False := by
  cases h with | pd h => cases h
end
theorem rdb {K : PySem.W.Frag} {Γ : Fm} {σ : L2.St} {H H0 : Hp} {rv : RV} {v : V} (ok : Ok K Γ σ H) (r : RvOk K Γ σ H0 H rv v) {x : PyData} (h : val Γ rv = some x) : Rb K H x v := by
  cases rv with
  | d y => cases h; exact .pd r
  | s i =>
    obtain ⟨e, sv, h1, _⟩ := r
    have h : svD Γ[i]? = some x := h
    rw [h1] at h
    cases sv with
    | no => cases h
    | d y => cases h; obtain ⟨u, a, b⟩ := ok.dat i _ h1; rw [e] at a; cases a; exact .pd b
    | c b c =>
      cases c with
      | lst ds =>
        cases h
        obtain ⟨u, a, q⟩ := ok.cel i _ _ h1
        rw [e] at a; cases a
        obtain ⟨vs, q1, q2⟩ := q
        exact .lst (.inl q1) q2
      | dct _ => cases h
  | f c =>
    obtain ⟨p, rfl, h1, _⟩ := r
    cases c with
    | lst ds => cases h; obtain ⟨vs, q1, q2⟩ := h1; exact .lst (.inl q1) q2
    | dct _ => cases h

/-! ### judgements -/
abbrev DT := Fm → (RV → Fm → Prop) → Prop
abbrev DTt := Fm → (Bool → Fm → Prop) → Prop
abbrev DTa := Fm → (List RV → Fm → Prop) → Prop
/-- a new cell is none of the others -/
def FrAway (r : RV) (v : V) (rs : List RV) (vs : List V) : Prop := ∀ c, r = .f c → ∀ (i : Nat) (c' : Cell), rs[i]? = some (.f c') → vs[i]? ≠ some v
inductive RvAll (K : PySem.W.Frag) (Γ : Fm) (σ : L2.St) (H0 H : Hp) : List RV → List V → Prop
  | nil : RvAll K Γ σ H0 H [] []
  | cons {r : RV} {rs : List RV} {v : V} {vs : List V} : RvOk K Γ σ H0 H r v → RvAll K Γ σ H0 H rs vs → FrAway r v rs vs → RvAll K Γ σ H0 H (r :: rs) (v :: vs)
def lft (K : PySem.W.Frag) (t : DT) : TE := fun σ H Q => ∃ Γ R, Ok K Γ σ H ∧ t Γ R ∧ ∀ rv Γ' v H', R rv Γ' → Ok K Γ' σ H' → Ev Γ σ H Γ' H' → RvOk K Γ' σ H H' rv v → Q v H'
def lftT (K : PySem.W.Frag) (t : DTt) : TT := fun σ H Q => ∃ Γ R, Ok K Γ σ H ∧ t Γ R ∧ ∀ b Γ' H', R b Γ' → Ok K Γ' σ H' → Ev Γ σ H Γ' H' → Q b H'
def lftA (K : PySem.W.Frag) (t : DTa) : TA := fun σ H Q => ∃ Γ R, Ok K Γ σ H ∧ t Γ R ∧ ∀ rs Γ' vs H', R rs Γ' → Ok K Γ' σ H' → Ev Γ σ H Γ' H' → RvAll K Γ' σ H H' rs vs → Q vs H'
theorem pe_wk {X : Cx} {e : Expr} {t t' : TE} (h : PE X e t) (w : ∀ σ H Q, t' σ H Q → t σ H Q) : PE X e t' := ⟨fun pins s σ H Q I q => h.run pins s σ H Q I (w σ H Q q)⟩
theorem pt_wk {X : Cx} {e : Expr} {t t' : TT} (h : PT X e t) (w : ∀ σ H Q, t' σ H Q → t σ H Q) : PT X e t' := ⟨fun pins s σ H Q I q => h.run pins s σ H Q I (w σ H Q q)⟩
theorem pw_wk {X : Cx} {e : Expr} {t t' : TT} (h : PW X e t) (w : ∀ σ H Q, t' σ H Q → t σ H Q) : PW X e t' := ⟨fun wh pins s σ H Q I q => h.run wh pins s σ H Q I (w σ H Q q)⟩
theorem pa_wk {X : Cx} {e : List Expr} {t t' : TA} (h : PA X e t) (w : ∀ σ H Q, t' σ H Q → t σ H Q) : PA X e t' := ⟨fun pos pins s σ H Q I q => h.run pos pins s σ H Q I (w σ H Q q)⟩
theorem RvOk.any {K : PySem.W.Frag} {Γ : Fm} {σ : L2.St} {H0 H : Hp} {rv : RV} {v : V} (r : RvOk K [] [] H0 H rv v) : RvOk K Γ σ H0 H rv v := by
  cases rv with
  | d x => exact r
  | s i => obtain ⟨e, _⟩ := r; simp at e
  | f c => exact r
def optD : Option PyData → (PyData → Prop) → Prop
  | some d, k => k d
  | none, _ => False
theorem optD_ex {o : Option PyData} {k : PyData → Prop} (h : optD o k) : ∃ d, o = some d ∧ k d := by
  cases o with
  | none => exact h.elim
  | some d => exact ⟨d, rfl, h⟩
def boolD : PyData → (Bool → Prop) → Prop
  | .bool b, k => k b
  | _, _ => False
theorem boolD_ex {o : PyData} {k : Bool → Prop} (h : boolD o k) : ∃ b, o = .bool b ∧ k b := by
  cases o with
  | bool b => exact ⟨b, rfl, h⟩
  | _ => exact h.elim

section
variable {X : Cx} {pos : Pos} {a b : Expr} {ta tb : DT}
/-! ### names, constants -/
def nameR (i : Nat) : Option SV → (RV → Prop) → Prop
  | some (.d x), k => k (.d x)
  | some (.c _ _), k => k (.s i)
  | _, _ => False
def tName (i : Nat) : DT := fun Γ R => nameR i Γ[i]? fun rv => R rv Γ
theorem de_var {i : Nat} {e : Expr} (h : PE X e (tVar i)) : PE X e (lft X.K (tName i)) := by
  refine pe_wk h fun σ H Q ⟨Γ, R, ok, ht, hQ⟩ => ?_
  unfold tName at ht
  cases q : Γ[i]? with
  | none => rw [q] at ht; exact ht.elim
  | some sv =>
    rw [q] at ht
    cases sv with
    | no => exact ht.elim
    | d x =>
      obtain ⟨v, e, r⟩ := ok.dat i x q
      exact ⟨v, e, hQ _ _ _ _ ht ok .rfl r⟩
    | c b c =>
      obtain ⟨p, e, r⟩ := ok.cel i b c q
      exact ⟨_, e, hQ _ _ _ _ ht ok .rfl ⟨e, _, q, fun z => by cases z⟩⟩
def tK (d : PyData) : DT := fun Γ R => R (.d d) Γ
theorem de_tC {e : Expr} {v : V} {d : PyData} (h : PE X e (tC v)) (hp : ∀ H, Pd X.K H d v) : PE X e (lft X.K (tK d)) :=
  pe_wk h fun _ H _ ⟨_, _, ok, ht, hQ⟩ => hQ _ _ _ _ ht ok .rfl (hp H)
theorem de_int {i : Int} {j} : PE X (.Constant (.int i) j pos) (lft X.K (tK (.int i))) := de_tC pe_int fun _ => .int i
theorem de_bool {i : Bool} {j} : PE X (.Constant (.bool i) j pos) (lft X.K (tK (.bool i))) := de_tC pe_bl fun _ => .bl i
theorem de_none {j} : PE X (.Constant .none j pos) (lft X.K (tK .none)) := de_tC pe_non fun _ => .non
theorem de_str {x : Str} {j} : PE X (.Constant (.str x) j pos) (lft X.K (tK (.str x))) := de_tC pe_str fun _ => .str x
theorem de_glob {x : Str} {v : V} {u : Value} {d : PyData} (hg : Gl X x) (hm : X.mg x = some u) (r : RelV v u) (hp : ∀ H, Pd X.K H d v) (hd : (x == ("__debug__" : Str)) = false := by decide) : PE X (.Name x pos) (lft X.K (tK d)) :=
  de_tC (pe_glob hg hm r hd) hp

/-! ### freezing -/
def frz (Γ : Fm) : RV → (PyData → Fm → Prop) → Prop
  | .d x, k => k x Γ
  | .s i, k => match Γ[i]? with
    | some (.d x) => k x Γ
    | some (.c false (.lst ds)) => k (.list ds) (Γ.set i (.d (.list ds)))
    | _ => False
  | .f (.lst ds), k => k (.list ds) Γ
  | .f (.dct _), _ => False
theorem inv_frz {pins : List (Addr × Obj)} {σ : L2.St} {H : Hp} {s : Shared} {p : Addr} {vs : List V} (I : Inv X pins σ H s) (h : H p = some (.lst vs)) : ∃ o, Inv X pins σ (upd H p (.frz o (.lst vs))) s := by
  obtain ⟨z, its, n, r, e⟩ := I.hok p _ h
  have nt : ∀ c xs, H c = some (.tup xs) → c ≠ p := fun c xs q => ne_of q h (fun z => by cases z)
  have no : ∀ c y, H c = some (.own y) → c ≠ p := fun c xs q => ne_of q h (fun z => by cases z)
  refine ⟨{ cls := .type "list", data := .seq its.toArray n }, ?_⟩
  have un : Un X.fs [] H (upd H p (.frz { cls := .type "list", data := .seq its.toArray n } (.lst vs))) s.heap s.heap :=
    ⟨fun _ _ q _ _ _ => q, fun _ o q _ _ _ => ⟨o.slots, q⟩, fun c o q n _ => by
        rw [upd_ne (show c ≠ p from fun z => by rw [z, h] at n; cases n)]; exact n, fun _ o q _ => ⟨o, q⟩,
      fun c xs q => by rw [upd_ne (nt c xs q)]; exact q, fun c o u q => by rw [upd_ne (ne_of q h (fun z => by cases z))]; exact q,
      fun c ps q => ⟨#[], by rw [upd_ne (ne_of q h (fun z => by cases z)), q]; simp⟩⟩
  refine I.un (h' := s.heap) (t' := s.toks) un fun c o q => ?_
  by_cases hc : c = p
  · subst hc
    rw [upd_same] at q
    cases q
    exact ⟨e, z, its, n, r, e⟩
  · rw [upd_ne hc] at q
    exact (I.hok c o q).stay (fun _ _ _ q => q) (fun c' q => by rw [upd_ne (no _ _ q)]; exact q) fun c' xs q => by rw [upd_ne (nt _ _ q)]; exact q
theorem inv_frz' {pins : List (Addr × Obj)} {σ : L2.St} {H : Hp} {s : Shared} {Γ0 Γ : Fm} {H0 : Hp} {rv : RV} {v : V} {k : PyData → Fm → Prop} (I : Inv X pins σ H s) (ok0 : Ok X.K Γ0 σ H0) (ev : Ev Γ0 σ H0 Γ H) (ok : Ok X.K Γ σ H)
    (r : RvOk X.K Γ σ H0 H rv v) (h : frz Γ rv k) : ∃ x Γ' H', k x Γ' ∧ Inv X pins σ H' s ∧ Ok X.K Γ' σ H' ∧ Ev Γ0 σ H0 Γ' H' ∧ Pd X.K H' x v := by
  cases rv with
  | d x => exact ⟨x, Γ, H, h, I, ok, ev, r⟩
  | s i =>
    obtain ⟨e, sv, h1, _⟩ := r
    unfold frz at h
    dsimp only at h
    rw [h1] at h
    cases sv with
    | no => exact h.elim
    | d x =>
      obtain ⟨u, a, q⟩ := ok.dat i x h1
      rw [e] at a; cases a
      exact ⟨x, Γ, H, h, I, ok, ev, q⟩
    | c b c =>
      cases c with
      | dct _ => cases b <;> exact h.elim
      | lst ds =>
        cases b with
        | true => exact h.elim
        | false =>
          obtain ⟨p, a, vs, hp, hv⟩ := ok.cel i _ _ h1
          rw [e] at a; cases a
          obtain ⟨o, I'⟩ := inv_frz I hp
          have per : Per H (upd H p (.frz o (.lst vs))) := .mut hp (fun _ z => by cases z) fun _ _ z => by cases z
          have hlt : i < Γ.length := (List.getElem?_eq_some_iff.mp h1).1
          have self : (Γ.set i (.d (.list ds)))[i]? = some (.d (.list ds)) := List.getElem?_set_self hlt
          have oth : ∀ {j : Nat}, i ≠ j → (Γ.set i (.d (.list ds)))[j]? = Γ[j]? := fun n => List.getElem?_set_ne n
          have pv : Pd X.K (upd H p (.frz o (.lst vs))) (.list ds) (.ref p) := .lst ⟨o, upd_same⟩ (hv.mono per)
          have cne : ∀ (j : Nat) (b : Bool) (c : Cell) (q : Addr), (Γ.set i (.d (.list ds)))[j]? = some (.c b c) → σ[j]? = some (some (.ref q)) → q ≠ p ∧ Γ[j]? = some (.c b c) := fun j b c q q1 q2 => by
            have ne : i ≠ j := fun z => by subst z; rw [self] at q1; cases q1
            rw [oth ne] at q1
            exact ⟨fun z => by subst z; exact ne (ok.dis i j _ _ _ _ _ h1 q1 e q2), q1⟩
          have ev2 : Ev Γ σ H (Γ.set i (.d (.list ds))) (upd H p (.frz o (.lst vs))) := by
            refine ⟨?_, per, fun b o e _ n => ?_, fun b hb => ?_, fun j c q => ?_, fun j sv q n => ?_⟩
            · rintro q ⟨j, b, c, q1, q2⟩
              exact ⟨j, b, c, (cne _ _ _ _ q1 q2).2, q2⟩
            · rw [upd_ne fun z => n (by subst z; exact ⟨i, _, _, h1, by assumption⟩)]; exact e
            · by_cases z : b = p
              · subst z; rw [upd_same] at hb; cases hb
              · rw [upd_ne z] at hb; exact hb
            · by_cases ne : i = j
              · subst ne; rw [h1] at q; cases q
              · rw [oth ne]; exact ⟨c, q⟩
            · by_cases ne : i = j
              · subst ne; exact ⟨_, self, fun z => by cases z⟩
              · rw [oth ne]; exact ⟨sv, q, n⟩
          refine ⟨.list ds, _, _, h, I', ⟨by rw [List.length_set]; exact ok.len, fun j x q => ?_, fun j b c q => ?_, fun j1 j2 b c b' c' q q1 q2 q3 q4 => ?_, fun P hP => per.tab P (ok.tab P hP)⟩, ev.trans ev2, pv⟩
          · by_cases ne : i = j
            · subst ne; rw [self] at q; cases q; exact ⟨_, e, pv⟩
            · rw [oth ne] at q
              obtain ⟨u, a, z⟩ := ok.dat j x q
              exact ⟨u, a, z.mono per⟩
          · have ne : i ≠ j := fun z => by subst z; rw [self] at q; cases q
            rw [oth ne] at q
            obtain ⟨q', a, z⟩ := ok.cel j b c q
            refine ⟨q', a, z.mono per (upd_ne fun z => ?_)⟩
            subst z
            exact ne (ok.dis i j _ _ _ _ _ h1 q e a)
          · exact ok.dis j1 j2 _ _ _ _ q (cne _ _ _ _ q1 q3).2 (cne _ _ _ _ q2 q4).2 q3 q4
  | f c =>
    cases c with
    | dct _ => exact h.elim
    | lst ds =>
      obtain ⟨p, rfl, ⟨vs, hp, hv⟩, h0⟩ := r
      obtain ⟨o, I'⟩ := inv_frz I hp
      have per : Per H (upd H p (.frz o (.lst vs))) := .mut hp (fun _ z => by cases z) fun _ _ z => by cases z
      have nca : ¬ CA Γ σ p := fun z => ok0.noca h0 (ev.sub p z)
      refine ⟨.list ds, Γ, _, h, I', ok.stay per fun b hb => upd_ne fun z => nca (z ▸ hb), ⟨ev.sub, ev.per.trans per, fun b u e t n => ?_, fun b hb => ?_, ev.pin, ev.dfn⟩, .lst ⟨o, upd_same⟩ (hv.mono per)⟩
      · rw [upd_ne fun z => by subst z; rw [h0] at e; cases e]; exact ev.fr b u e t n
      · by_cases z : b = p
        · subst z; exact h0
        · rw [upd_ne z] at hb; exact ev.dom b hb
def tFrz (t : DT) : DT := fun Γ R => t Γ fun rv Γ1 => frz Γ1 rv fun x Γ2 => R (.d x) Γ2
theorem de_frz {e : Expr} {t : DT} (h : PE X e (lft X.K t)) : PE X e (lft X.K (tFrz t)) := by
  refine ⟨fun pins s σ H Q I ⟨Γ, R, ok, ht, hQ⟩ => ?_⟩
  refine thn (h.run pins s σ H (fun v H' => ∃ rv Γ', frz Γ' rv (fun x Γ2 => R (.d x) Γ2) ∧ Ok X.K Γ' σ H' ∧ Ev Γ σ H Γ' H' ∧ RvOk X.K Γ' σ H H' rv v) I ⟨Γ, _, ok, ht, fun rv Γ' v H' a b c d => ⟨rv, Γ', a, b, c, d⟩⟩) fun u s1 ⟨v, H1, I1, r1, rv, Γ1, hf, ok1, ev1, q1⟩ => ?_
  obtain ⟨x, Γ2, H2, k, I2, ok2, ev2, p2⟩ := inv_frz' I1 ok ev1 ok1 q1 hf
  exact ⟨v, H2, I2, r1, hQ _ _ _ _ k ok2 ev2 p2⟩
end
end DL
set_option Elab.async false
set_option linter.all false
set_option maxRecDepth 100000
set_option maxHeartbeats 4000000
/-! DL3: operators, displays, subscripts, calls. -/
namespace DL
open PySem PySem.Spec PyProof.Rows L2
variable [TabP]

/-! ### operators by data -/
abbrev Op2 := PyData → PyData → (RV → Prop) → Prop
def OpS (K : PySem.W.Frag) (r : R2) (f : Op2) : Prop := ∀ (x y : V) (dx dy : PyData) (H : Hp) (Q : VK) (R : RV → Prop), Rb K H dx x → Rb K H dy y → f dx dy R →
  (∀ z v H', R z → Same H H' → RvOk K [] [] H H' z v → Q v H') → r x y H Q
def tBin (f : Op2) (ta tb : DT) : DT := fun Γ R => ta Γ fun x Γ1 => tb Γ1 fun y Γ2 => optD (val Γ2 x) fun dx => optD (val Γ2 y) fun dy => f dx dy fun z => R z Γ2
section
variable {X : Cx} {pos : Pos} {a b e : Expr} {ta tb : DT} {r : R2} {f : Op2}
theorem op_run {K : PySem.W.Frag} (hs : OpS K r f) : ∀ σ H Q, lft K (tBin f ta tb) σ H Q → tOp r (lft K ta) (lft K tb) σ H Q := by
  rintro σ H Q ⟨Γ, R, ok, ht, hQ⟩
  refine ⟨Γ, _, ok, ht, fun x Γ1 v H1 h1 ok1 ev1 r1 => ⟨Γ1, _, ok1, h1, fun y Γ2 u H2 h2 ok2 ev2 r2 => ?_⟩⟩
  obtain ⟨dx, ex, h2⟩ := optD_ex h2
  obtain ⟨dy, ey, h2⟩ := optD_ex h2
  refine hs v u dx dy H2 Q _ (rdb ok2 (r1.on ev1 ok ev2) ex) (rdb ok2 r2 ey) h2 fun z w H' hz sm rz => ?_
  have ev := (ev1.trans ev2).trans (Ev.new (Γ := Γ2) (σ := σ) sm)
  exact hQ z Γ2 w H' hz (ok2.new sm) ev (RvOk.up (H1 := H2) rz.any (ev1.trans ev2))
theorem de_bin {op : Operator} (ho : OpR X (binaryOp op) r) (hs : OpS X.K r f) (ha : PE X a (lft X.K ta)) (hb : PE X b (lft X.K tb)) : PE X (.BinOp a op b pos) (lft X.K (tBin f ta tb)) := pe_wk (pe_op ho ha hb) (op_run hs)
theorem de_cmp {op : CmpOp} (ho : OpR X (compareOp op) r) (hs : OpS X.K r f) (ha : PE X a (lft X.K ta)) (hb : PE X b (lft X.K tb)) (hm : behindInMarks op b = false) : PE X (.Compare a [op] [b] pos) (lft X.K (tBin f ta tb)) := pe_wk (pe_cmpR ho ha hb hm) (op_run hs)
def boolR : RV → (Bool → Prop) → Prop
  | .d (.bool b), k => k b
  | _, _ => False
def tCmp2 (f : Op2) (ta tb : DT) : DTt := fun Γ R => ta Γ fun x Γ1 => tb Γ1 fun y Γ2 => optD (val Γ2 x) fun dx => optD (val Γ2 y) fun dy => f dx dy fun z => boolR z fun b => R b Γ2
theorem boolR_ex {z : RV} {k : Bool → Prop} (h : boolR z k) : ∃ b, z = .d (.bool b) ∧ k b := by
  unfold boolR at h
  split at h
  · exact ⟨_, rfl, h⟩
  · exact h.elim
theorem dt_cmp {op : CmpOp} (ho : OpR X (compareOp op) r) (hs : OpS X.K r f) (ha : PE X a (lft X.K ta)) (hb : PE X b (lft X.K tb)) (hm : behindInMarks op b = false) : PT X (.Compare a [op] [b] pos) (lftT X.K (tCmp2 f ta tb)) := by
  refine pt_wk (pt_cmpR ho ha hb hm) fun σ H Q ⟨Γ, R, ok, ht, hQ⟩ => ?_
  refine op_run (f := f) hs σ H _ ⟨Γ, fun z Γ2 => boolR z fun b => R b Γ2, ok, ht, fun z Γ' v H' hz ok' ev' rz => ?_⟩
  obtain ⟨b, rfl, hz⟩ := boolR_ex hz
  cases rz
  exact ⟨b, rfl, hQ b Γ' H' hz ok' ev'⟩
theorem de_ix (hr : IxR X r) (hs : OpS X.K r f) (hp : PlainIx b) (ha : PE X a (lft X.K ta)) (hb : PE X b (lft X.K tb)) : PE X (.Subscript a b pos) (lft X.K (tBin f ta tb)) := pe_wk (pe_ix hr ha hb hp) (op_run hs)
theorem OpS.or {K : PySem.W.Frag} {r' : R2} {f' : Op2} {g : Op2} (h : OpS K r f) (h' : OpS K r' f') (hg : ∀ dx dy R, g dx dy R → f dx dy R ∨ f' dx dy R) : OpS K (fun x y H Q => r x y H Q ∨ r' x y H Q) g := by
  intro x y dx dy H Q R rx ry hf hQ
  rcases hg dx dy R hf with q | q
  · exact .inl (h x y dx dy H Q R rx ry q hQ)
  · exact .inr (h' x y dx dy H Q R rx ry q hQ)

/-- two ints -/
def fI (C : Int → Int → Prop) (g : Int → Int → PyData) : Op2
  | .int i, .int j, R => C i j ∧ R (.d (g i j))
  | _, _, _ => False
theorem sI {K : PySem.W.Frag} {C : Int → Int → Prop} {g : Int → Int → V} {g' : Int → Int → PyData} (hg : ∀ H i j, Pd K H (g' i j) (g i j)) : OpS K (rI C g) (fI C g') := by
  intro x y dx dy H Q R rx ry hf hQ
  cases dx with
  | int i =>
    cases dy with
    | int j => exact ⟨i, j, rx.int, ry.int, hf.1, hQ _ _ _ hf.2 (Same.refl H) (hg H i j)⟩
    | _ => exact hf.elim
  | _ => exact hf.elim
def fI0 (g : Int → Int → PyData) : Op2
  | .int i, .int j, R => R (.d (g i j))
  | _, _, _ => False
theorem sI0 {K : PySem.W.Frag} {g : Int → Int → V} {g' : Int → Int → PyData} (hg : ∀ H i j, Pd K H (g' i j) (g i j)) : OpS K (rI0 g) (fI0 g') := by
  intro x y dx dy H Q R rx ry hf hQ
  cases dx with
  | int i =>
    cases dy with
    | int j => exact ⟨i, j, rx.int, ry.int, hQ _ _ _ hf (Same.refl H) (hg H i j)⟩
    | _ => exact hf.elim
  | _ => exact hf.elim
theorem de_sub (ha : PE X a (lft X.K ta)) (hb : PE X b (lft X.K tb)) : PE X (.BinOp a .Sub b pos) (lft X.K (tBin (fI0 fun i j => .int (i - j)) ta tb)) := de_bin op_sub (sI0 fun _ _ _ => .int _) ha hb
theorem de_mod (ha : PE X a (lft X.K ta)) (hb : PE X b (lft X.K tb)) : PE X (.BinOp a .Mod b pos) (lft X.K (tBin (fI (fun _ j => 0 < j) fun i j => .int (i % j)) ta tb)) := de_bin op_mod (sI fun _ _ _ => .int _) ha hb
theorem de_fdiv (ha : PE X a (lft X.K ta)) (hb : PE X b (lft X.K tb)) : PE X (.BinOp a .FloorDiv b pos) (lft X.K (tBin (fI CDivW fun i j => .int (i / j)) ta tb)) := de_bin op_fdivW (sI fun _ _ _ => .int _) ha hb
theorem de_pow (ha : PE X a (lft X.K ta)) (hb : PE X b (lft X.K tb)) : PE X (.BinOp a .Pow b pos) (lft X.K (tBin (fI CPow fun i j => .int (i ^ j.toNat)) ta tb)) := de_bin op_pow (sI fun _ _ _ => .int _) ha hb

/-! + -/
def fAdd : Op2
  | .int i, .int j, R => R (.d (.int (i + j)))
  | .str i, .str j, R => i.length + j.length ≤ sizeLine ∧ R (.d (.str (i ++ j)))
  | .list i, .list j, R => i.length + j.length ≤ sizeLine ∧ R (.f (.lst (i ++ j)))
  | .tuple i, .tuple j, R => i.length + j.length ≤ sizeLine ∧ R (.d (.tuple (i ++ j)))
  | _, _, _ => False
def rCatL : R2 := fun x y H Q => ∃ l b xs zs, x = .ref l ∧ y = .ref b ∧ Rd H l (.lst xs) ∧ Rd H b (.lst zs) ∧ xs.length + zs.length ≤ sizeLine ∧ ∀ p, H p = none → Q (.ref p) (upd H p (.lst (xs ++ zs)))
theorem lst_at {pins : List (Addr × Obj)} {σ : L2.St} {H : Hp} {s : Shared} {p : Addr} {xs : List V} (I : Inv X pins σ H s) (h : Rd H p (.lst xs)) :
    ∃ (its : List Value) (n : Nat), Vals xs its ∧ s.heap.get? p = some { cls := .type "list", data := .seq its.toArray n } := by
  obtain ⟨z, its, n, r, e⟩ := h.ok I.hok
  exact ⟨its, n, r, e⟩
theorem op_catL : OpR X (binaryOp .Add) rCatL := by
  intro pins s σ H x y v u Q I rx ry h
  obtain ⟨l, b, xs, zs, rfl, rfl, hH, hB, hz, q⟩ := h
  cases rx
  cases ry
  obtain ⟨its, n, r, e⟩ := lst_at I hH
  obtain ⟨its2, n2, r2, e2⟩ := lst_at I hB
  have h1 := r.length
  have h2 := r2.length
  refine PySem.P.add_list e e2 ?_ (by rw [List.size_toArray, List.size_toArray]; omega)
  rw [show its.toArray ++ its2.toArray = (its ++ its2).toArray by simp]
  exact ⟨.ref _, _, I.lnew (t' := s.toks) (r.append r2) (by rw [List.length_append]; omega), rfl, q _ I.fresh⟩
theorem same_fresh {H : Hp} {p : Addr} {o : HO} (h : H p = none) : Same H (upd H p o) := fun b u e => by rw [upd_ne (ne_of_none e h)]; exact e
theorem rvF {K : PySem.W.Frag} {H : Hp} {p : Addr} {ds : List PyData} {xs : List V} (h : H p = none) (a : PdAll K H ds xs) : RvOk K [] [] H (upd H p (.lst xs)) (.f (.lst ds)) (.ref p) := ⟨p, rfl, ⟨xs, upd_same, a.mono (.fresh h)⟩, h⟩
theorem rvT {K : PySem.W.Frag} {H : Hp} {p : Addr} {ds : List PyData} {xs : List V} (h : H p = none) (a : PdAll K H ds xs) : RvOk K [] [] H (upd H p (.tup xs)) (.d (.tuple ds)) (.ref p) := .tup (.of upd_same) (a.mono (.fresh h))
def rAdd : R2 → R2 := fun c x y H Q => rI0 (fun i j => .int (i + j)) x y H Q ∨ (∃ i j, x = .str i ∧ y = .str j ∧ i.length + j.length ≤ sizeLine ∧ Q (.str (i ++ j)) H) ∨ rCatL x y H Q ∨ c x y H Q
theorem op_addD : OpR X (binaryOp .Add) (rAdd (rCatA X.K)) := op_add.or (op_add_str.or (op_catL.or op_catA))
theorem sAdd : OpS X.K (rAdd (rCatA X.K)) fAdd := by
  intro x y dx dy H Q R rx ry hf hQ
  cases dx with
  | int i =>
    cases dy with
    | int j => exact .inl ⟨i, j, rx.int, ry.int, hQ _ _ _ hf (Same.refl H) (.int _)⟩
    | _ => exact hf.elim
  | str i =>
    cases dy with
    | str j => exact .inr (.inl ⟨i, j, rx.str, ry.str, hf.1, hQ _ _ _ hf.2 (Same.refl H) (.str _)⟩)
    | _ => exact hf.elim
  | list i =>
    cases dy with
    | list j =>
      obtain ⟨p, xs, e1, h1, a1⟩ := rx.list
      obtain ⟨q, ys, e2, h2, a2⟩ := ry.list
      have l1 := a1.len
      have l2 := a2.len
      exact .inr (.inr (.inl ⟨p, q, xs, ys, e1, e2, h1, h2, by have := hf.1; omega, fun n hn => hQ _ _ _ hf.2 (same_fresh hn) (rvF hn (a1.app a2))⟩))
    | _ => exact hf.elim
  | tuple i =>
    cases dy with
    | tuple j =>
      obtain ⟨p, xs, e1, h1, a1⟩ := rx.tup
      obtain ⟨q, ys, e2, h2, a2⟩ := ry.tup
      have l1 := a1.len
      have l2 := a2.len
      refine .inr (.inr (.inr ⟨p, q, xs, ys, e1, e2, h1, h2, by have := hf.1; omega, fun z => ?_, fun _ z => ?_, fun _ _ n hn => hQ _ _ _ hf.2 (same_fresh hn) (rvT hn (a1.app a2))⟩))
      · subst z
        have e : i = [] := List.length_eq_zero_iff.mp (by rw [l1]; rfl)
        subst e
        exact hQ _ _ _ hf.2 (Same.refl H) (.tup h2 a2)
      · subst z
        have e : j = [] := List.length_eq_zero_iff.mp (by rw [l2]; rfl)
        subst e
        exact hQ _ _ _ hf.2 (Same.refl H) (by rw [List.append_nil]; exact .tup h1 a1)
    | _ => exact hf.elim
  | _ => exact hf.elim
theorem de_add (ha : PE X a (lft X.K ta)) (hb : PE X b (lft X.K tb)) : PE X (.BinOp a .Add b pos) (lft X.K (tBin fAdd ta tb)) := de_bin op_addD sAdd ha hb
/-- int * int -/
theorem de_mul (ha : PE X a (lft X.K ta)) (hb : PE X b (lft X.K tb)) : PE X (.BinOp a .Mult b pos) (lft X.K (tBin (fI CMulW fun i j => .int (i * j)) ta tb)) := de_bin op_mulW (sI fun _ _ _ => .int _) ha hb
/-! == and != -/
def fEq : Op2 := fun x y R => SeqAt.shaped x = true ∧ SeqAt.shaped y = true ∧ R (.d (.bool (PyData.eqv x y)))
def fNe : Op2 := fun x y R => SeqAt.shaped x = true ∧ SeqAt.shaped y = true ∧ R (.d (.bool (!PyData.eqv x y)))
theorem sEq {K : PySem.W.Frag} : OpS K (rEqD K) fEq := fun x y dx dy H Q R rx ry hf hQ => ⟨dx, dy, rx.dp, ry.dp, hf.1, hf.2.1, hQ _ _ _ hf.2.2 (Same.refl H) (.bl _)⟩
theorem sNe {K : PySem.W.Frag} : OpS K (rNeD K) fNe := fun x y dx dy H Q R rx ry hf hQ => ⟨dx, dy, rx.dp, ry.dp, hf.1, hf.2.1, hQ _ _ _ hf.2.2 (Same.refl H) (.bl _)⟩
theorem de_eq (hu : X.A.units + 64 < cLine) (ha : PE X a (lft X.K ta)) (hb : PE X b (lft X.K tb)) : PE X (.Compare a [.Eq] [b] pos) (lft X.K (tBin fEq ta tb)) := de_cmp (op_eqD hu) sEq ha hb (nomark _)
theorem de_ne (hu : X.A.units + 64 < cLine) (ha : PE X a (lft X.K ta)) (hb : PE X b (lft X.K tb)) : PE X (.Compare a [.NotEq] [b] pos) (lft X.K (tBin fNe ta tb)) := de_cmp (op_neD hu) sNe ha hb (nomark _)
theorem dt_eq (hu : X.A.units + 64 < cLine) (ha : PE X a (lft X.K ta)) (hb : PE X b (lft X.K tb)) : PT X (.Compare a [.Eq] [b] pos) (lftT X.K (tCmp2 fEq ta tb)) := dt_cmp (op_eqD hu) sEq ha hb (nomark _)
theorem dt_ne (hu : X.A.units + 64 < cLine) (ha : PE X a (lft X.K ta)) (hb : PE X b (lft X.K tb)) : PT X (.Compare a [.NotEq] [b] pos) (lftT X.K (tCmp2 fNe ta tb)) := dt_cmp (op_neD hu) sNe ha hb (nomark _)
/-! is None -/
def isNon : PyData → Bool
  | .none => true
  | _ => false
def fIsN : Op2
  | x, .none, R => R (.d (.bool (isNon x)))
  | _, _, _ => False
def fNotN : Op2
  | x, .none, R => R (.d (.bool (!isNon x)))
  | _, _, _ => False
theorem isN {K : PySem.W.Frag} {H : Hp} {d : PyData} {v : V} (h : Rb K H d v) : decide (v = .non) = isNon d := by
  cases h with
  | pd h => cases h <;> rfl
  | lst a b => rfl
theorem sIsN {K : PySem.W.Frag} : OpS K (fun x y H Q => y = .non ∧ Q (.bl (decide (x = .non))) H) fIsN := fun x y dx dy H Q R rx ry hf hQ => by
  cases dy with
  | none => refine ⟨ry.non, hQ _ _ _ hf (Same.refl H) ?_⟩; rw [isN rx]; exact .bl _
  | _ => exact hf.elim
theorem sNotN {K : PySem.W.Frag} : OpS K (fun x y H Q => y = .non ∧ Q (.bl (!decide (x = .non))) H) fNotN := fun x y dx dy H Q R rx ry hf hQ => by
  cases dy with
  | none => refine ⟨ry.non, hQ _ _ _ hf (Same.refl H) ?_⟩; rw [isN rx]; exact .bl _
  | _ => exact hf.elim
theorem de_isN (ha : PE X a (lft X.K ta)) (hb : PE X b (lft X.K tb)) : PE X (.Compare a [.Is] [b] pos) (lft X.K (tBin fIsN ta tb)) := de_cmp op_isN sIsN ha hb (nomark _)
theorem de_notN (ha : PE X a (lft X.K ta)) (hb : PE X b (lft X.K tb)) : PE X (.Compare a [.IsNot] [b] pos) (lft X.K (tBin fNotN ta tb)) := de_cmp op_notN sNotN ha hb (nomark _)
theorem dt_isN (ha : PE X a (lft X.K ta)) (hb : PE X b (lft X.K tb)) : PT X (.Compare a [.Is] [b] pos) (lftT X.K (tCmp2 fIsN ta tb)) := dt_cmp op_isN sIsN ha hb (nomark _)
theorem dt_notN (ha : PE X a (lft X.K ta)) (hb : PE X b (lft X.K tb)) : PT X (.Compare a [.IsNot] [b] pos) (lftT X.K (tCmp2 fNotN ta tb)) := dt_cmp op_notN sNotN ha hb (nomark _)
/-! an item -/
def fIx : Op2
  | .list ds, .int i, R => optD (atI ds i) fun d => R (.d d)
  | .tuple ds, .int i, R => optD (atI ds i) fun d => R (.d d)
  | .str z, .int i, R => z.length ≤ sizeLine ∧ match atI z.cps.toList i with | some c => R (.d (.str ⟨#[c]⟩)) | none => False
  | _, _, _ => False
theorem at_pd {K : PySem.W.Frag} {H : Hp} {ds : List PyData} {xs : List V} {i : Int} {d : PyData} (a : PdAll K H ds xs) (h : atI ds i = some d) : ∃ v, atI xs i = some v ∧ Pd K H d v := by
  unfold atI at h ⊢
  rw [← a.len]
  cases q : ixN ds.length i with
  | none => rw [q] at h; cases h
  | some j => rw [q] at h; exact a.get h
theorem sIx {K : PySem.W.Frag} : OpS K (rIx K) fIx := fun x y dx dy H Q R rx ry hf hQ => by
  cases dx with
  | list ds =>
    cases dy with
    | int i =>
      obtain ⟨p, xs, e1, h1, a1⟩ := rx.list
      obtain ⟨d, hd, hf⟩ := optD_ex hf
      obtain ⟨v, hv, pv⟩ := at_pd a1 hd
      exact .inl ⟨p, xs, i, v, e1, ry.int, .inl h1, hv, hQ _ _ _ hf (Same.refl H) pv⟩
    | _ => exact hf.elim
  | tuple ds =>
    cases dy with
    | int i =>
      obtain ⟨p, xs, e1, h1, a1⟩ := rx.tup
      obtain ⟨d, hd, hf⟩ := optD_ex hf
      obtain ⟨v, hv, pv⟩ := at_pd a1 hd
      exact .inr (.inl ⟨p, xs, i, v, e1, ry.int, h1, hv, hQ _ _ _ hf (Same.refl H) pv⟩)
    | _ => exact hf.elim
  | str z =>
    cases dy with
    | int i =>
      obtain ⟨h1, h2⟩ := hf
      cases q : atI z.cps.toList i with
      | none => rw [q] at h2; exact h2.elim
      | some c =>
        rw [q] at h2
        exact .inr (.inr ⟨z, i, c, rx.str, ry.int, h1, q, hQ _ _ _ h2 (Same.refl H) (.str _)⟩)
    | _ => exact hf.elim
  | _ => exact hf.elim
theorem de_item (hp : PlainIx b) (ha : PE X a (lft X.K ta)) (hb : PE X b (lft X.K tb)) : PE X (.Subscript a b pos) (lft X.K (tBin fIx ta tb)) := de_ix ix_seq sIx hp ha hb
/-! one operand -/
def tNeg (ta : DT) : DT := fun Γ R => ta Γ fun x Γ1 => optD (val Γ1 x) fun dx => match dx with | .int i => R (.d (.int (-i))) Γ1 | _ => False
theorem de_neg (ha : PE X a (lft X.K ta)) : PE X (.UnaryOp .USub a pos) (lft X.K (tNeg ta)) := by
  refine pe_wk (pe_un un_neg ha) fun σ H Q ⟨Γ, R, ok, ht, hQ⟩ => ⟨Γ, _, ok, ht, fun x Γ1 v H1 h1 ok1 ev1 r1 => ?_⟩
  obtain ⟨dx, ex, h1⟩ := optD_ex h1
  have q := rdb ok1 r1 ex
  cases dx with
  | int i => exact ⟨i, q.int, hQ _ _ _ _ h1 ok1 ev1 (.int _)⟩
  | _ => exact h1.elim
end
end DL
set_option Elab.async false
set_option linter.all false
set_option maxRecDepth 100000
set_option maxHeartbeats 4000000
/-! DL4: tests, arguments, displays, slices, calls. -/
namespace DL
open PySem PySem.Spec PyProof.Rows L2
variable [TabP]

/-- if, by a written truth value -/
@[irreducible] def condP (c : Bool) (A B : Prop) : Prop := match c with
  | true => A
  | false => B
theorem condP_T {A B : Prop} (h : condP true A B) : A := by unfold condP at h; exact h
theorem condP_F {A B : Prop} (h : condP false A B) : B := by unfold condP at h; exact h
theorem condP_if {c : Bool} {A B : Prop} : condP c A B ↔ (if c = true then A else B) := by cases c <;> simp [condP]
section
variable {X : Cx} {pos : Pos} {a b c e : Expr} {ta tb : DT} {tt tu : DTt} {es rest : List Expr} {tas : DTa}
/-! ### tests -/
def tVal (t : DT) : DTt := fun Γ R => t Γ fun rv Γ1 => optD (val Γ1 rv) fun d => boolD d fun b => R b Γ1
theorem dt_val (h : PE X e (lft X.K ta)) (he : ∀ whole, isTrue e X.env whole = (do let v ← whole; standAt e.pos; holding [v] (truthy v)) := by intro _; rfl) : PT X e (lftT X.K (tVal ta)) := by
  refine pt_wk (pt_val h he) fun σ H Q ⟨Γ, R, ok, ht, hQ⟩ => ⟨Γ, _, ok, ht, fun rv Γ1 v H1 h1 ok1 ev1 r1 => ?_⟩
  obtain ⟨d, ex, h1⟩ := optD_ex h1
  obtain ⟨b, rfl, h1⟩ := boolD_ex h1
  exact ⟨b, (rdb ok1 r1 ex).bool, hQ _ _ _ h1 ok1 ev1⟩
def truD : PyData → (Bool → Prop) → Prop
  | .none, k => k false
  | .bool b, k => k b
  | .int i, k => k (i != 0)
  | .str z, k => z.length ≤ sizeLine ∧ k ((z.length : Int) != 0)
  | .list ds, k => k (!ds.isEmpty)
  | .tuple ds, k => k (!ds.isEmpty)
  | .dict _, _ => False
def tTru (t : DT) : DTt := fun Γ R => t Γ fun rv Γ1 => optD (val Γ1 rv) fun d => truD d fun b => R b Γ1
theorem pd_empty {K : PySem.W.Frag} {H : Hp} {ds : List PyData} {xs : List V} (a : PdAll K H ds xs) : (!ds.isEmpty) = !xs.isEmpty := by
  cases a <;> rfl
theorem dt_truth (h : PE X e (lft X.K ta)) (he : ∀ whole, isTrue e X.env whole = (do let v ← whole; standAt e.pos; holding [v] (truthy v)) := by intro _; rfl) : PT X e (lftT X.K (tTru ta)) := by
  refine pt_wk (pt_truth h he) fun σ H Q ⟨Γ, R, ok, ht, hQ⟩ => ⟨Γ, _, ok, ht, fun rv Γ1 v H1 h1 ok1 ev1 r1 => ?_⟩
  obtain ⟨d, ex, h1⟩ := optD_ex h1
  have q := rdb ok1 r1 ex
  cases d with
  | none => rw [q.non]; exact ⟨_, rfl, hQ _ _ _ h1 ok1 ev1⟩
  | bool b => rw [q.bool]; exact ⟨_, rfl, hQ _ _ _ h1 ok1 ev1⟩
  | int i => rw [q.int]; exact ⟨_, rfl, hQ _ _ _ h1 ok1 ev1⟩
  | str z => rw [q.str]; exact ⟨_, ⟨h1.1, rfl⟩, hQ _ _ _ h1.2 ok1 ev1⟩
  | list ds =>
    obtain ⟨p, xs, rfl, h2, a2⟩ := q.list
    exact ⟨_, .inl ⟨xs, .inl h2, rfl⟩, hQ _ _ _ (by rw [← pd_empty a2]; exact h1) ok1 ev1⟩
  | tuple ds =>
    obtain ⟨p, xs, rfl, h2, a2⟩ := q.tup
    exact ⟨_, .inr (.inl ⟨xs, h2, rfl⟩), hQ _ _ _ (by rw [← pd_empty a2]; exact h1) ok1 ev1⟩
  | dict _ => exact h1.elim
def tAndT (t u : DTt) : DTt := fun Γ R => t Γ fun c Γ1 => condP c (u Γ1 R) (R false Γ1)
def tOrT (t u : DTt) : DTt := fun Γ R => t Γ fun c Γ1 => condP c (R true Γ1) (u Γ1 R)
theorem dw_and1 (ha : PT X a (lftT X.K tt)) : PW X (.BoolOp .And [a] pos) (lftT X.K tt) := pw_and1 ha
theorem dw_or1 (ha : PT X a (lftT X.K tt)) : PW X (.BoolOp .Or [a] pos) (lftT X.K tt) := pw_or1 ha
theorem dw_and (ha : PT X a (lftT X.K tt)) (hb : PW X (.BoolOp .And (b :: rest) pos) (lftT X.K tu)) : PW X (.BoolOp .And (a :: b :: rest) pos) (lftT X.K (tAndT tt tu)) := by
  refine pw_wk (pw_and ha hb) fun σ H Q ⟨Γ, R, ok, ht, hQ⟩ => ⟨Γ, _, ok, ht, fun c Γ1 H1 h1 ok1 ev1 => ?_⟩
  cases c with
  | true => have h1 := condP_T h1; rw [if_pos rfl]; exact ⟨Γ1, R, ok1, h1, fun d Γ2 H2 h2 ok2 ev2 => hQ _ _ _ h2 ok2 (ev1.trans ev2)⟩
  | false => have h1 := condP_F h1; rw [if_neg Bool.false_ne_true]; exact hQ _ _ _ h1 ok1 ev1
theorem dw_or (ha : PT X a (lftT X.K tt)) (hb : PW X (.BoolOp .Or (b :: rest) pos) (lftT X.K tu)) : PW X (.BoolOp .Or (a :: b :: rest) pos) (lftT X.K (tOrT tt tu)) := by
  refine pw_wk (pw_or ha hb) fun σ H Q ⟨Γ, R, ok, ht, hQ⟩ => ⟨Γ, _, ok, ht, fun c Γ1 H1 h1 ok1 ev1 => ?_⟩
  cases c with
  | false => have h1 := condP_F h1; rw [if_neg Bool.false_ne_true]; exact ⟨Γ1, R, ok1, h1, fun d Γ2 H2 h2 ok2 ev2 => hQ _ _ _ h2 ok2 (ev1.trans ev2)⟩
  | true => have h1 := condP_T h1; rw [if_pos rfl]; exact hQ _ _ _ h1 ok1 ev1
def tNotT (t : DTt) : DTt := fun Γ R => t Γ fun c Γ1 => R (!c) Γ1
theorem dt_not (ha : PT X a (lftT X.K tt)) : PT X (.UnaryOp .Not a pos) (lftT X.K (tNotT tt)) :=
  pt_wk (pt_not ha) fun σ H Q ⟨Γ, R, ok, ht, hQ⟩ => ⟨Γ, _, ok, ht, fun c Γ1 H1 h1 ok1 ev1 => hQ _ _ _ h1 ok1 ev1⟩
/-! .. as values -/
def tAndV (ta tb : DT) : DT := fun Γ R => ta Γ fun rv Γ1 => optD (val Γ1 rv) fun d => boolD d fun c => condP c (tb Γ1 R) (R (.d (.bool false)) Γ1)
def tOrV (ta tb : DT) : DT := fun Γ R => ta Γ fun rv Γ1 => optD (val Γ1 rv) fun d => boolD d fun c => condP c (R (.d (.bool true)) Γ1) (tb Γ1 R)
def tNotV (ta : DT) : DT := fun Γ R => ta Γ fun rv Γ1 => optD (val Γ1 rv) fun d => boolD d fun c => R (.d (.bool (!c))) Γ1
theorem de_one {op} (h : PE X a (lft X.K ta)) : PE X (.BoolOp op [a] pos) (lft X.K ta) := pe_one h
theorem de_and (ha : PE X a (lft X.K ta)) (hb : PE X (.BoolOp .And (b :: rest) pos) (lft X.K tb)) : PE X (.BoolOp .And (a :: b :: rest) pos) (lft X.K (tAndV ta tb)) := by
  refine pe_wk (pe_and ha hb) fun σ H Q ⟨Γ, R, ok, ht, hQ⟩ => ⟨Γ, _, ok, ht, fun rv Γ1 v H1 h1 ok1 ev1 r1 => ?_⟩
  obtain ⟨d, ex, h1⟩ := optD_ex h1
  obtain ⟨c, rfl, h1⟩ := boolD_ex h1
  refine ⟨c, (rdb ok1 r1 ex).bool, ?_⟩
  cases c with
  | true => have h1 := condP_T h1; rw [if_pos rfl]; exact ⟨Γ1, R, ok1, h1, fun w Γ2 u H2 h2 ok2 ev2 r2 => hQ _ _ _ _ h2 ok2 (ev1.trans ev2) (r2.up ev1)⟩
  | false => have h1 := condP_F h1; rw [if_neg Bool.false_ne_true]; exact hQ _ _ _ _ h1 ok1 ev1 (.bl false)
theorem de_or (ha : PE X a (lft X.K ta)) (hb : PE X (.BoolOp .Or (b :: rest) pos) (lft X.K tb)) : PE X (.BoolOp .Or (a :: b :: rest) pos) (lft X.K (tOrV ta tb)) := by
  refine pe_wk (pe_or ha hb) fun σ H Q ⟨Γ, R, ok, ht, hQ⟩ => ⟨Γ, _, ok, ht, fun rv Γ1 v H1 h1 ok1 ev1 r1 => ?_⟩
  obtain ⟨d, ex, h1⟩ := optD_ex h1
  obtain ⟨c, rfl, h1⟩ := boolD_ex h1
  refine ⟨c, (rdb ok1 r1 ex).bool, ?_⟩
  cases c with
  | false => have h1 := condP_F h1; rw [if_neg Bool.false_ne_true]; exact ⟨Γ1, R, ok1, h1, fun w Γ2 u H2 h2 ok2 ev2 r2 => hQ _ _ _ _ h2 ok2 (ev1.trans ev2) (r2.up ev1)⟩
  | true => have h1 := condP_T h1; rw [if_pos rfl]; exact hQ _ _ _ _ h1 ok1 ev1 (.bl true)
theorem de_not (ha : PE X a (lft X.K ta)) : PE X (.UnaryOp .Not a pos) (lft X.K (tNotV ta)) := by
  refine pe_wk (pe_not ha) fun σ H Q ⟨Γ, R, ok, ht, hQ⟩ => ⟨Γ, _, ok, ht, fun rv Γ1 v H1 h1 ok1 ev1 r1 => ?_⟩
  obtain ⟨d, ex, h1⟩ := optD_ex h1
  obtain ⟨c, rfl, h1⟩ := boolD_ex h1
  exact ⟨c, (rdb ok1 r1 ex).bool, hQ _ _ _ _ h1 ok1 ev1 (.bl _)⟩
def tIfE (tt : DTt) (ta tb : DT) : DT := fun Γ R => tt Γ fun c Γ1 => condP c (ta Γ1 R) (tb Γ1 R)
theorem de_if (hc : PT X c (lftT X.K tt)) (ha : PE X a (lft X.K ta)) (hb : PE X b (lft X.K tb)) : PE X (.IfExp c a b pos) (lft X.K (tIfE tt ta tb)) := by
  refine pe_wk (pe_ifExp hc ha hb) fun σ H Q ⟨Γ, R, ok, ht, hQ⟩ => ⟨Γ, _, ok, ht, fun c Γ1 H1 h1 ok1 ev1 => ?_⟩
  cases c with
  | true => have h1 := condP_T h1; rw [if_pos rfl]; exact ⟨Γ1, R, ok1, h1, fun w Γ2 u H2 h2 ok2 ev2 r2 => hQ _ _ _ _ h2 ok2 (ev1.trans ev2) (r2.up ev1)⟩
  | false => have h1 := condP_F h1; rw [if_neg Bool.false_ne_true]; exact ⟨Γ1, R, ok1, h1, fun w Γ2 u H2 h2 ok2 ev2 r2 => hQ _ _ _ _ h2 ok2 (ev1.trans ev2) (r2.up ev1)⟩

/-! ### arguments -/
def tN : DTa := fun Γ R => R [] Γ
def tC' (ta : DT) (tas : DTa) : DTa := fun Γ R => ta Γ fun x Γ1 => tas Γ1 fun xs Γ2 => R (x :: xs) Γ2
theorem rv_new {K : PySem.W.Frag} {Γ : Fm} {σ : L2.St} {H0 H : Hp} : ∀ {rs : List RV} {vs : List V} {i : Nat} {c : Cell}, RvAll K Γ σ H0 H rs vs → rs[i]? = some (.f c) → ∃ q, vs[i]? = some (.ref q) ∧ H0 q = none
  | [], _, _, _, _, e => by simp at e
  | r :: rs, _, 0, c, h, e => by
    cases h with
    | cons p q _ =>
      simp at e
      subst e
      obtain ⟨q, rfl, _, z⟩ := p
      exact ⟨q, rfl, z⟩
  | r :: rs, _, i + 1, c, h, e => by
    cases h with
    | cons p q _ =>
      obtain ⟨q, e2, z⟩ := rv_new (i := i) q (by simpa using e)
      exact ⟨q, by simpa using e2, z⟩
theorem da_nil : PA X [] (lftA X.K tN) := pa_wk pa_nil fun σ H Q ⟨Γ, R, ok, ht, hQ⟩ => hQ _ _ _ _ ht ok .rfl .nil
theorem da_cons (ha : PE X a (lft X.K ta)) (hr : PA X es (lftA X.K tas)) (hs : starEach (a :: es) X.env = (false, eval a X.env) :: starEach es X.env := by rfl) : PA X (a :: es) (lftA X.K (tC' ta tas)) := by
  refine pa_wk (pa_cons ha hr hs) fun σ H Q ⟨Γ, R, ok, ht, hQ⟩ => ⟨Γ, _, ok, ht, fun rv Γ1 v H1 h1 ok1 ev1 r1 => ⟨Γ1, _, ok1, h1, fun rs Γ2 vs H2 h2 ok2 ev2 r2 => ?_⟩⟩
  have away : FrAway rv v rs vs := fun c hc i c' hi hv => by
    subst hc
    obtain ⟨p, rfl, a, _⟩ := r1
    obtain ⟨o, e, _⟩ := a.some
    obtain ⟨q, hq, z⟩ := rv_new r2 hi
    rw [hv] at hq
    cases hq
    rw [z] at e; cases e
  refine hQ _ _ _ _ h2 ok2 (ev1.trans ev2) (.cons (r1.on ev1 ok ev2) ?_ away)
  have up : ∀ {rs : List RV} {vs : List V}, RvAll X.K Γ2 σ H1 H2 rs vs → RvAll X.K Γ2 σ H H2 rs vs := by
    intro rs
    induction rs with
    | nil => intro vs h; cases h; exact .nil
    | cons r rs ih => intro vs h; cases h with | cons p q z => exact .cons (p.up ev1) (ih q) z
  exact up r2
def allD : List RV → Option (List PyData)
  | [] => some []
  | .d x :: rs => (allD rs).map (x :: ·)
  | _ :: _ => none
def optL : Option (List PyData) → (List PyData → Prop) → Prop
  | some d, k => k d
  | none, _ => False
theorem optL_ex {o : Option (List PyData)} {k : List PyData → Prop} (h : optL o k) : ∃ d, o = some d ∧ k d := by
  cases o with
  | none => exact h.elim
  | some d => exact ⟨d, rfl, h⟩
theorem allD_pd {K : PySem.W.Frag} {Γ : Fm} {σ : L2.St} {H0 H : Hp} : ∀ {rs : List RV} {vs : List V} {ds : List PyData}, RvAll K Γ σ H0 H rs vs → allD rs = some ds → PdAll K H ds vs
  | [], _, _, h, e => by cases h; cases e; exact .nil
  | .d x :: rs, _, _, h, e => by
    cases h with
    | cons p q =>
      unfold allD at e
      cases w : allD rs with
      | none => rw [w] at e; cases e
      | some d => rw [w] at e; cases e; exact .cons p (allD_pd q w)
  | .s _ :: rs, _, _, h, e => by cases e
  | .f _ :: rs, _, _, h, e => by cases e
def valL (Γ : Fm) : List RV → Option (List PyData)
  | [] => some []
  | x :: rs => match val Γ x, valL Γ rs with
    | some d, some ds => some (d :: ds)
    | _, _ => none
inductive RbAll (K : PySem.W.Frag) (H : Hp) : List PyData → List V → Prop
  | nil : RbAll K H [] []
  | cons {v : V} {vs : List V} {d : PyData} {ds : List PyData} : Rb K H d v → RbAll K H ds vs → RbAll K H (d :: ds) (v :: vs)
theorem valL_rb {K : PySem.W.Frag} {Γ : Fm} {σ : L2.St} {H0 H : Hp} (ok : Ok K Γ σ H) : ∀ {rs : List RV} {vs : List V} {ds : List PyData}, RvAll K Γ σ H0 H rs vs → valL Γ rs = some ds → RbAll K H ds vs
  | [], _, _, h, e => by cases h; cases e; exact .nil
  | x :: rs, _, _, h, e => by
    cases h with
    | cons p q =>
      unfold valL at e
      cases w1 : val Γ x with
      | none => rw [w1] at e; cases e
      | some d =>
        cases w2 : valL Γ rs with
        | none => rw [w1, w2] at e; cases e
        | some ds => rw [w1, w2] at e; cases e; exact .cons (rdb ok p w1) (valL_rb ok q w2)

/-! ### displays -/
def tTup' (tas : DTa) : DT := fun Γ R => tas Γ fun rs Γ1 => optL (allD rs) fun ds => ds.length ≤ sizeLine ∧ R (.d (.tuple ds)) Γ1
def tLst' (tas : DTa) : DT := fun Γ R => tas Γ fun rs Γ1 => optL (allD rs) fun ds => ds.length ≤ sizeLine ∧ R (.f (.lst ds)) Γ1
theorem de_tup {x1} (h : PA X es (lftA X.K tas)) : PE X (.Tuple es x1 pos) (lft X.K (tTup' tas)) := by
  refine pe_wk (pe_tup h) fun σ H Q ⟨Γ, R, ok, ht, hQ⟩ => ⟨Γ, _, ok, ht, fun rs Γ1 vs H1 h1 ok1 ev1 r1 => ?_⟩
  obtain ⟨ds, ex, hl, h1⟩ := optL_ex h1
  have pd := allD_pd r1 ex
  refine ⟨by rw [← pd.len]; exact hl, fun p hp => ?_⟩
  have sm := same_fresh (o := .tup vs) hp
  exact hQ _ _ _ _ h1 (ok1.new sm) (ev1.trans (.new sm)) (.tup (.of upd_same) (pd.mono (.same sm)))
theorem de_lst (h : PA X es (lftA X.K tas)) : PE X (.List es pos) (lft X.K (tLst' tas)) := by
  refine pe_wk (pe_lst h) fun σ H Q ⟨Γ, R, ok, ht, hQ⟩ => ⟨Γ, _, ok, ht, fun rs Γ1 vs H1 h1 ok1 ev1 r1 => ?_⟩
  obtain ⟨ds, ex, hl, h1⟩ := optL_ex h1
  have pd := allD_pd r1 ex
  refine ⟨by rw [← pd.len]; exact hl, fun p hp => ?_⟩
  have sm := same_fresh (o := .lst vs) hp
  exact hQ _ _ _ _ h1 (ok1.new sm) (ev1.trans (.new sm)) ⟨p, rfl, ⟨vs, upd_same, pd.mono (.same sm)⟩, ev1.dom p hp⟩

/-! ### slices -/
abbrev DTo := Fm → (Option Int → Fm → Prop) → Prop
def lftO (K : PySem.W.Frag) (t : DTo) : TO := fun σ H Q => ∃ Γ R, Ok K Γ σ H ∧ t Γ R ∧ ∀ o Γ' H', R o Γ' → Ok K Γ' σ H' → Ev Γ σ H Γ' H' → Q o H'
theorem po_wk {e : Option Expr} {t t' : TO} (h : PO X e t) (w : ∀ σ H Q, t' σ H Q → t σ H Q) : PO X e t' := ⟨fun pins s σ H Q I q => h.run pins s σ H Q I (w σ H Q q)⟩
def tPno : DTo := fun Γ R => R none Γ
def tPsome (ta : DT) : DTo := fun Γ R => ta Γ fun rv Γ1 => optD (val Γ1 rv) fun d => match d with | .int i => R (some i) Γ1 | _ => False
theorem do_none : PO X none (lftO X.K tPno) := po_wk po_none fun σ H Q ⟨Γ, R, ok, ht, hQ⟩ => hQ _ _ _ ht ok .rfl
theorem do_some (h : PE X a (lft X.K ta)) : PO X (some a) (lftO X.K (tPsome ta)) := by
  refine po_wk (po_some h) fun σ H Q ⟨Γ, R, ok, ht, hQ⟩ => ⟨Γ, _, ok, ht, fun rv Γ1 v H1 h1 ok1 ev1 r1 => ?_⟩
  obtain ⟨d, ex, h1⟩ := optD_ex h1
  have q := rdb ok1 r1 ex
  cases d with
  | int i => exact ⟨i, q.int, hQ _ _ _ h1 ok1 ev1⟩
  | _ => exact h1.elim
def cutD {α : Type} (xs : List α) (lo hi : Option Int) : List α := (xs.drop (HT.sIx xs.length 0 lo)).take (HT.sIx xs.length xs.length hi - HT.sIx xs.length 0 lo)
def fSl : PyData → Option Int → Option Int → (RV → Prop) → Prop
  | .list ds, lo, hi, R => R (.f (.lst (cutD ds lo hi)))
  | .tuple ds, lo, hi, R => R (.d (.tuple (cutD ds lo hi)))
  | .str z, lo, hi, R => z.length ≤ sizeLine ∧ R (.d (.str (cutS z lo hi)))
  | _, _, _, _ => False
theorem cut_pd {K : PySem.W.Frag} {H : Hp} {ds : List PyData} {xs : List V} (a : PdAll K H ds xs) (lo hi : Option Int) : PdAll K H (cutD ds lo hi) (cutV xs lo hi) := by
  unfold cutD cutV
  rw [a.len]
  exact (a.drop _).take _
def tSl' (te : DT) (tl th : DTo) : DT := fun Γ R => te Γ fun x Γ1 => tl Γ1 fun l Γ2 => th Γ2 fun h Γ3 => optD (val Γ3 x) fun d => fSl d l h fun z => R z Γ3
theorem de_slice {lo hi : Option Expr} {p2 : Pos} {tl th : DTo} (he : PE X e (lft X.K ta)) (hl : PO X lo (lftO X.K tl)) (hu : PO X hi (lftO X.K th)) : PE X (.Subscript e (.Slice lo hi none p2) pos) (lft X.K (tSl' ta tl th)) := by
  refine pe_wk (pe_slice (sl_list.or (sl_tupA.or sl_str)) he hl hu) fun σ H Q ⟨Γ, R, ok, ht, hQ⟩ => ⟨Γ, _, ok, ht, fun x Γ1 v H1 h1 ok1 ev1 r1 => ⟨Γ1, _, ok1, h1, fun l Γ2 H2 h2 ok2 ev2 => ⟨Γ2, _, ok2, h2, fun u Γ3 H3 h3 ok3 ev3 => ?_⟩⟩⟩
  obtain ⟨d, ex, h3⟩ := optD_ex h3
  have evs := (ev1.trans ev2).trans ev3
  have q := rdb ok3 (r1.on ev1 ok (ev2.trans ev3)) ex
  cases d with
  | list ds =>
    obtain ⟨p, xs, rfl, hp, a⟩ := q.list
    refine .inl ⟨p, xs, rfl, .inl hp, fun n hn => ?_⟩
    have sm := same_fresh (o := .lst (cutV xs l u)) hn
    exact hQ _ _ _ _ h3 (ok3.new sm) (evs.trans (.new sm)) ⟨n, rfl, ⟨_, upd_same, (cut_pd a l u).mono (.same sm)⟩, evs.dom n hn⟩
  | tuple ds =>
    obtain ⟨p, xs, rfl, hp, a⟩ := q.tup
    refine .inr (.inl ⟨p, xs, rfl, hp, fun z => ?_, fun _ n hn => ?_⟩)
    · have e : cutV xs l u = xs := by
        unfold cutV
        rw [z.1, z.2]
        simp
      have c := cut_pd a l u
      rw [e] at c
      exact hQ _ _ _ _ h3 ok3 evs (.tup hp c)
    · have sm := same_fresh (o := .tup (cutV xs l u)) hn
      exact hQ _ _ _ _ h3 (ok3.new sm) (evs.trans (.new sm)) (.tup (.of upd_same) ((cut_pd a l u).mono (.same sm)))
  | str z =>
    rw [q.str]
    exact .inr (.inr ⟨z, rfl, h3.1, hQ _ _ _ _ h3.2 ok3 evs (.str _)⟩)
  | _ => exact h3.elim

/-! ### calls -/
/-- a def that changes nothing and hands back data -/
abbrev PM := List PyData → (PyData → Prop) → Prop
def spP (K : PySem.W.Frag) (m : PM) : Sp := fun vs H Q _ => ∃ ds R, (∀ P ∈ TabP.ps, TbOk H P) ∧ PdAll K H ds vs ∧ m ds R ∧ ∀ d v H', R d → Sm H H' → Pd K H' d v → Q v H'
def tCallP (m : PM) (tas : DTa) : DT := fun Γ R => tas Γ fun rs Γ1 => optL (allD rs) fun ds => m ds fun d => R (.d d) Γ1
theorem de_call {k : Nat} {f : Addr} {fd : FuncData} {ps : List Str} {x : Str} {p : Pos} {m : PM} (F : FnOk X.prog X.w X.K X.mg X.base CX0 k f fd ps (spP X.K m)) (hr : Room k X.A) (hg : Gl X x) (hm : X.mg x = some (.ref f)) (hk : PySem.W.keepIn X.K (.ref f) = true)
    (hb : L2.Binds X.K fd ps []) (ha : PA X (a :: es) (lftA X.K tas)) (hdb : (x == ("__debug__" : Str)) = false := by decide) (he : starEach (a :: es) X.env = (false, eval a X.env) :: starEach es X.env := by rfl)
    (hpl : (backTo pos (starEach es X.env)).any (·.1) = false := by rfl) : PE X (.Call (.Name x p) (a :: es) [] pos) (lft X.K (tCallP m tas)) := by
  refine pe_wk (pe_call F hr hg hm hk hb .nil pass0 ha hdb he hpl) fun σ H Q ⟨Γ, R, ok, ht, hQ⟩ => ⟨Γ, _, ok, ht, fun rs Γ1 vs H1 h1 ok1 ev1 r1 => ?_⟩
  obtain ⟨ds, ex, h1⟩ := optL_ex h1
  rw [List.append_nil]
  exact ⟨ds, _, ok1.tab, allD_pd r1 ex, h1, fun d v H' hd sm pd => hQ _ _ _ _ hd (ok1.sm sm) (ev1.trans (.sm sm)) pd⟩
/-- a built-in by its name -/
abbrev FL := List PyData → (RV → Prop) → Prop
def ClS (K : PySem.W.Frag) (r : List V → Hp → VK → Prop) (f : FL) : Prop := ∀ (xs : List V) (ds : List PyData) (H : Hp) (Q : VK) (R : RV → Prop), RbAll K H ds xs → f ds R →
  (∀ z v H', R z → Same H H' → RvOk K [] [] H H' z v → Q v H') → r xs H Q
def tCB' (f : FL) (tas : DTa) : DT := fun Γ R => tas Γ fun rs Γ1 => optL (valL Γ1 rs) fun ds => f ds fun z => R z Γ1
theorem cb_run {K : PySem.W.Frag} {r : List V → Hp → VK → Prop} {f : FL} (hs : ClS K r f) : ∀ σ H Q, lft K (tCB' f tas) σ H Q → tCB r (lftA K tas) σ H Q := by
  rintro σ H Q ⟨Γ, R, ok, ht, hQ⟩
  refine ⟨Γ, _, ok, ht, fun rs Γ1 vs H1 h1 ok1 ev1 r1 => ?_⟩
  obtain ⟨ds, ex, h1⟩ := optL_ex h1
  exact hs vs ds H1 Q _ (valL_rb ok1 r1 ex) h1 fun z v H' hz sm rz => hQ z Γ1 v H' hz (ok1.new sm) (ev1.trans (.new sm)) (RvOk.up (H1 := H1) rz.any ev1)
theorem de_cb {x : Str} {p : Pos} {id : String} {r : List V → Hp → VK → Prop} {f : FL} (hc : CallR X (.builtin id) r) (hs : ClS X.K r f) (hg : Gl X x) (hm : X.mg x = none) (hv : bootBuiltins x = some (.builtin id)) (ha : PA X (a :: es) (lftA X.K tas))
    (hn : x ≠ "__name__" := by decide) (hdb : (x == ("__debug__" : Str)) = false := by decide) (he : starEach (a :: es) X.env = (false, eval a X.env) :: starEach es X.env := by rfl)
    (hpl : (backTo pos (starEach es X.env)).any (·.1) = false := by rfl) : PE X (.Call (.Name x p) (a :: es) [] pos) (lft X.K (tCB' f tas)) := pe_wk (pe_callB hc hg hm hv ha hn hdb he hpl) (cb_run hs)
theorem de_cty {x : Str} {p : Pos} {T : String} {r : List V → Hp → VK → Prop} {f : FL} (hc : CallR X (.type T) r) (hs : ClS X.K r f) (hg : Gl X x) (hm : X.mg x = none) (hv : bootBuiltins x = some (.type T)) (ha : PA X (a :: es) (lftA X.K tas))
    (hn : x ≠ "__name__" := by decide) (hdb : (x == ("__debug__" : Str)) = false := by decide) (he : starEach (a :: es) X.env = (false, eval a X.env) :: starEach es X.env := by rfl)
    (hpl : (backTo pos (starEach es X.env)).any (·.1) = false := by rfl) : PE X (.Call (.Name x p) (a :: es) [] pos) (lft X.K (tCB' f tas)) := pe_wk (pe_callTy hc hg hm hv ha hn hdb he hpl) (cb_run hs)
end
end DL
set_option Elab.async false
set_option linter.all false
set_option maxRecDepth 100000
set_option maxHeartbeats 4000000
/-! DL5: built-ins, cells. -/
namespace DL
open PySem PySem.Spec PyProof.Rows L2
variable [TabP]

section
variable {X : Cx} {pos : Pos} {a b c e : Expr} {ta tb : DT} {tas : DTa}
/-! ### built-ins -/
def fInt : FL
  | [.int i], R => R (.d (.int i))
  | [.bool b], R => R (.d (.int (if b = true then 1 else 0)))
  | _, _ => False
theorem rb1 {K : PySem.W.Frag} {H : Hp} {d : PyData} {xs : List V} (h : RbAll K H [d] xs) : ∃ x, xs = [x] ∧ Rb K H d x := by
  cases h with | cons p q => cases q; exact ⟨_, rfl, p⟩
theorem sInt {K : PySem.W.Frag} : ClS K (fun xs H Q => (∃ i, xs = [.int i] ∧ Q (.int i) H) ∨ ∃ k, xs = [.bl k] ∧ Q (.int (if k = true then 1 else 0)) H) fInt := by
  intro xs ds H Q R hr hf hQ
  unfold fInt at hf
  split at hf
  · obtain ⟨x, rfl, q⟩ := rb1 hr; rw [q.int]; exact .inl ⟨_, rfl, hQ _ _ _ hf (Same.refl H) (.int _)⟩
  · obtain ⟨x, rfl, q⟩ := rb1 hr; rw [q.bool]; exact .inr ⟨_, rfl, hQ _ _ _ hf (Same.refl H) (.int _)⟩
  · exact hf.elim
def fAbs : FL
  | [.int i], R => R (.d (.int (if i < 0 then -i else i)))
  | _, _ => False
theorem sAbs {K : PySem.W.Frag} : ClS K (fun xs H Q => ∃ i, xs = [.int i] ∧ Q (.int (if i < 0 then -i else i)) H) fAbs := by
  intro xs ds H Q R hr hf hQ
  unfold fAbs at hf
  split at hf
  · obtain ⟨x, rfl, q⟩ := rb1 hr; rw [q.int]; exact ⟨_, rfl, hQ _ _ _ hf (Same.refl H) (.int _)⟩
  · exact hf.elim
def fOrd : FL
  | [.str x], R => x.length = 1 ∧ R (.d (.int (x.cps.getD 0 0)))
  | _, _ => False
theorem sOrd {K : PySem.W.Frag} : ClS K (fun xs H Q => ∃ x, xs = [.str x] ∧ x.length = 1 ∧ Q (.int (x.cps.getD 0 0 : Nat)) H) fOrd := by
  intro xs ds H Q R hr hf hQ
  unfold fOrd at hf
  split at hf
  · obtain ⟨x, rfl, q⟩ := rb1 hr; rw [q.str]; exact ⟨_, rfl, hf.1, hQ _ _ _ hf.2 (Same.refl H) (.int _)⟩
  · exact hf.elim
def fLen : FL
  | [.str x], R => x.length ≤ sizeLine ∧ R (.d (.int x.length))
  | [.list ds], R => R (.d (.int ds.length))
  | [.tuple ds], R => R (.d (.int ds.length))
  | _, _ => False
theorem sLen {K : PySem.W.Frag} : ClS K (fun xs H Q => ∃ x n, xs = [x] ∧ LenV K x H n ∧ Q (.int n) H) fLen := by
  intro xs ds H Q R hr hf hQ
  unfold fLen at hf
  split at hf
  · obtain ⟨x, rfl, q⟩ := rb1 hr; rw [q.str]; exact ⟨_, _, rfl, ⟨hf.1, rfl⟩, hQ _ _ _ hf.2 (Same.refl H) (.int _)⟩
  · obtain ⟨x, rfl, q⟩ := rb1 hr
    obtain ⟨p, xs, rfl, hp, a⟩ := q.list
    refine ⟨_, _, rfl, .inl ⟨xs, .inl hp, rfl⟩, ?_⟩; rw [← a.len]; exact hQ _ _ _ hf (Same.refl H) (.int _)
  · obtain ⟨x, rfl, q⟩ := rb1 hr
    obtain ⟨p, xs, rfl, hp, a⟩ := q.tup
    refine ⟨_, _, rfl, .inr ⟨xs, hp, rfl⟩, ?_⟩; rw [← a.len]; exact hQ _ _ _ hf (Same.refl H) (.int _)
  · exact hf.elim
def fList : FL
  | [.list ds], R => R (.f (.lst ds))
  | [.tuple ds], R => R (.f (.lst ds))
  | _, _ => False
theorem sList {K : PySem.W.Frag} : ClS K (fun xs H Q => ∃ p ys, xs = [.ref p] ∧ (SqL K H p ys ∨ SqT K H p ys) ∧ ∀ l, H l = none → Q (.ref l) (upd H l (.lst ys))) fList := by
  intro xs ds H Q R hr hf hQ
  unfold fList at hf
  split at hf
  · obtain ⟨x, rfl, q⟩ := rb1 hr
    obtain ⟨p, xs, rfl, hp, a⟩ := q.list
    exact ⟨_, _, rfl, .inl (.inl hp), fun l hl => hQ _ _ _ hf (same_fresh hl) (rvF hl a)⟩
  · obtain ⟨x, rfl, q⟩ := rb1 hr
    obtain ⟨p, xs, rfl, hp, a⟩ := q.tup
    exact ⟨_, _, rfl, .inr hp, fun l hl => hQ _ _ _ hf (same_fresh hl) (rvF hl a)⟩
  · exact hf.elim
def fTuple : FL
  | [.list ds], R => R (.d (.tuple ds))
  | [.tuple ds], R => R (.d (.tuple ds))
  | _, _ => False
theorem sTuple {K : PySem.W.Frag} : ClS K (fun xs H Q => ∃ p ys, xs = [.ref p] ∧ ((SqL K H p ys ∧ ∀ l, H l = none → Q (.ref l) (upd H l (.tup ys))) ∨ SqT K H p ys ∧ Q (.ref p) H)) fTuple := by
  intro xs ds H Q R hr hf hQ
  unfold fTuple at hf
  split at hf
  · obtain ⟨x, rfl, q⟩ := rb1 hr
    obtain ⟨p, xs, rfl, hp, a⟩ := q.list
    exact ⟨_, _, rfl, .inl ⟨.inl hp, fun l hl => hQ _ _ _ hf (same_fresh hl) (rvT hl a)⟩⟩
  · obtain ⟨x, rfl, q⟩ := rb1 hr
    obtain ⟨p, xs, rfl, hp, a⟩ := q.tup
    exact ⟨_, _, rfl, .inr ⟨hp, hQ _ _ _ hf (Same.refl H) (.tup hp a)⟩⟩
  · exact hf.elim
def fStrI : FL
  | [.int i], R => i.natAbs.log2 < 1920 ∧ R (.d (.str (Str.ofString (toString i))))
  | _, _ => False
theorem sStrI {K : PySem.W.Frag} : ClS K (fun xs H Q => ∃ i : Int, xs = [.int i] ∧ i.natAbs.log2 < 1920 ∧ Q (.str (Str.ofString (toString i))) H) fStrI := by
  intro xs ds H Q R hr hf hQ
  unfold fStrI at hf
  split at hf
  · obtain ⟨x, rfl, q⟩ := rb1 hr; rw [q.int]; exact ⟨_, rfl, hf.1, hQ _ _ _ hf.2 (Same.refl H) (.str _)⟩
  · exact hf.elim
theorem de_int1 {x : Pos} (hg : Gl X "int") (hm : X.mg "int" = none) (ha : PE X a (lft X.K ta)) (he : starEach [a] X.env = (false, eval a X.env) :: starEach [] X.env := by rfl) (hpl : (backTo pos (starEach [] X.env)).any (·.1) = false := by rfl) :
    PE X (.Call (.Name "int" x) [a] [] pos) (lft X.K (tCB' fInt (tC' ta tN))) := de_cty call_int1 sInt hg hm (by decide +kernel) (da_cons ha da_nil he) (he := he) (hpl := hpl)
theorem de_abs {x : Pos} (hg : Gl X "abs") (hm : X.mg "abs" = none) (ha : PE X a (lft X.K ta)) (he : starEach [a] X.env = (false, eval a X.env) :: starEach [] X.env := by rfl) (hpl : (backTo pos (starEach [] X.env)).any (·.1) = false := by rfl) :
    PE X (.Call (.Name "abs" x) [a] [] pos) (lft X.K (tCB' fAbs (tC' ta tN))) := de_cb call_abs sAbs hg hm (by decide +kernel) (da_cons ha da_nil he) (he := he) (hpl := hpl)
theorem de_ord {x : Pos} (hg : Gl X "ord") (hm : X.mg "ord" = none) (ha : PE X a (lft X.K ta)) (he : starEach [a] X.env = (false, eval a X.env) :: starEach [] X.env := by rfl) (hpl : (backTo pos (starEach [] X.env)).any (·.1) = false := by rfl) :
    PE X (.Call (.Name "ord" x) [a] [] pos) (lft X.K (tCB' fOrd (tC' ta tN))) := de_cb call_ord sOrd hg hm (by decide +kernel) (da_cons ha da_nil he) (he := he) (hpl := hpl)
theorem de_len {x : Pos} (hg : Gl X "len") (hm : X.mg "len" = none) (ha : PE X a (lft X.K ta)) (he : starEach [a] X.env = (false, eval a X.env) :: starEach [] X.env := by rfl) (hpl : (backTo pos (starEach [] X.env)).any (·.1) = false := by rfl) :
    PE X (.Call (.Name "len" x) [a] [] pos) (lft X.K (tCB' fLen (tC' ta tN))) := de_cb call_len sLen hg hm (by decide +kernel) (da_cons ha da_nil he) (he := he) (hpl := hpl)
theorem de_list {x : Pos} (hg : Gl X "list") (hm : X.mg "list" = none) (ha : PE X a (lft X.K ta)) (he : starEach [a] X.env = (false, eval a X.env) :: starEach [] X.env := by rfl) (hpl : (backTo pos (starEach [] X.env)).any (·.1) = false := by rfl) :
    PE X (.Call (.Name "list" x) [a] [] pos) (lft X.K (tCB' fList (tC' ta tN))) := de_cty call_list_of sList hg hm (by decide +kernel) (da_cons ha da_nil he) (he := he) (hpl := hpl)
theorem de_tuple {x : Pos} (hg : Gl X "tuple") (hm : X.mg "tuple" = none) (ha : PE X a (lft X.K ta)) (he : starEach [a] X.env = (false, eval a X.env) :: starEach [] X.env := by rfl) (hpl : (backTo pos (starEach [] X.env)).any (·.1) = false := by rfl) :
    PE X (.Call (.Name "tuple" x) [a] [] pos) (lft X.K (tCB' fTuple (tC' ta tN))) := de_cty call_tuple_of sTuple hg hm (by decide +kernel) (da_cons ha da_nil he) (he := he) (hpl := hpl)
theorem de_strI {x : Pos} (hg : Gl X "str") (hm : X.mg "str" = none) (ha : PE X a (lft X.K ta)) (he : starEach [a] X.env = (false, eval a X.env) :: starEach [] X.env := by rfl) (hpl : (backTo pos (starEach [] X.env)).any (·.1) = false := by rfl) :
    PE X (.Call (.Name "str" x) [a] [] pos) (lft X.K (tCB' fStrI (tC' ta tN))) := de_cty call_str_int sStrI hg hm (by decide +kernel) (da_cons ha da_nil he) (he := he) (hpl := hpl)

/-! ### isinstance -/
inductive Ty where | bool | int | str | tuple | list
def Ty.nm : Ty → String
  | .bool => "bool" | .int => "int" | .str => "str" | .tuple => "tuple" | .list => "list"
def isiD : Ty → PyData → Bool
  | .bool, .bool _ => true
  | .int, .bool _ => true
  | .int, .int _ => true
  | .str, .str _ => true
  | .tuple, .tuple _ => true
  | .list, .list _ => true
  | _, _ => false
def clsD : PyData → String
  | .none => "NoneType" | .bool _ => "bool" | .int _ => "int" | .str _ => "str" | .list _ => "list" | .tuple _ => "tuple" | .dict _ => "dict"
theorem kit_cls (T : Ty) (d : PyData) (hd : ∀ k, d ≠ .dict k) : kitB (clsD d) T.nm = some (isiD T d) := by
  cases T <;> cases d <;> first | (exact absurd rfl (hd _)) | (simp only [clsD, Ty.nm, isiD]; decide +kernel)
theorem rb_ty {K : PySem.W.Frag} {H : Hp} {d : PyData} {x : V} (h : Rb K H d x) : TyX K H x (.type (clsD d)) := by
  cases h with
  | pd h =>
    cases h with
    | non => exact .base .non
    | bl b => exact .base (.bl b)
    | int i => exact .base (.int i)
    | str z => exact .base (.str z)
    | lst a b => obtain ⟨o, a⟩ := a; exact .base (.frz a)
    | tup a b =>
      rcases a with (a | ⟨o, a⟩) | ⟨o, its, n, a, c, _⟩
      · exact .base (.tup a)
      · exact .fTuple a
      · exact .kTuple a c
  | lst a b =>
    rcases a with a | ⟨o, a⟩
    · exact .base (.lst a)
    · exact .base (.frz a)
theorem Rb.nd {K : PySem.W.Frag} {H : Hp} {d : PyData} {x : V} (h : Rb K H d x) : ∀ k, d ≠ .dict k := fun k z => by
  subst z; exact h.nodict
def tIsi (T : Ty) (ta : DT) : DT := fun Γ R => ta Γ fun rv Γ1 => optD (val Γ1 rv) fun d => R (.d (.bool (isiD T d))) Γ1
theorem de_isi (T : Ty) {p : Pos} (hg : Gl X "isinstance") (hm : X.mg "isinstance" = none) (ha : PE X a (lft X.K ta)) (hT : PE X b (tC (.ty T.nm)))
    (he : starEach [a, b] X.env = (false, eval a X.env) :: starEach [b] X.env := by rfl) (he2 : starEach [b] X.env = (false, eval b X.env) :: starEach [] X.env := by rfl)
    (hpl : (backTo pos (starEach [b] X.env)).any (·.1) = false := by rfl) : PE X (.Call (.Name "isinstance" p) [a, b] [] pos) (lft X.K (tIsi T ta)) := by
  refine pe_wk (pe_callB call_isi hg hm (by decide +kernel) (pa_cons ha (pa_cons hT pa_nil he2) he) (by decide) (by decide) he hpl) fun σ H Q ⟨Γ, R, ok, ht, hQ⟩ => ⟨Γ, _, ok, ht, fun rv Γ1 v H1 h1 ok1 ev1 r1 => ?_⟩
  obtain ⟨d, ex, h1⟩ := optD_ex h1
  have q := rdb ok1 r1 ex
  exact ⟨v, _, _, _, _, rfl, .ty T.nm, rb_ty q, kit_ty (kit_cls T d q.nd), hQ _ _ _ _ h1 ok1 ev1 (.bl _)⟩
theorem pe_tyN (T : Ty) {x : Str} {p : Pos} (hg : Gl X x) (hm : X.mg x = none) (hv : bootBuiltins x = some (.type T.nm)) (hn : x ≠ "__name__" := by decide) (hd : (x == ("__debug__" : Str)) = false := by decide) : PE X (.Name x p) (tC (.ty T.nm)) := pe_bltn hg hm hv rfl hn hd

/-! ### a cell is changed -/
theorem Ok.upc {K : PySem.W.Frag} {Γ : Fm} {σ : L2.St} {H : Hp} {i : Nat} {b : Bool} {c c' : Cell} {p : Addr} {o : HO} (ok : Ok K Γ σ H) (h : Γ[i]? = some (.c b c)) (hp : σ[i]? = some (some (.ref p)))
    (ho : ∀ H', Per H H' → H' p = some o → AtC K H' p c') : Ok K (Γ.set i (.c b c')) σ (upd H p o) ∧ Ev Γ σ H (Γ.set i (.c b c')) (upd H p o) := by
  have hlt : i < Γ.length := (List.getElem?_eq_some_iff.mp h).1
  have self : (Γ.set i (.c b c'))[i]? = some (.c b c') := List.getElem?_set_self hlt
  have oth : ∀ {j : Nat}, i ≠ j → (Γ.set i (.c b c'))[j]? = Γ[j]? := fun n => List.getElem?_set_ne n
  obtain ⟨q, e, a⟩ := ok.cel i b c h
  rw [hp] at e; cases e
  obtain ⟨u, hu, hu1, hu2, hu3⟩ := a.some
  have per : Per H (upd H p o) := .mut hu hu1 hu2 hu3 fun f z => a.nx f (by rw [hu, z])
  have back : ∀ (j : Nat) (b' : Bool) (d : Cell), (Γ.set i (.c b c'))[j]? = some (.c b' d) → ∃ d', Γ[j]? = some (.c b' d') := fun j b' d z => by
    by_cases ne : i = j
    · subst ne; rw [self] at z; cases z; exact ⟨c, h⟩
    · rw [oth ne] at z; exact ⟨d, z⟩
  refine ⟨⟨by rw [List.length_set]; exact ok.len, fun j x z => ?_, fun j b' d z => ?_, fun j1 j2 b1 c1 b2 c2 q z1 z2 z3 z4 => ?_, fun P hP => per.tab P (ok.tab P hP)⟩, ⟨?_, per, fun q w e _ n => ?_, fun q hq => ?_, fun j d z => ?_, fun j sv z n => ?_⟩⟩
  · have ne : i ≠ j := fun w => by subst w; rw [self] at z; cases z
    rw [oth ne] at z
    obtain ⟨v, e, r⟩ := ok.dat j x z
    exact ⟨v, e, r.mono per⟩
  · by_cases ne : i = j
    · subst ne; rw [self] at z; cases z
      exact ⟨p, hp, ho _ per upd_same⟩
    · rw [oth ne] at z
      obtain ⟨q, e, r⟩ := ok.cel j b' d z
      refine ⟨q, e, r.mono per (upd_ne fun w => ?_)⟩
      subst w
      exact ne (ok.dis i j _ _ _ _ _ h z hp e)
  · obtain ⟨d1, y1⟩ := back _ _ _ z1
    obtain ⟨d2, y2⟩ := back _ _ _ z2
    exact ok.dis j1 j2 _ _ _ _ _ y1 y2 z3 z4
  · rintro q ⟨j, b', d, z, y⟩
    obtain ⟨d', z'⟩ := back _ _ _ z
    exact ⟨j, b', d', z', y⟩
  · rw [upd_ne fun z => n (by subst z; exact ⟨i, b, c, h, hp⟩)]; exact e
  · by_cases z : q = p
    · subst z; rw [upd_same] at hq; cases hq
    · rw [upd_ne z] at hq; exact hq
  · by_cases ne : i = j
    · subst ne; rw [h] at z; cases z; exact ⟨c', self⟩
    · rw [oth ne]; exact ⟨d, z⟩
  · by_cases ne : i = j
    · subst ne; exact ⟨_, self, fun z => by cases z⟩
    · rw [oth ne]; exact ⟨sv, z, n⟩
def celP : Option SV → (Bool → List PyData → Prop) → Prop
  | some (.c b (.lst ds)), k => k b ds
  | _, _ => False
theorem celP_ex {o : Option SV} {k : Bool → List PyData → Prop} (h : celP o k) : ∃ b ds, o = some (.c b (.lst ds)) ∧ k b ds := by
  unfold celP at h
  split at h
  · exact ⟨_, _, rfl, h⟩
  · exact h.elim
def datR : RV → (PyData → Prop) → Prop
  | .d x, k => k x
  | _, _ => False
theorem datR_ex {r : RV} {k : PyData → Prop} (h : datR r k) : ∃ x, r = .d x ∧ k x := by
  unfold datR at h
  split at h
  · exact ⟨_, rfl, h⟩
  · exact h.elim
/-- x.append(e), x the cell of the i-th name -/
def tApp (i : Nat) (ta : DT) : DT := fun Γ R => celP Γ[i]? fun _ _ => ta Γ fun rv Γ1 => datR rv fun y => celP Γ1[i]? fun b ds => ds.length < sizeLine ∧ R (.d .none) (Γ1.set i (.c b (.lst (ds ++ [y]))))
theorem de_app {i : Nat} {apos cpos : Pos} {o : Expr} (ho : PE X o (tVar i)) (ha : PE X a (lft X.K ta))
    (hbase : attributeBase o "append" X.env (eval o X.env) = eval o X.env := by rfl)
    (hfew : ((backTo cpos (starEach [a] X.env)).all (fun x => !x.1) && (backToKw cpos (keywordEach [] X.env)).all (fun x => x.1.isSome)
      && decide ([a].length + ([] : List Keyword).length + (if ([] : List Keyword).isEmpty then 0 else 1) < 30)) = true := by rfl)
    (hline : (apos.endLine == cpos.line) = true := by rfl) (hs : starEach [a] X.env = (false, eval a X.env) :: starEach [] X.env := by rfl) (hplain : (backTo cpos (starEach [] X.env)).any (·.1) = false := by rfl) :
    PE X (.Call (.Attribute o "append" apos) [a] [] cpos) (lft X.K (tApp i ta)) := by
  refine pe_wk (pe_bm PySem.F.plainAttrs_list PySem.F.slot_list_append PySem.F.type_list_append mt_append ho (pa_cons ha pa_nil hs) hbase hfew hline hs hplain) fun σ H Q ⟨Γ, R, ok, ht, hQ⟩ => ?_
  obtain ⟨b0, ds0, e0, ht⟩ := celP_ex ht
  obtain ⟨p, hp, vs0, hv0, _⟩ := ok.cel i _ _ e0
  refine ⟨_, hp, .inl ⟨rfl, vs0, .inl (.inl hv0)⟩, Γ, _, ok, ht, fun rv Γ1 v H1 h1 ok1 ev1 r1 => ?_⟩
  obtain ⟨y, rfl, h1⟩ := datR_ex h1
  obtain ⟨b, ds, e1, hl, h1⟩ := celP_ex h1
  obtain ⟨p', hp', vs, hv, pv⟩ := ok1.cel i _ _ e1
  rw [hp] at hp'; cases hp'
  have r1 : Pd X.K H1 y v := r1
  obtain ⟨ok2, ev2⟩ := ok1.upc (c' := .lst (ds ++ [y])) (o := .lst (vs ++ [v])) e1 hp fun H' per q => ⟨_, q, (pv.mono per).app (.cons (r1.mono per) .nil)⟩
  exact ⟨p, vs, v, rfl, rfl, hv, by rw [← pv.len]; exact hl, hQ _ _ _ _ h1 ok2 (ev1.trans ev2) .non⟩
/-- the place of an item -/
def ixP (n : Nat) : PyData → (Nat → Prop) → Prop
  | .int k, f => match ixN n k with
    | some j => f j
    | none => False
  | _, _ => False
theorem ixP_ex {n : Nat} {d : PyData} {f : Nat → Prop} (h : ixP n d f) : ∃ k j, d = .int k ∧ ixN n k = some j ∧ f j := by
  cases d with
  | int k =>
    unfold ixP at h
    cases q : ixN n k with
    | none => simp only [q] at h
    | some j => simp only [q] at h; exact ⟨k, j, rfl, q, h⟩
  | _ => exact h.elim
/-- x[e] = d, x the cell of the i-th name: the target -/
def tSetI (i : Nat) (ta : DT) (y : PyData) : Fm → (Fm → Prop) → Prop := fun Γ R => ta Γ fun rv Γ1 => optD (val Γ1 rv) fun dk => celP Γ1[i]? fun b ds => ixP ds.length dk fun j => R (Γ1.set i (.c b (.lst (ds.set j y))))
end
end DL
set_option Elab.async false
set_option linter.all false
set_option maxRecDepth 100000
set_option maxHeartbeats 4000000
/-! DL6: targets, statements, loops. -/
namespace DL
open PySem PySem.Spec PyProof.Rows L2
variable [TabP]

/-- what a statement does -/
structure Sx (Γ : Fm) (σ : L2.St) (H : Hp) (Γ' : Fm) (σ' : L2.St) (H' : Hp) : Prop where
  per : Per H H'
  dom : ∀ b, H' b = none → H b = none
  fr : ∀ b o, H b = some o → (∀ ps, o ≠ .tbl ps) → ¬ CA Γ σ b → H' b = some o ∧ ¬ CA Γ' σ' b
  pin : ∀ (i : Nat) (c : Cell), Γ[i]? = some (.c true c) → σ'[i]? = σ[i]? ∧ ∃ c', Γ'[i]? = some (.c true c')
theorem Sx.of {Γ Γ' : Fm} {σ : L2.St} {H H' : Hp} (e : Ev Γ σ H Γ' H') : Sx Γ σ H Γ' σ H' :=
  ⟨e.per, e.dom, fun b o h t n => ⟨e.fr b o h t n, fun z => n (e.sub b z)⟩, fun i c h => ⟨rfl, e.pin i c h⟩⟩
theorem Sx.rfl {Γ : Fm} {σ : L2.St} {H : Hp} : Sx Γ σ H Γ σ H := .of .rfl
theorem Sx.trans {Γ Γ1 Γ2 : Fm} {σ σ1 σ2 : L2.St} {H H1 H2 : Hp} (a : Sx Γ σ H Γ1 σ1 H1) (b : Sx Γ1 σ1 H1 Γ2 σ2 H2) : Sx Γ σ H Γ2 σ2 H2 :=
  ⟨a.per.trans b.per, fun c h => a.dom c (b.dom c h), fun c o h t n => let ⟨x, y⟩ := a.fr c o h t n; b.fr c o x t y, fun i c h => by
    obtain ⟨e, c', h'⟩ := a.pin i c h
    obtain ⟨e2, c2, h2⟩ := b.pin i c' h'
    exact ⟨e2.trans e, c2, h2⟩⟩
def free (o : Option SV) (A : Prop) : Prop := match o with
  | some (.c true _) => False
  | some _ => A
  | none => False
theorem free_ex {o : Option SV} {A : Prop} (h : free o A) : (∃ sv, o = some sv ∧ ∀ c, sv ≠ .c true c) ∧ A := by
  unfold free at h
  split at h
  · exact h.elim
  · rename_i sv n
    exact ⟨⟨_, rfl, fun c z => n c (by rw [z])⟩, h⟩
  · exact h.elim
section
variable {K : PySem.W.Frag} {Γ Γ0 : Fm} {σ : L2.St} {H H0 : Hp}
/-- a name gets a value -/
theorem store_d {i : Nat} {x : PyData} {v : V} {sv : SV} (ok : Ok K Γ σ H) (pv : Pd K H x v) (h : Γ[i]? = some sv) (hp : ∀ c, sv ≠ .c true c) (ev : Ev Γ0 σ H0 Γ H) :
    Ok K (Γ.set i (.d x)) (σ.set i (some v)) H ∧ Sx Γ0 σ H0 (Γ.set i (.d x)) (σ.set i (some v)) H := by
  have hlt : i < Γ.length := (List.getElem?_eq_some_iff.mp h).1
  have hlt2 : i < σ.length := by rw [← ok.len]; exact hlt
  have self : (Γ.set i (.d x))[i]? = some (.d x) := List.getElem?_set_self hlt
  have oth : ∀ {j : Nat}, i ≠ j → (Γ.set i (.d x))[j]? = Γ[j]? := fun n => List.getElem?_set_ne n
  have self2 : (σ.set i (some v))[i]? = some (some v) := List.getElem?_set_self hlt2
  have oth2 : ∀ {j : Nat}, i ≠ j → (σ.set i (some v))[j]? = σ[j]? := fun n => List.getElem?_set_ne n
  have back : ∀ (j : Nat) (b : Bool) (c : Cell), (Γ.set i (.d x))[j]? = some (.c b c) → i ≠ j ∧ Γ[j]? = some (.c b c) := fun j b c z => by
    by_cases ne : i = j
    · subst ne; rw [self] at z; cases z
    · rw [oth ne] at z; exact ⟨ne, z⟩
  have ca : ∀ p, CA (Γ.set i (.d x)) (σ.set i (some v)) p → CA Γ σ p := by
    rintro p ⟨j, b, c, z1, z2⟩
    obtain ⟨ne, z⟩ := back _ _ _ z1
    rw [oth2 ne] at z2
    exact ⟨j, b, c, z, z2⟩
  refine ⟨⟨by rw [List.length_set, List.length_set]; exact ok.len, fun j y z => ?_, fun j b c z => ?_, fun j1 j2 b1 c1 b2 c2 q z1 z2 z3 z4 => ?_, ok.tab⟩, ⟨ev.per, ev.dom, fun b o e t n => ⟨ev.fr b o e t n, fun z => n (ev.sub b (ca b z))⟩, fun j c z => ?_⟩⟩
  · by_cases ne : i = j
    · subst ne; rw [self] at z; cases z; exact ⟨v, self2, pv⟩
    · rw [oth ne] at z; rw [oth2 ne]; exact ok.dat j y z
  · obtain ⟨ne, z⟩ := back _ _ _ z
    rw [oth2 ne]; exact ok.cel j b c z
  · obtain ⟨n1, y1⟩ := back _ _ _ z1
    obtain ⟨n2, y2⟩ := back _ _ _ z2
    rw [oth2 n1] at z3
    rw [oth2 n2] at z4
    exact ok.dis j1 j2 _ _ _ _ _ y1 y2 z3 z4
  · obtain ⟨c', z'⟩ := ev.pin j c z
    have ne : i ≠ j := fun w => by subst w; rw [h] at z'; cases z'; exact hp _ rfl
    exact ⟨oth2 ne, c', by rw [oth ne]; exact z'⟩
theorem store_f {i : Nat} {c : Cell} {p : Addr} {sv : SV} (ok0 : Ok K Γ0 σ H0) (ok : Ok K Γ σ H) (pv : AtC K H p c) (h0 : H0 p = none) (h : Γ[i]? = some sv) (hp : ∀ c, sv ≠ .c true c) (ev : Ev Γ0 σ H0 Γ H) :
    Ok K (Γ.set i (.c false c)) (σ.set i (some (.ref p))) H ∧ Sx Γ0 σ H0 (Γ.set i (.c false c)) (σ.set i (some (.ref p))) H := by
  have nca : ¬ CA Γ σ p := fun z => ok0.noca h0 (ev.sub p z)
  have hlt : i < Γ.length := (List.getElem?_eq_some_iff.mp h).1
  have hlt2 : i < σ.length := by rw [← ok.len]; exact hlt
  have self : (Γ.set i (.c false c))[i]? = some (.c false c) := List.getElem?_set_self hlt
  have oth : ∀ {j : Nat}, i ≠ j → (Γ.set i (.c false c))[j]? = Γ[j]? := fun n => List.getElem?_set_ne n
  have self2 : (σ.set i (some (V.ref p)))[i]? = some (some (.ref p)) := List.getElem?_set_self hlt2
  have oth2 : ∀ {j : Nat}, i ≠ j → (σ.set i (some (V.ref p)))[j]? = σ[j]? := fun n => List.getElem?_set_ne n
  refine ⟨⟨by rw [List.length_set, List.length_set]; exact ok.len, fun j y z => ?_, fun j b d z => ?_, fun j1 j2 b1 c1 b2 c2 q z1 z2 z3 z4 => ?_, ok.tab⟩, ⟨ev.per, ev.dom, fun b o e t n => ⟨ev.fr b o e t n, ?_⟩, fun j d z => ?_⟩⟩
  · have ne : i ≠ j := fun w => by subst w; rw [self] at z; cases z
    rw [oth ne] at z; rw [oth2 ne]; exact ok.dat j y z
  · by_cases ne : i = j
    · subst ne; rw [self] at z; cases z; exact ⟨p, self2, pv⟩
    · rw [oth ne] at z; rw [oth2 ne]; exact ok.cel j b d z
  · by_cases n1 : i = j1
    · by_cases n2 : i = j2
      · exact n1.symm.trans n2
      · subst n1
        rw [self2] at z3; cases z3
        rw [oth n2] at z2; rw [oth2 n2] at z4
        exact absurd ⟨j2, _, _, z2, z4⟩ nca
    · by_cases n2 : i = j2
      · subst n2
        rw [self2] at z4; cases z4
        rw [oth n1] at z1; rw [oth2 n1] at z3
        exact absurd ⟨j1, _, _, z1, z3⟩ nca
      · rw [oth n1] at z1; rw [oth2 n1] at z3; rw [oth n2] at z2; rw [oth2 n2] at z4
        exact ok.dis j1 j2 _ _ _ _ _ z1 z2 z3 z4
  · rintro ⟨j, b', d, z1, z2⟩
    by_cases ne : i = j
    · subst ne; rw [self2] at z2; cases z2; rw [h0] at e; cases e
    · rw [oth ne] at z1; rw [oth2 ne] at z2
      exact n (ev.sub b ⟨j, b', d, z1, z2⟩)
  · obtain ⟨c', z'⟩ := ev.pin j d z
    have ne : i ≠ j := fun w => by subst w; rw [h] at z'; cases z'; exact hp _ rfl
    exact ⟨oth2 ne, c', by rw [oth ne]; exact z'⟩
end

/-! ### targets -/
abbrev DGt := RV → Fm → (Fm → Prop) → Prop
/-- Γ0, H0: the statement's start -/
def lftG (K : PySem.W.Frag) (g : DGt) : TG := fun v σ H Q => ∃ Γ0 H0 Γ rv R, Ok K Γ0 σ H0 ∧ Ev Γ0 σ H0 Γ H ∧ Ok K Γ σ H ∧ RvOk K Γ σ H0 H rv v ∧ g rv Γ R ∧ ∀ Γ' σ' H', R Γ' → Ok K Γ' σ' H' → Sx Γ0 σ H0 Γ' σ' H' → Q σ' H'
theorem pg_wk {X : Cx} {e : Expr} {t t' : TG} (h : PG X e t) (w : ∀ v σ H Q, t' v σ H Q → t v σ H Q) : PG X e t' := ⟨fun pins s σ H v u Q I r q => h.run pins s σ H v u Q I r (w v σ H Q q)⟩
def gNm (i : Nat) : DGt := fun rv Γ R => free Γ[i]? (match rv with
  | .d x => R (Γ.set i (.d x))
  | .f c => R (Γ.set i (.c false c))
  | .s _ => False)
section
variable {X : Cx} {pos : Pos} {a b c e tg : Expr} {ta tb : DT} {tas : DTa} {tt : DTt} {g : DGt}
theorem dg_name {i : Nat} {e : Expr} (h : PG X e (gName i)) : PG X e (lftG X.K (gNm i)) := by
  refine pg_wk h fun v σ H Q ⟨Γ0, H0, Γ, rv, R, ok0, ev, ok, r, hg, hQ⟩ => ?_
  obtain ⟨⟨sv, e, hp⟩, hg⟩ := free_ex hg
  cases rv with
  | d x =>
    obtain ⟨ok', sx⟩ := store_d ok r e hp ev
    exact hQ _ _ _ hg ok' sx
  | s _ => exact hg.elim
  | f c =>
    obtain ⟨p, rfl, a, h0⟩ := r
    obtain ⟨ok', sx⟩ := store_f ok0 ok a h0 e hp ev
    exact hQ _ _ _ hg ok' sx
/-- x[e] = .. -/
def gSb (i : Nat) (ta : DT) : DGt := fun rv Γ R => datR rv fun y => celP Γ[i]? fun _ _ => tSetI i ta y Γ R
theorem dg_sub {i : Nat} {o : Expr} (ho : PE X o (tVar i)) (ha : PE X a (lft X.K ta))
    (hs : ∀ v, assign (.Subscript o a pos) X.env v = (do
      let ov ← holding [v] (eval o X.env)
      let iv ← holding [v, ov] (eval a X.env)
      standAt pos
      holding [v, ov, iv] (setItem ov iv v)
      release [v, ov, iv] []) := by intro _; rfl) : PG X (.Subscript o a pos) (lftG X.K (gSb i ta)) := by
  refine pg_wk (pg_sub ho ha set_list hs) fun v σ H Q ⟨Γ0, H0, Γ, rv, R, ok0, ev, ok, r, hg, hQ⟩ => ?_
  obtain ⟨y, rfl, hg⟩ := datR_ex hg
  have r : Pd X.K H y v := r
  obtain ⟨b0, ds0, e0, hg⟩ := celP_ex hg
  obtain ⟨p, hp, vs0, hv0, _⟩ := ok.cel i _ _ e0
  refine ⟨_, hp, Γ, _, ok, hg, fun rk Γ1 u H1 h1 ok1 ev1 r1 => ?_⟩
  obtain ⟨dk, ek, h1⟩ := optD_ex h1
  obtain ⟨b, ds, e1, h1⟩ := celP_ex h1
  obtain ⟨k, j, rfl, hj, h1⟩ := ixP_ex h1
  obtain ⟨p', hp', vs, hv, pv⟩ := ok1.cel i _ _ e1
  rw [hp] at hp'; cases hp'
  have ru := (rdb ok1 r1 ek).int
  subst ru
  obtain ⟨ok2, ev2⟩ := ok1.upc (c' := .lst (ds.set j y)) (o := .lst (vs.set j v)) e1 hp fun H' per q => ⟨_, q, (pv.mono per).set j ((r.mono ev1.per).mono per)⟩
  exact ⟨p, vs, k, j, rfl, rfl, hv, by rw [← pv.len]; exact hj, hQ _ _ _ h1 ok2 (.of ((ev.trans ev1).trans ev2))⟩

/-! ### statements -/
structure DEnds where
  nx : Fm → Prop
  rt : PyData → Fm → Prop
  bk : Fm → Prop := fun _ => False
  ct : Fm → Prop := fun _ => False
abbrev DS := DEnds → Fm → Prop
def lfs (K : PySem.W.Frag) (t : DS) : TS := fun D σ H => ∃ Γ E, Ok K Γ σ H ∧ t E Γ ∧ (∀ Γ' σ' H', E.nx Γ' → Ok K Γ' σ' H' → Sx Γ σ H Γ' σ' H' → D.nx σ' H') ∧ (∀ x Γ' σ' v H', E.rt x Γ' → Ok K Γ' σ' H' → Sx Γ σ H Γ' σ' H' → Pd K H' x v → D.rt v H') ∧
  (∀ Γ' σ' H', E.bk Γ' → Ok K Γ' σ' H' → Sx Γ σ H Γ' σ' H' → D.bk σ' H') ∧ (∀ Γ' σ' H', E.ct Γ' → Ok K Γ' σ' H' → Sx Γ σ H Γ' σ' H' → D.ct σ' H')
theorem ps_wk {X : Cx} {e : Stmt} {t t' : TS} (h : PS X e t) (w : ∀ D σ H, t' D σ H → t D σ H) : PS X e t' := ⟨fun pins s σ H D I q => h.run pins s σ H D I (w D σ H q)⟩
theorem pss_wk {X : Cx} {e : List Stmt} {t t' : TS} (h : PSs X e t) (w : ∀ D σ H, t' D σ H → t D σ H) : PSs X e t' := ⟨fun pins s σ H D I q => h.run pins s σ H D I (w D σ H q)⟩
def sNext : DS := fun E Γ => E.nx Γ
def sSeq (t u : DS) : DS := fun E Γ => t { E with nx := u E } Γ
variable {st : Stmt} {sts : List Stmt} {t u : DS}
theorem ds_nil : PSs X [] (lfs X.K sNext) := pss_wk pss_nil fun D σ H ⟨Γ, E, ok, ht, h1, _⟩ => h1 _ _ _ ht ok .rfl
theorem ds_cons (h1 : PS X st (lfs X.K t)) (h2 : PSs X sts (lfs X.K u)) : PSs X (st :: sts) (lfs X.K (sSeq t u)) := by
  refine pss_wk (pss_cons h1 h2) fun D σ H ⟨Γ, E, ok, ht, e1, e2, e3, e4⟩ => ⟨Γ, _, ok, ht, fun Γ1 σ1 H1 q ok1 sx => ?_, e2, e3, e4⟩
  exact ⟨Γ1, E, ok1, q, fun _ _ _ a b c => e1 _ _ _ a b (sx.trans c), fun _ _ _ _ _ a b c d => e2 _ _ _ _ _ a b (sx.trans c) d, fun _ _ _ a b c => e3 _ _ _ a b (sx.trans c), fun _ _ _ a b c => e4 _ _ _ a b (sx.trans c)⟩
theorem ds_one (h1 : PS X st (lfs X.K t)) : PSs X [st] (lfs X.K t) := pss_one h1
def sBreak : DS := fun E Γ => E.bk Γ
def sCont : DS := fun E Γ => E.ct Γ
theorem ds_pass : PS X (.Pass pos) (lfs X.K sNext) := ps_wk ps_pass fun D σ H ⟨Γ, E, ok, ht, h1, _⟩ => h1 _ _ _ ht ok .rfl
theorem ds_break : PS X (.Break pos) (lfs X.K sBreak) := ps_wk ps_break fun D σ H ⟨Γ, E, ok, ht, _, _, h1, _⟩ => h1 _ _ _ ht ok .rfl
theorem ds_cont : PS X (.Continue pos) (lfs X.K sCont) := ps_wk ps_continue fun D σ H ⟨Γ, E, ok, ht, _, _, _, h1⟩ => h1 _ _ _ ht ok .rfl
def sDrop (ta : DT) : DS := fun E Γ => ta Γ fun _ Γ1 => E.nx Γ1
theorem ds_expr (h : PE X e (lft X.K ta)) (hs : swapsWith e none pos.line X.env = pure false := by rfl) : PS X (.Expr e pos) (lfs X.K (sDrop ta)) :=
  ps_wk (ps_expr h hs) fun D σ H ⟨Γ, E, ok, ht, h1, _⟩ => ⟨Γ, _, ok, ht, fun rv Γ1 v H1 q ok1 ev1 r1 => h1 _ _ _ q ok1 (.of ev1)⟩
def sRet (ta : DT) : DS := fun E Γ => ta Γ fun rv Γ1 => datR rv fun x => E.rt x Γ1
theorem ds_ret (h : PE X e (lft X.K ta)) : PS X (.Return (some e) pos) (lfs X.K (sRet ta)) := by
  refine ps_wk (ps_ret h) fun D σ H ⟨Γ, E, ok, ht, _, h2, _⟩ => ⟨Γ, _, ok, ht, fun rv Γ1 v H1 q ok1 ev1 r1 => ?_⟩
  obtain ⟨x, rfl, q⟩ := datR_ex q
  exact h2 _ _ _ _ _ q ok1 (.of ev1) r1
def sRetN : DS := fun E Γ => E.rt .none Γ
theorem ds_retN : PS X (.Return none pos) (lfs X.K sRetN) := ps_wk ps_retN fun D σ H ⟨Γ, E, ok, ht, _, h2, _⟩ => h2 _ _ _ _ _ ht ok .rfl .non
def sIf (tt : DTt) (t u : DS) : DS := fun E Γ => tt Γ fun c Γ1 => condP c (t E Γ1) (u E Γ1)
theorem ds_if {A B : List Stmt} (hc : PT X c (lftT X.K tt)) (ha : PSs X A (lfs X.K t)) (hb : PSs X B (lfs X.K u)) : PS X (.If c A B pos) (lfs X.K (sIf tt t u)) := by
  refine ps_wk (ps_if hc ha hb) fun D σ H ⟨Γ, E, ok, ht, e1, e2, e3, e4⟩ => ⟨Γ, _, ok, ht, fun d Γ1 H1 q ok1 ev1 => ?_⟩
  have sx := Sx.of ev1
  have go : ∀ (w : DS), w E Γ1 → lfs X.K w D σ H1 := fun w hw => ⟨Γ1, E, ok1, hw, fun _ _ _ a b c => e1 _ _ _ a b (sx.trans c), fun _ _ _ _ _ a b c d => e2 _ _ _ _ _ a b (sx.trans c) d, fun _ _ _ a b c => e3 _ _ _ a b (sx.trans c), fun _ _ _ a b c => e4 _ _ _ a b (sx.trans c)⟩
  cases d with
  | true => exact iteT (go t (condP_T q))
  | false => exact iteF (go u (condP_F q))
def sAsg (ta : DT) (g : DGt) : DS := fun E Γ => ta Γ fun rv Γ1 => g rv Γ1 E.nx
theorem asg_run {K : PySem.W.Frag} : ∀ D σ H, lfs K (sAsg ta g) D σ H → tAsg (lft K ta) (lftG K g) D σ H := by
  rintro D σ H ⟨Γ, E, ok, ht, h1, _⟩
  exact ⟨Γ, _, ok, ht, fun rv Γ1 v H1 q ok1 ev1 r1 => ⟨Γ, H, Γ1, rv, _, ok, ev1, ok1, r1, q, h1⟩⟩
theorem ds_asg (h : PE X e (lft X.K ta)) (hg : PG X tg (lftG X.K g)) (hs : swapsWithSole [tg] e pos.line X.env = pure false := by rfl) (hw : swappedStores [tg] e X.env = pure none := by rfl)
    (h1 : (assignEach [tg] X.env).map (·.2) = [assign tg X.env] := by rfl) : PS X (.Assign [tg] e pos) (lfs X.K (sAsg ta g)) := ps_wk (ps_asg h hg hs hw h1) asg_run
theorem ds_set {i : Nat} {x : Str} {pos' : Pos} (hN : X.N.Nodup) (hi : X.N[i]? = some x) (hx : Loc X.env.scope x) (h : PE X e (lft X.K ta)) (hs : swapsWith e (some (.Name x pos')) pos.line X.env = pure false := by rfl)
    (hf : X.fn x = true ∨ X.env.scope.names.lookup x = some .local := by first | exact .inl rfl | exact .inr rfl | assumption) : PS X (.Assign [.Name x pos'] e pos) (lfs X.K (sAsg ta (gNm i))) := by
  refine ps_wk (ps_set hN hi hx h hs hf) fun D σ H q => ?_
  obtain ⟨Γ, R, ok, ht, hQ⟩ := asg_run D σ H q
  refine ⟨Γ, R, ok, ht, fun rv Γ' v H' a b c d => ?_⟩
  obtain ⟨Γ0, H0, Γ1, rw', R', ok0, ev, ok', r, hg, hQ'⟩ := hQ rv Γ' v H' a b c d
  obtain ⟨⟨sv, e, hp⟩, hg⟩ := free_ex hg
  cases rw' with
  | d y => obtain ⟨ok2, sx⟩ := store_d ok' r e hp ev; exact hQ' _ _ _ hg ok2 sx
  | s _ => exact hg.elim
  | f c => obtain ⟨p, rfl, a, h0⟩ := r; obtain ⟨ok2, sx⟩ := store_f ok0 ok' a h0 e hp ev; exact hQ' _ _ _ hg ok2 sx
/-- name op= e -/
abbrev Ip2 := PyData → PyData → (PyData → Prop) → Prop
def IpS (K : PySem.W.Frag) (ti : TIp) (f : Ip2) : Prop := ∀ (x y : V) (dx dy : PyData) (H : Hp) (Q : VK) (R : PyData → Prop), Pd K H dx x → Rb K H dy y → f dx dy R → (∀ z v, R z → Pd K H z v → Q v H) → ti x y H Q
def datO : Option SV → (PyData → Prop) → Prop
  | some (.d x), k => k x
  | _, _ => False
theorem datO_ex {r : Option SV} {k : PyData → Prop} (h : datO r k) : ∃ x, r = some (.d x) ∧ k x := by
  unfold datO at h
  split at h
  · exact ⟨_, rfl, h⟩
  · exact h.elim
def sAug (i : Nat) (ta : DT) (f : Ip2) : DS := fun E Γ => datO Γ[i]? fun dx => ta Γ fun rv Γ1 => optD (val Γ1 rv) fun dy => f dx dy fun z => free Γ1[i]? (E.nx (Γ1.set i (.d z)))
theorem ds_aug {i : Nat} {x : Str} {op : Operator} {ti : TIp} {f : Ip2} {pos' : Pos} (hN : X.N.Nodup) (hi : X.N[i]? = some x) (hx : Loc X.env.scope x) (h : PE X e (lft X.K ta)) (ho : PIp X op ti) (hf' : IpS X.K ti f)
    (hf : X.fn x = true ∨ X.env.scope.names.lookup x = some .local := by first | exact .inl rfl | exact .inr rfl | assumption) : PS X (.AugAssign (.Name x pos') op e pos) (lfs X.K (sAug i ta f)) := by
  refine ps_wk (ps_aug hN hi hx h ho hf) fun D σ H ⟨Γ, E, ok, ht, h1, _⟩ => ?_
  obtain ⟨dx, ex, ht⟩ := datO_ex ht
  obtain ⟨v, ev, pv⟩ := ok.dat i dx ex
  refine ⟨v, ev, Γ, _, ok, ht, fun rv Γ1 u H1 q ok1 ev1 r1 => ?_⟩
  obtain ⟨dy, ey, q⟩ := optD_ex q
  refine hf' v u dx dy H1 _ _ (pv.mono ev1.per) (rdb ok1 r1 ey) q fun z w hz pz => ?_
  obtain ⟨⟨sv, e2, hp⟩, hz⟩ := free_ex hz
  obtain ⟨ok2, sx⟩ := store_d ok1 pz e2 hp ev1
  exact h1 _ _ _ hz ok2 sx
def ipAdd : Ip2
  | .int i, .int j, R => R (.int (i + j))
  | _, _, _ => False
def ipSub : Ip2
  | .int i, .int j, R => R (.int (i - j))
  | _, _, _ => False
theorem sIpAdd {K : PySem.W.Frag} : IpS K (ipI fun i j => i + j) ipAdd := by
  intro x y dx dy H Q R px ry hf hQ
  cases dx with
  | int i =>
    cases dy with
    | int j => cases px; exact ⟨i, j, rfl, ry.int, hQ _ _ hf (.int _)⟩
    | _ => exact hf.elim
  | _ => exact hf.elim
theorem sIpSub {K : PySem.W.Frag} : IpS K (ipI fun i j => i - j) ipSub := by
  intro x y dx dy H Q R px ry hf hQ
  cases dx with
  | int i =>
    cases dy with
    | int j => cases px; exact ⟨i, j, rfl, ry.int, hQ _ _ hf (.int _)⟩
    | _ => exact hf.elim
  | _ => exact hf.elim
end
end DL
set_option Elab.async false
set_option linter.all false
set_option maxRecDepth 100000
set_option maxHeartbeats 4000000
/-! DL7: targets of data, walks, loops, comprehensions. -/
namespace DL
open PySem PySem.Spec PyProof.Rows L2
variable [TabP]

/-! ### targets by form -/
inductive Tg where
  | nm (i : Nat)
  | tup (ts : List Tg)
mutual
def Tg.t (K : PySem.W.Frag) : Tg → TG
  | .nm i => gName i
  | .tup ts => fun v σ H Q => gTup K ts.length (Tg.ts K ts) v σ H Q ∨ gLst K ts.length (Tg.ts K ts) v σ H Q
def Tg.ts (K : PySem.W.Frag) : List Tg → TGs
  | [] => gNil
  | x :: xs => gCons (Tg.t K x) (Tg.ts K xs)
end
/-- a name that holds no cell -/
def plainS (o : Option SV) (A : Prop) : Prop := match o with
  | some (.c _ _) => False
  | some _ => A
  | none => False
theorem plainS_ex {o : Option SV} {A : Prop} (h : plainS o A) : (∃ sv, o = some sv ∧ ∀ b c, sv ≠ .c b c) ∧ A := by
  unfold plainS at h
  split at h
  · exact h.elim
  · rename_i sv n
    exact ⟨⟨_, rfl, fun b c z => n b c (by rw [z])⟩, h⟩
  · exact h.elim
mutual
def Tg.d : Tg → PyData → Fm → (Fm → Prop) → Prop
  | .nm i, x, Γ, R => plainS Γ[i]? (R (Γ.set i (.d x)))
  | .tup ts, .tuple ds, Γ, R => Tg.dl ts ds Γ R
  | .tup ts, .list ds, Γ, R => Tg.dl ts ds Γ R
  | .tup _, _, _, _ => False
def Tg.dl : List Tg → List PyData → Fm → (Fm → Prop) → Prop
  | [], [], Γ, R => R Γ
  | t :: ts, d :: ds, Γ, R => Tg.d t d Γ fun Γ1 => Tg.dl ts ds Γ1 R
  | _, _, _, _ => False
end
mutual
def Tg.sl : Tg → List Nat
  | .nm i => [i]
  | .tup ts => Tg.sls ts
def Tg.sls : List Tg → List Nat
  | [] => []
  | t :: ts => Tg.sl t ++ Tg.sls ts
end
/-- some names got data -/
structure Wr (S : List Nat) (Γ : Fm) (σ : L2.St) (Γ' : Fm) (σ' : L2.St) : Prop where
  oth : ∀ j, j ∉ S → σ'[j]? = σ[j]? ∧ Γ'[j]? = Γ[j]?
  nc : ∀ (j : Nat) (b : Bool) (c : Cell), j ∈ S → Γ'[j]? ≠ some (.c b c) ∧ Γ[j]? ≠ some (.c b c)
  len : σ'.length = σ.length
theorem Wr.ca {S : List Nat} {Γ Γ' : Fm} {σ σ' : L2.St} (w : Wr S Γ σ Γ' σ') {p : Addr} (h : CA Γ' σ' p) : CA Γ σ p := by
  obtain ⟨j, b, c, h1, h2⟩ := h
  by_cases hj : j ∈ S
  · exact absurd h1 (w.nc j b c hj).1
  · obtain ⟨e1, e2⟩ := w.oth j hj
    exact ⟨j, b, c, e2 ▸ h1, e1 ▸ h2⟩
theorem Wr.sx {S : List Nat} {Γ Γ' : Fm} {σ σ' : L2.St} {H : Hp} (w : Wr S Γ σ Γ' σ') : Sx Γ σ H Γ' σ' H :=
  ⟨.rfl, fun _ h => h, fun b o e _ n => ⟨e, fun z => n (w.ca z)⟩, fun i c h => by
    by_cases hj : i ∈ S
    · exact absurd h (w.nc i _ _ hj).2
    · obtain ⟨e1, e2⟩ := w.oth i hj
      exact ⟨e1, c, by rw [e2]; exact h⟩⟩
section
variable {K : PySem.W.Frag}
mutual
theorem Tg.run : ∀ (t : Tg) {Γ : Fm} {σ : L2.St} {H : Hp} {x : PyData} {v : V} {R : Fm → Prop} {Q : L2.St → Hp → Prop}, Ok K Γ σ H → Pd K H x v → t.d x Γ R →
    (∀ Γ' σ', R Γ' → Ok K Γ' σ' H → Wr t.sl Γ σ Γ' σ' → Q σ' H) → t.t K v σ H Q
  | .nm i, Γ, σ, H, x, v, R, Q, ok, pv, h, hQ => by
    obtain ⟨⟨sv, e, n⟩, h⟩ := plainS_ex (by unfold Tg.d at h; exact h)
    obtain ⟨ok', _⟩ := store_d ok pv e (fun c => n true c) .rfl
    have hlt : i < Γ.length := (List.getElem?_eq_some_iff.mp e).1
    unfold Tg.t
    refine hQ _ _ h ok' ⟨fun j hj => ?_, fun j b c hj => ?_, by rw [List.length_set]⟩
    · have ne : i ≠ j := fun z => hj (by unfold Tg.sl; rw [z]; exact List.mem_singleton_self _)
      exact ⟨List.getElem?_set_ne ne, List.getElem?_set_ne ne⟩
    · unfold Tg.sl at hj
      have z : j = i := List.mem_singleton.mp hj
      subst z
      refine ⟨?_, fun z => ?_⟩
      · rw [List.getElem?_set_self hlt]
        exact fun z => (nomatch z)
      · rw [e] at z
        exact n b c (Option.some.inj z)
  | .tup ts, Γ, σ, H, x, v, R, Q, ok, pv, h, hQ => by
    cases x with
    | tuple ds =>
      unfold Tg.d at h
      cases pv with
      | @tup a xs _ h1 h2 =>
        have hl := Tg.lenl ts ds h
        unfold Tg.t
        refine .inl ⟨a, xs, rfl, h1, by rw [← h2.len, hl], ?_⟩
        exact Tg.runl ts ok h2 h fun Γ' σ' a b c => hQ Γ' σ' a b (by unfold Tg.sl; exact c)
    | list ds =>
      unfold Tg.d at h
      cases pv with
      | @lst a xs _ h1 h2 =>
        have hl := Tg.lenl ts ds h
        unfold Tg.t
        refine .inr ⟨a, xs, rfl, h1.seq, by rw [← h2.len, hl], ?_⟩
        exact Tg.runl ts ok h2 h fun Γ' σ' a b c => hQ Γ' σ' a b (by unfold Tg.sl; exact c)
    | _ => unfold Tg.d at h; exact h.elim
theorem Tg.lenl : ∀ (ts : List Tg) (ds : List PyData) {Γ : Fm} {R : Fm → Prop}, Tg.dl ts ds Γ R → ds.length = ts.length
  | [], [], _, _, _ => rfl
  | t :: ts, d :: ds, Γ, R, h => by
    unfold Tg.dl at h
    obtain ⟨Γ1, h1⟩ := Tg.some t h
    rw [List.length_cons, List.length_cons, Tg.lenl ts ds h1]
  | [], _ :: _, _, _, h => by unfold Tg.dl at h; exact h.elim
  | _ :: _, [], _, _, h => by unfold Tg.dl at h; exact h.elim
theorem Tg.some : ∀ (t : Tg) {x : PyData} {Γ : Fm} {R : Fm → Prop}, t.d x Γ R → ∃ Γ1, R Γ1
  | .nm i, x, Γ, R, h => by
    unfold Tg.d at h
    exact ⟨_, (plainS_ex h).2⟩
  | .tup ts, x, Γ, R, h => by
    cases x with
    | tuple ds => unfold Tg.d at h; exact Tg.somel ts h
    | list ds => unfold Tg.d at h; exact Tg.somel ts h
    | _ => unfold Tg.d at h; exact h.elim
theorem Tg.somel : ∀ (ts : List Tg) {ds : List PyData} {Γ : Fm} {R : Fm → Prop}, Tg.dl ts ds Γ R → ∃ Γ1, R Γ1
  | [], [], Γ, _, h => by unfold Tg.dl at h; exact ⟨Γ, h⟩
  | t :: ts, d :: ds, _, _, h => by
    unfold Tg.dl at h
    obtain ⟨Γ1, h1⟩ := Tg.some t h
    exact Tg.somel ts h1
  | [], _ :: _, _, _, h => by unfold Tg.dl at h; exact h.elim
  | _ :: _, [], _, _, h => by unfold Tg.dl at h; exact h.elim
theorem Tg.runl : ∀ (ts : List Tg) {Γ : Fm} {σ : L2.St} {H : Hp} {ds : List PyData} {vs : List V} {R : Fm → Prop} {Q : L2.St → Hp → Prop}, Ok K Γ σ H → PdAll K H ds vs → Tg.dl ts ds Γ R →
    (∀ Γ' σ', R Γ' → Ok K Γ' σ' H → Wr (Tg.sls ts) Γ σ Γ' σ' → Q σ' H) → Tg.ts K ts vs σ H Q
  | [], Γ, σ, H, ds, vs, R, Q, ok, pv, h, hQ => by
    cases ds with
    | nil =>
      cases pv
      unfold Tg.dl at h
      unfold Tg.ts
      exact ⟨rfl, hQ _ _ h ok ⟨fun _ _ => ⟨rfl, rfl⟩, fun j b c hj => by unfold Tg.sls at hj; exact absurd hj (by simp), rfl⟩⟩
    | cons _ _ => unfold Tg.dl at h; exact h.elim
  | t :: ts, Γ, σ, H, ds, vs, R, Q, ok, pv, h, hQ => by
    cases ds with
    | nil => unfold Tg.dl at h; exact h.elim
    | cons d ds =>
      cases pv with
      | cons p1 p2 =>
        unfold Tg.dl at h
        unfold Tg.ts
        refine ⟨_, _, rfl, Tg.run t ok p1 h fun Γ1 σ1 h1 ok1 w1 => ?_⟩
        refine Tg.runl ts ok1 p2 h1 fun Γ2 σ2 h2 ok2 w2 => hQ _ _ h2 ok2 ?_
        unfold Tg.sls
        refine ⟨fun j hj => ?_, fun j b c hj => ?_, w2.len.trans w1.len⟩
        · have n1 : j ∉ t.sl := fun z => hj (List.mem_append_left _ z)
          have n2 : j ∉ Tg.sls ts := fun z => hj (List.mem_append_right _ z)
          exact ⟨(w2.oth j n2).1.trans (w1.oth j n1).1, (w2.oth j n2).2.trans (w1.oth j n1).2⟩
        · by_cases n2 : j ∈ Tg.sls ts
          · refine ⟨(w2.nc j b c n2).1, ?_⟩
            by_cases n1 : j ∈ t.sl
            · exact (w1.nc j b c n1).2
            · rw [← (w1.oth j n1).2]; exact (w2.nc j b c n2).2
          · have n1 : j ∈ t.sl := (List.mem_append.mp hj).resolve_right n2
            exact ⟨by rw [(w2.oth j n2).2]; exact (w1.nc j b c n1).1, (w1.nc j b c n1).2⟩
end
end

/-! ### what is walked -/
abbrev DIt := Fm → (List PyData → Fm → Prop) → Prop
def ItOk (K : PySem.W.Frag) (J : It) (ds : List PyData) (H : Hp) : Prop := ∀ H', Per H H' → J.stop ds.length H' ∧ (∀ i, i < ds.length → J.go i H') ∧
  ∀ i v H'', J.yld i H' v H'' → i < ds.length → ∃ d, ds[i]? = some d ∧ Pd K H'' d v ∧ Same H' H''
def lftI (K : PySem.W.Frag) (w : DIt) : TI := fun σ H R => ∃ Γ RR, Ok K Γ σ H ∧ w Γ RR ∧ ∀ ds Γ' J H', RR ds Γ' → Ok K Γ' σ H' → Ev Γ σ H Γ' H' → ItOk K J ds H' → R J H'
theorem pi_wk {X : Cx} {tg e : Expr} {t t' : TI} (h : PI X tg e t) (w : ∀ σ H Q, t' σ H Q → t σ H Q) : PI X tg e t' := ⟨fun pins s σ H Q I q => h.run pins s σ H Q I (w σ H Q q)⟩
def chars (z : Str) : List PyData := z.cps.toList.map fun c => .str ⟨#[c]⟩
def itemsD : PyData → (List PyData → Prop) → Prop
  | .list ds, k => k ds
  | .tuple ds, k => k ds
  | _, _ => False
def strD : PyData → (Str → Prop) → Prop
  | .str z, k => k z
  | _, _ => False
theorem strD_ex {d : PyData} {k : Str → Prop} (h : strD d k) : ∃ i, d = .str i ∧ k i := by
  cases d with
  | str i => exact ⟨i, rfl, h⟩
  | _ => exact h.elim
def wSeq (ta : DT) : DIt := fun Γ R => ta Γ fun rv Γ1 => datR rv fun d => itemsD d fun ds => R ds Γ1
section
variable {X : Cx} {pos : Pos} {a b c e tg : Expr} {ta tb : DT} {tas : DTa} {tt : DTt} {t u : DS} {w : DIt}
theorem itl_ok {K : PySem.W.Frag} {H : Hp} {p : Addr} {xs : List V} {ds : List PyData} (h : SqF H p xs) (a : PdAll K H ds xs) : ItOk K (Itl K p) ds H := fun H' per => by
  have hs : SqL K H' p xs := (h.mono per).seq
  refine ⟨⟨xs, hs, by rw [← a.len]; exact Nat.le_refl _⟩, fun i hi => ?_, fun i v H'' y hi => ?_⟩
  · rw [a.len] at hi
    exact ⟨xs, xs[i], hs, List.getElem?_eq_getElem hi⟩
  · obtain ⟨rfl, y⟩ := y
    obtain ⟨d, e, q⟩ := a.getV (y xs hs)
    exact ⟨d, e, q.mono per, Same.refl _⟩
theorem itt_ok {K : PySem.W.Frag} {H : Hp} {p : Addr} {xs : List V} {ds : List PyData} (h : SqT K H p xs) (a : PdAll K H ds xs) : ItOk K (Itt K p) ds H := fun H' per => by
  have hs : SqT K H' p xs := sqT_mono per h
  refine ⟨⟨xs, hs, by rw [← a.len]; exact Nat.le_refl _⟩, fun i hi => ?_, fun i v H'' y hi => ?_⟩
  · rw [a.len] at hi
    exact ⟨xs, xs[i], hs, List.getElem?_eq_getElem hi⟩
  · obtain ⟨rfl, y⟩ := y
    obtain ⟨d, e, q⟩ := a.getV (y xs hs)
    exact ⟨d, e, q.mono per, Same.refl _⟩
theorem its_ok {K : PySem.W.Frag} {H : Hp} {z : Str} : ItOk K (Its z) (chars z) H := fun H' per => by
  have hl : (chars z).length = z.cps.size := by unfold chars; rw [List.length_map, Array.length_toList]
  refine ⟨by show z.cps.size ≤ _; omega, fun i hi => by show i < z.cps.size; omega, fun i v H'' y hi => ?_⟩
  obtain ⟨rfl, c, hc, rfl⟩ := y
  refine ⟨.str ⟨#[c]⟩, ?_, .str _, Same.refl _⟩
  unfold chars
  rw [List.getElem?_map, Array.getElem?_toList, hc]; rfl
@[irreducible] def rngD (lo : Int) (n : Nat) : List PyData := (List.range n).map fun i => .int (lo + (i : Nat))
theorem itr_ok {K : PySem.W.Frag} {H : Hp} {lo : Int} {n : Nat} : ItOk K (Itr lo n) (rngD lo n) H := fun H' per => by
  have hl : (rngD lo n).length = n := by unfold rngD; rw [List.length_map, List.length_range]
  refine ⟨by show n ≤ _; omega, fun i hi => by show i < n; omega, fun i v H'' y hi => ?_⟩
  obtain ⟨rfl, rfl⟩ := y
  refine ⟨.int (lo + (i : Nat)), ?_, .int _, Same.refl _⟩
  unfold rngD
  rw [List.getElem?_map, List.getElem?_range (by omega)]; rfl
/-- over a list, a tuple or a text -/
theorem di_seq (he : PE X e (lft X.K ta)) : PI X tg e (lftI X.K (wSeq ta)) := by
  refine ⟨fun pins s σ H R I ⟨Γ, RR, ok, ht, hR⟩ => ?_⟩
  refine thn (he.run pins s σ H (fun v H' => ∃ (d : PyData) (Γ' : Fm), itemsD d (fun ds => RR ds Γ') ∧ Ok X.K Γ' σ H' ∧ Ev Γ σ H Γ' H' ∧ Pd X.K H' d v) I ⟨Γ, _, ok, ht, fun rv Γ' v H' h1 ok1 ev1 r1 => ?_⟩) fun u s1 ⟨v, H1, I1, r1, d, Γ1, q, ok1, ev1, pd⟩ => ?_
  · obtain ⟨d, rfl, h1⟩ := datR_ex h1
    exact ⟨d, Γ', h1, ok1, ev1, r1⟩
  · cases d with
    | list ds =>
      cases pd with
      | @lst p xs _ sq a =>
        cases r1
        obtain ⟨its, _, pl, _⟩ := I1.list (sq.seq (K := X.K))
        refine wpAny_pyIter_list pl.isList ⟨s1.heap.objs.size, [s1.heap.objs.size], _, _, H1, rfl, ?_, turn_list p _, ⟨_, Heap.get?_push_size _ rfl, rfl, rfl⟩, ?_, hR ds Γ1 _ H1 q ok1 ev1 (itl_ok sq a)⟩
        · exact I1.kept (t' := s1.toks) fun _ _ z => Heap.get?_push_of_some _ z
        · intro b hb
          rw [List.mem_singleton.mp hb]
          exact I1.fpOk (Nat.le_refl _) (I1.hok.fresh (Nat.le_refl _))
    | tuple ds =>
      cases pd with
      | @tup p xs _ sq a =>
        cases r1
        obtain ⟨its, _, pl, _⟩ := I1.tuple sq
        refine wpAny_pyIter_tuple pl ⟨s1.heap.objs.size, [s1.heap.objs.size], _, _, H1, rfl, ?_, turn_tuple p _, ⟨_, Heap.get?_push_size _ rfl, rfl, rfl⟩, ?_, hR ds Γ1 _ H1 q ok1 ev1 (itt_ok sq a)⟩
        · exact I1.kept (t' := s1.toks) fun _ _ z => Heap.get?_push_of_some _ z
        · intro b hb
          rw [List.mem_singleton.mp hb]
          exact I1.fpOk (Nat.le_refl _) (I1.hok.fresh (Nat.le_refl _))
    | _ => exact q.elim
def wStr (ta : DT) : DIt := fun Γ R => ta Γ fun rv Γ1 => datR rv fun d => strD d fun z => R (chars z) Γ1
theorem di_str (he : PE X e (lft X.K ta)) : PI X tg e (lftI X.K (wStr ta)) := by
  refine pi_wk (pi_str he) fun σ H R ⟨Γ, RR, ok, ht, hR⟩ => ⟨Γ, _, ok, ht, fun rv Γ1 v H1 h1 ok1 ev1 r1 => ?_⟩
  obtain ⟨d, rfl, h1⟩ := datR_ex h1
  obtain ⟨z, rfl, h1⟩ := strD_ex h1
  cases r1
  exact ⟨z, rfl, hR _ _ _ _ h1 ok1 ev1 its_ok⟩
def intD : PyData → (Int → Prop) → Prop
  | .int i, k => k i
  | _, _ => False
theorem intD_ex {d : PyData} {k : Int → Prop} (h : intD d k) : ∃ i, d = .int i ∧ k i := by
  cases d with
  | int i => exact ⟨i, rfl, h⟩
  | _ => exact h.elim
def wRng (ta : DT) : DIt := fun Γ R => ta Γ fun rv Γ1 => optD (val Γ1 rv) fun d => intD d fun j => (-(2 ^ 62) ≤ j ∧ j < 2 ^ 62) ∧ R (rngD 0 j.toNat) Γ1
theorem di_range {p : Pos} (hg : Gl X "range") (hm : X.mg "range" = none) (ha : PE X a (lft X.K ta)) (hs : starEach [a] X.env = [(false, eval a X.env)] := by rfl) : PI X tg (.Call (.Name "range" p) [a] [] pos) (lftI X.K (wRng ta)) := by
  refine pi_wk (pi_range1 hg hm (pa_cons ha pa_nil hs) hs) fun σ H R ⟨Γ, RR, ok, ht, hR⟩ => ⟨Γ, _, ok, ht, fun rv Γ1 v H1 h1 ok1 ev1 r1 => ?_⟩
  obtain ⟨d, ex, h1⟩ := optD_ex h1
  obtain ⟨j, rfl, hb, h1⟩ := intD_ex h1
  rw [(rdb ok1 r1 ex).int]
  exact ⟨j, rfl, hb.1, hb.2, hR _ _ _ _ h1 ok1 ev1 itr_ok⟩

/-! ### for -/
def loopW (g : Tg) (t : DS) (E : DEnds) : List PyData → Fm → Prop
  | [], Γ => E.nx Γ
  | x :: xs, Γ => g.d x Γ fun Γ1 => t { nx := loopW g t E xs, ct := loopW g t E xs, bk := E.nx, rt := E.rt } Γ1
def sFor (w : DIt) (g : Tg) (t : DS) : DS := fun E Γ => w Γ fun ds Γ1 => loopW g t E ds Γ1
theorem ds_for {body : List Stmt} {g : Tg} (hp : PassesOwn (model X.prog X.w) X.A X.env X.xe) (hc : X.calm = true) (hi : PI X tg e (lftI X.K w)) (hg : PG X tg (g.t X.K)) (hb : PSs X body (lfs X.K t))
    (hs : ∀ x, foldedSetIterable e X.env x = pure x := by intro _; rfl) : PS X (.For tg e body [] pos) (lfs X.K (sFor w g t)) := by
  refine ps_wk (ps_for hp hc hi hg hb hs) fun D σ H ⟨Γ, E, ok, ht, e1, e2, e3, e4⟩ => ⟨Γ, _, ok, ht, fun ds Γ1 J H1 q ok1 ev1 it => ?_⟩
  refine ⟨fun i m σ' H' => m = ds.length - i ∧ i ≤ ds.length ∧ ∃ Γ', Ok X.K Γ' σ' H' ∧ loopW g t E (ds.drop i) Γ' ∧ Sx Γ σ H Γ' σ' H' ∧ Per H1 H', ⟨_, rfl, Nat.zero_le _, Γ1, ok1, q, .of ev1, .rfl⟩, ?_⟩
  rintro i m σ' H' ⟨rfl, hi, Γ', ok', q', sx, per⟩
  obtain ⟨i1, i2, i3⟩ := it H' per
  by_cases hlt : i < ds.length
  · rw [List.drop_eq_getElem_cons hlt] at q'
    refine .inr ⟨i2 i hlt, fun σ2 H2 => ∃ Γ2, Ok X.K Γ2 σ2 H2 ∧ loopW g t E (ds.drop (i + 1)) Γ2 ∧ Sx Γ σ H Γ2 σ2 H2 ∧ Per H1 H2, fun σ2 H2 h => ⟨_, by omega, rfl, hlt, h⟩, fun v H2 y => ?_⟩
    obtain ⟨d, hd, pd, sm⟩ := i3 i v H2 y hlt
    rw [List.getElem?_eq_getElem hlt] at hd
    cases hd
    have sx2 : Sx Γ σ H Γ' σ' H2 := sx.trans (.of (.new sm))
    have p2 := per.trans (.same sm)
    refine g.run (ok'.new sm) pd q' fun Γ3 σ3 q3 ok3 w3 => ?_
    have sx3 := sx2.trans (w3.sx (H := H2))
    refine ⟨Γ3, _, ok3, q3, fun Γ4 σ4 H4 a b c => ⟨Γ4, b, a, sx3.trans c, p2.trans c.per⟩, fun x Γ4 σ4 v4 H4 a b c d => e2 _ _ _ _ _ a b (sx3.trans c) d, fun Γ4 σ4 H4 a b c => e1 _ _ _ a b (sx3.trans c), fun Γ4 σ4 H4 a b c => ⟨Γ4, b, a, sx3.trans c, p2.trans c.per⟩⟩
  · have z : i = ds.length := by omega
    subst z
    rw [List.drop_length] at q'
    exact .inl ⟨i1, e1 _ _ _ q' ok' sx⟩

/-! ### while -/
def whileW0 (tt : DTt) (t : DS) (E : DEnds) : Nat → Fm → Prop
  | 0, _ => False
  | n + 1, Γ => tt Γ fun b Γ1 => condP b (t { nx := whileW0 tt t E n, ct := whileW0 tt t E n, bk := E.nx, rt := E.rt } Γ1) (E.nx Γ1)
@[irreducible] def whileW (tt : DTt) (t : DS) (E : DEnds) (n : Nat) (Γ : Fm) : Prop := whileW0 tt t E n Γ
omit [TabP] in
theorem whileW_0 {tt : DTt} {t : DS} {E : DEnds} {Γ : Fm} (h : whileW tt t E 0 Γ) : False := by unfold whileW at h; exact h
omit [TabP] in
theorem whileW_s {tt : DTt} {t : DS} {E : DEnds} {n : Nat} {Γ : Fm} : whileW tt t E (n + 1) Γ = tt Γ fun b Γ1 => condP b (t { nx := whileW tt t E n, ct := whileW tt t E n, bk := E.nx, rt := E.rt } Γ1) (E.nx Γ1) := by
  have e : ∀ n, whileW tt t E n = whileW0 tt t E n := fun n => by funext Γ; unfold whileW; rfl
  rw [e, e]; rfl
def sWhile (tt : DTt) (t : DS) : DS := fun E Γ => ∃ n, whileW tt t E n Γ
theorem ds_while {body : List Stmt} (hp : PassesOwn (model X.prog X.w) X.A X.env X.xe) (hc : PT X c (lftT X.K tt)) (hb : PSs X body (lfs X.K t)) : PS X (.While c body [] pos) (lfs X.K (sWhile tt t)) := by
  refine ps_wk (ps_while hp hc hb) fun D σ H ⟨Γ, E, ok, ⟨n, ht⟩, e1, e2, e3, e4⟩ => ?_
  refine ⟨fun m σ' H' => ∃ Γ', Ok X.K Γ' σ' H' ∧ whileW tt t E m Γ' ∧ Sx Γ σ H Γ' σ' H', ⟨n, Γ, ok, ht, .rfl⟩, ?_⟩
  rintro m σ' H' ⟨Γ', ok', q, sx⟩
  cases m with
  | zero => exact (whileW_0 q).elim
  | succ m =>
    rw [whileW_s] at q
    refine ⟨Γ', _, ok', q, fun b Γ1 H1 q1 ok1 ev1 => ?_⟩
    have sx1 := sx.trans (.of ev1)
    cases b with
    | false => exact iteF (e1 _ _ _ (condP_F q1) ok1 sx1)
    | true =>
      refine iteT ⟨fun σ2 H2 => ∃ Γ2, Ok X.K Γ2 σ2 H2 ∧ whileW tt t E m Γ2 ∧ Sx Γ σ H Γ2 σ2 H2, fun σ2 H2 h => ⟨m, Nat.lt_succ_self _, h⟩, Γ1, _, ok1, condP_T q1, fun Γ4 σ4 H4 a b c => ⟨Γ4, b, a, sx1.trans c⟩, fun x Γ4 σ4 v4 H4 a b c d => e2 _ _ _ _ _ a b (sx1.trans c) d, fun Γ4 σ4 H4 a b c => e1 _ _ _ a b (sx1.trans c), fun Γ4 σ4 H4 a b c => ⟨Γ4, b, a, sx1.trans c⟩⟩
end
end DL
set_option Elab.async false
set_option linter.all false
set_option maxRecDepth 100000
set_option maxHeartbeats 4000000
/-! DL8: list comprehensions. -/
namespace DL
open PySem PySem.Spec PyProof.Rows L2
variable [TabP]

def wipeF (Γ : Fm) : List Nat → Fm
  | [] => Γ
  | v :: vs => (wipeF Γ vs).set v .no
def restF (Γ1 Γ2 : Fm) : List Nat → Fm
  | [] => Γ2
  | v :: vs => (restF Γ1 Γ2 vs).set v (Γ1.getD v .no)
def ownD (Γ : Fm) : List Nat → Prop → Prop
  | [], A => A
  | v :: vs, A => plainS Γ[v]? (ownD Γ vs A)
theorem wipeF_len (Γ : Fm) : ∀ vs, (wipeF Γ vs).length = Γ.length
  | [] => rfl
  | v :: vs => by unfold wipeF; rw [List.length_set, wipeF_len Γ vs]
theorem restF_len (Γ1 Γ2 : Fm) : ∀ vs, (restF Γ1 Γ2 vs).length = Γ2.length
  | [] => rfl
  | v :: vs => by unfold restF; rw [List.length_set, restF_len Γ1 Γ2 vs]
theorem wipeF_out {Γ : Fm} {j : Nat} : ∀ {vs : List Nat}, j ∉ vs → (wipeF Γ vs)[j]? = Γ[j]?
  | [], _ => rfl
  | v :: vs, h => by
    unfold wipeF
    rw [List.getElem?_set_ne (fun z => h (by rw [z]; exact List.mem_cons_self))]
    exact wipeF_out fun z => h (List.mem_cons_of_mem _ z)
theorem wipe_out {σ : L2.St} {j : Nat} : ∀ {vs : List Nat}, j ∉ vs → (wipe σ vs)[j]? = σ[j]?
  | [], _ => rfl
  | v :: vs, h => by
    unfold wipe
    rw [List.getElem?_set_ne (fun z => h (by rw [z]; exact List.mem_cons_self))]
    exact wipe_out fun z => h (List.mem_cons_of_mem _ z)
theorem wipeF_in {Γ : Fm} {j : Nat} : ∀ {vs : List Nat} {sv : SV}, j ∈ vs → (wipeF Γ vs)[j]? = some sv → sv = .no
  | [], _, h, _ => by cases h
  | v :: vs, sv, h, e => by
    unfold wipeF at e
    by_cases z : v = j
    · subst z
      by_cases hv : v < (wipeF Γ vs).length
      · rw [List.getElem?_set_self hv] at e; exact (Option.some.inj e).symm
      · rw [List.getElem?_eq_none (by rw [List.length_set]; omega)] at e; cases e
    · rw [List.getElem?_set_ne z] at e
      refine wipeF_in ?_ e
      rcases List.mem_cons.mp h with h | h
      · exact absurd h.symm z
      · exact h
theorem restF_out {Γ1 Γ2 : Fm} {j : Nat} : ∀ {vs : List Nat}, j ∉ vs → (restF Γ1 Γ2 vs)[j]? = Γ2[j]?
  | [], _ => rfl
  | v :: vs, h => by
    unfold restF
    rw [List.getElem?_set_ne (fun z => h (by rw [z]; exact List.mem_cons_self))]
    exact restF_out fun z => h (List.mem_cons_of_mem _ z)
theorem restF_in {Γ1 Γ2 : Fm} {j : Nat} (hl : Γ1.length = Γ2.length) : ∀ {vs : List Nat}, j ∈ vs → (restF Γ1 Γ2 vs)[j]? = Γ1[j]?
  | [], h => by cases h
  | v :: vs, h => by
    unfold restF
    by_cases z : v = j
    · subst z
      by_cases hv : v < Γ1.length
      · rw [List.getElem?_set_self (by rw [restF_len, ← hl]; exact hv), List.getD_eq_getElem?_getD, List.getElem?_eq_getElem hv]; rfl
      · rw [List.getElem?_eq_none (by rw [List.length_set, restF_len]; omega), List.getElem?_eq_none (by omega)]
    · rw [List.getElem?_set_ne z]
      refine restF_in hl ?_
      rcases List.mem_cons.mp h with h | h
      · exact absurd h.symm z
      · exact h
theorem ownD_ex {Γ : Fm} {A : Prop} : ∀ {vs : List Nat}, ownD Γ vs A → (∀ (j : Nat) (b : Bool) (c : Cell), j ∈ vs → Γ[j]? ≠ some (.c b c)) ∧ A
  | [], h => ⟨fun _ _ _ z => (nomatch z), h⟩
  | v :: vs, h => by
    unfold ownD at h
    obtain ⟨⟨sv, e, n⟩, h⟩ := plainS_ex h
    obtain ⟨h1, h2⟩ := ownD_ex h
    refine ⟨fun j b c hj => ?_, h2⟩
    rcases List.mem_cons.mp hj with rfl | hj
    · rw [e]; exact fun z => n b c (Option.some.inj z)
    · exact h1 j b c hj
/-- [elt for .. in .. if ..]: acc what is made so far -/
def lcW0 (g : Tg) (tt : DTt) (te : DT) (vs : List Nat) : List PyData → List PyData → Fm → (List PyData → Fm → Prop) → Prop
  | [], acc, Γ, k => k acc Γ
  | x :: xs, acc, Γ, k => g.d x Γ fun Γ1 => tt Γ1 fun b Γ2 => condP b (te Γ2 fun rv Γ3 => datR rv fun y => acc.length < sizeLine ∧ lcW0 g tt te vs xs (acc ++ [y]) (wipeF Γ3 vs) k) (lcW0 g tt te vs xs acc (wipeF Γ2 vs) k)
@[irreducible] def lcW (g : Tg) (tt : DTt) (te : DT) (vs : List Nat) (xs acc : List PyData) (Γ : Fm) (k : List PyData → Fm → Prop) : Prop := lcW0 g tt te vs xs acc Γ k
omit [TabP] in
theorem lcW_nil {g : Tg} {tt : DTt} {te : DT} {vs : List Nat} {acc : List PyData} {Γ : Fm} {k : List PyData → Fm → Prop} : lcW g tt te vs [] acc Γ k = k acc Γ := by unfold lcW; rfl
omit [TabP] in
theorem lcW_cons {g : Tg} {tt : DTt} {te : DT} {vs : List Nat} {x : PyData} {xs acc : List PyData} {Γ : Fm} {k : List PyData → Fm → Prop} : lcW g tt te vs (x :: xs) acc Γ k = g.d x Γ fun Γ1 => tt Γ1 fun b Γ2 => condP b (te Γ2 fun rv Γ3 => datR rv fun y => acc.length < sizeLine ∧ lcW g tt te vs xs (acc ++ [y]) (wipeF Γ3 vs) k) (lcW g tt te vs xs acc (wipeF Γ2 vs) k) := by unfold lcW; rfl
def tLcD (w : DIt) (g : Tg) (tt : DTt) (te : DT) (vs : List Nat) : DT := fun Γ R => w Γ fun ds Γ1 => ownD Γ1 vs (lcW g tt te vs ds [] (wipeF Γ1 vs) fun ys Γ2 => R (.f (.lst ys)) (restF Γ1 Γ2 vs))
def tYesD : DTt := fun Γ R => R true Γ
theorem dts_nil {X : Cx} : PTs X [] (lftT X.K tYesD) := ⟨fun pins s σ H Q I ⟨Γ, R, ok, ht, hQ⟩ => pts_nil.run pins s σ H Q I (hQ _ _ _ ht ok .rfl)⟩
theorem dts_one {X : Cx} {c : Expr} {tt : DTt} (h : PT X c (lftT X.K tt)) : PTs X [c] (lftT X.K tt) := pts_one h
section
variable {K : PySem.W.Frag} {Γ1 Γ' Γ2 Γ3 Γ4 : Fm} {σ σ3 : L2.St} {H1 H' H2 H4 : Hp} {vs : List Nat} {D : Addr}
theorem ok_wipe (ok : Ok K Γ1 σ H1) : Ok K (wipeF Γ1 vs) (wipe σ vs) H1 := by
  have back : ∀ (j : Nat) (sv : SV), (wipeF Γ1 vs)[j]? = some sv → sv ≠ .no → j ∉ vs := fun j sv e n z => n (wipeF_in z e)
  refine ⟨by rw [wipeF_len, wipe_length]; exact ok.len, fun j x e => ?_, fun j b c e => ?_, fun i j b c b' c' p e1 e2 e3 e4 => ?_, ok.tab⟩
  · have n := back j _ e (fun z => by cases z)
    rw [wipeF_out n] at e
    rw [wipe_out n]
    exact ok.dat j x e
  · have n := back j _ e (fun z => by cases z)
    rw [wipeF_out n] at e
    rw [wipe_out n]
    exact ok.cel j b c e
  · have n1 := back i _ e1 (fun z => by cases z)
    have n2 := back j _ e2 (fun z => by cases z)
    rw [wipeF_out n1] at e1
    rw [wipeF_out n2] at e2
    rw [wipe_out n1] at e3
    rw [wipe_out n2] at e4
    exact ok.dis i j _ _ _ _ p e1 e2 e3 e4
theorem ca_wipe {p : Addr} : CA (wipeF Γ1 vs) (wipe σ vs) p → CA Γ1 σ p := by
  rintro ⟨j, b, c, e1, e2⟩
  have n : j ∉ vs := fun z => by have := wipeF_in z e1; cases this
  rw [wipeF_out n] at e1
  rw [wipe_out n] at e2
  exact ⟨j, b, c, e1, e2⟩
/-- behind a turn -/
theorem turn_ev {g : Tg} {H5 : Hp} (h0 : H1 D = none) (ev : Ev (wipeF Γ1 vs) (wipe σ vs) H1 Γ' H') (wp : ∀ (j : Nat) (sv : SV), j ∈ vs → Γ'[j]? = some sv → sv = .no) (sm : Same H' H2) (wr : Wr g.sl Γ' (wipe σ vs) Γ3 σ3) (hg : ∀ j ∈ g.sl, j ∈ vs) (ev4 : Ev Γ3 σ3 H2 Γ4 H4)
    (per : Per H4 H5) (fr : ∀ b, b ≠ D → H5 b = H4 b) (dm : H5 D ≠ none) : Ev (wipeF Γ1 vs) (wipe σ vs) H1 (wipeF Γ4 vs) H5 := by
  have out : ∀ j, j ∉ vs → Γ3[j]? = Γ'[j]? ∧ σ3[j]? = (wipe σ vs)[j]? := fun j n => ⟨(wr.oth j fun z => n (hg j z)).2, (wr.oth j fun z => n (hg j z)).1⟩
  refine ⟨fun p => ?_, ((ev.per.trans (.same sm)).trans ev4.per).trans per, fun b o e t n => ?_, fun b e => ?_, fun i c e => ?_, fun i sv e n => ?_⟩
  · rintro ⟨j, b, c, e1, e2⟩
    have n : j ∉ vs := fun z => by have := wipeF_in z e1; cases this
    rw [wipeF_out n] at e1
    rw [← (out j n).2] at e2
    exact ev.sub p (wr.ca (ev4.sub p ⟨j, b, c, e1, e2⟩))
  · have nb : b ≠ D := fun z => by subst z; rw [h0] at e; cases e
    rw [fr b nb]
    exact ev4.fr b o (sm _ _ (ev.fr b o e t n)) t fun z => n (ev.sub b (wr.ca z))
  · by_cases z : b = D
    · subst z; exact absurd e dm
    · rw [fr b z] at e
      exact ev.dom b (sm.free (ev4.dom b e))
  · obtain ⟨c', e'⟩ := ev.pin i c e
    have n : i ∉ vs := fun z => by have := wp i _ z e'; cases this
    rw [← (out i n).1] at e'
    obtain ⟨c2, e2⟩ := ev4.pin i c' e'
    exact ⟨c2, by rw [wipeF_out n]; exact e2⟩
  · obtain ⟨s1, e1, n1⟩ := ev.dfn i sv e n
    have m : i ∉ vs := fun z => n1 (wp i _ z e1)
    rw [← (out i m).1] at e1
    obtain ⟨s2, e2, n2⟩ := ev4.dfn i s1 e1 n1
    exact ⟨s2, by rw [wipeF_out m]; exact e2, n2⟩
/-- behind the last turn -/
theorem lc_end (ok1 : Ok K Γ1 σ H1) (own : ∀ (j : Nat) (b : Bool) (c : Cell), j ∈ vs → Γ1[j]? ≠ some (.c b c)) (ok' : Ok K Γ' (wipe σ vs) H') (ev : Ev (wipeF Γ1 vs) (wipe σ vs) H1 Γ' H') (wp : ∀ (j : Nat) (sv : SV), j ∈ vs → Γ'[j]? = some sv → sv = .no) :
    Ok K (restF Γ1 Γ' vs) σ H' ∧ Ev Γ1 σ H1 (restF Γ1 Γ' vs) H' := by
  have hl : Γ1.length = Γ'.length := by rw [ok1.len, ok'.len, wipe_length]
  have cel : ∀ (j : Nat) (b : Bool) (c : Cell), (restF Γ1 Γ' vs)[j]? = some (.c b c) → j ∉ vs ∧ Γ'[j]? = some (.c b c) := fun j b c e => by
    by_cases z : j ∈ vs
    · rw [restF_in hl z] at e; exact absurd e (own j b c z)
    · rw [restF_out z] at e; exact ⟨z, e⟩
  have ca : ∀ p, CA (restF Γ1 Γ' vs) σ p → CA Γ' (wipe σ vs) p := by
    rintro p ⟨j, b, c, e1, e2⟩
    obtain ⟨n, e⟩ := cel _ _ _ e1
    exact ⟨j, b, c, e, by rw [wipe_out n]; exact e2⟩
  have caB : ∀ p, CA Γ1 σ p → CA (wipeF Γ1 vs) (wipe σ vs) p := by
    rintro p ⟨j, b, c, e1, e2⟩
    have n : j ∉ vs := fun z => own j b c z e1
    exact ⟨j, b, c, by rw [wipeF_out n]; exact e1, by rw [wipe_out n]; exact e2⟩
  refine ⟨⟨by rw [restF_len, ← hl]; exact ok1.len, fun j x e => ?_, fun j b c e => ?_, fun i j b c b' c' p e1 e2 e3 e4 => ?_, ok'.tab⟩, ⟨fun p h => ca_wipe (ev.sub p (ca p h)), ev.per, fun b o e t n => ev.fr b o e t fun z => n (ca_wipe z), ev.dom, fun i c e => ?_, fun i sv e n => ?_⟩⟩
  · by_cases z : j ∈ vs
    · rw [restF_in hl z] at e
      obtain ⟨v, a, b⟩ := ok1.dat j x e
      exact ⟨v, a, b.mono ev.per⟩
    · rw [restF_out z] at e
      have := ok'.dat j x e
      rw [wipe_out z] at this
      exact this
  · obtain ⟨n, e⟩ := cel _ _ _ e
    have := ok'.cel j b c e
    rw [wipe_out n] at this
    exact this
  · obtain ⟨n1, y1⟩ := cel _ _ _ e1
    obtain ⟨n2, y2⟩ := cel _ _ _ e2
    exact ok'.dis i j _ _ _ _ p y1 y2 (by rw [wipe_out n1]; exact e3) (by rw [wipe_out n2]; exact e4)
  · have n : i ∉ vs := fun z => own i _ c z e
    obtain ⟨c', e'⟩ := ev.pin i c (by rw [wipeF_out n]; exact e)
    exact ⟨c', by rw [restF_out n]; exact e'⟩
  · by_cases z : i ∈ vs
    · exact ⟨sv, by rw [restF_in hl z]; exact e, n⟩
    · obtain ⟨s2, e2, n2⟩ := ev.dfn i sv (by rw [wipeF_out z]; exact e) n
      exact ⟨s2, by rw [restF_out z]; exact e2, n2⟩
end
theorem lc_run {K : PySem.W.Frag} {w : DIt} {g : Tg} {tt : DTt} {te : DT} {vs : List Nat} (hgs : ∀ j ∈ g.sl, j ∈ vs) : ∀ σ H Q, lft K (tLcD w g tt te vs) σ H Q → tLc (lftI K w) (g.t K) (lftT K tt) (lft K te) vs σ H Q := by
  rintro σ H Q ⟨Γ, R, ok, ht, hQ⟩
  refine ⟨Γ, _, ok, ht, fun ds Γ1 J H1 q ok1 ev1 it D hD => ?_⟩
  obtain ⟨own, q⟩ := ownD_ex q
  have smD := same_fresh (o := .lst []) hD
  refine ⟨fun i m H' => m = ds.length - i ∧ i ≤ ds.length ∧ ∃ Γ' acc vacc, Ok K Γ' (wipe σ vs) H' ∧ (∀ (j : Nat) (sv : SV), j ∈ vs → Γ'[j]? = some sv → sv = .no) ∧ lcW g tt te vs (ds.drop i) acc Γ' (fun ys Γ2 => R (.f (.lst ys)) (restF Γ1 Γ2 vs)) ∧
    Ev (wipeF Γ1 vs) (wipe σ vs) H1 Γ' H' ∧ H' D = some (.lst vacc) ∧ PdAll K H' acc vacc, ⟨_, rfl, Nat.zero_le _, wipeF Γ1 vs, [], [], (ok_wipe ok1).new smD, fun j sv z e => wipeF_in z e, q, .new smD, upd_same, .nil⟩, ?_⟩
  rintro i m H' ⟨rfl, hi, Γ', acc, vacc, ok', wp, q', ev', hD', pa⟩
  have per : Per H1 H' := ev'.per
  obtain ⟨i1, i2, i3⟩ := it H' per
  by_cases hlt : i < ds.length
  · rw [List.drop_eq_getElem_cons hlt, lcW_cons] at q'
    refine .inr ⟨i2 i hlt, fun H5 => ∃ Γ' acc vacc, Ok K Γ' (wipe σ vs) H5 ∧ (∀ (j : Nat) (sv : SV), j ∈ vs → Γ'[j]? = some sv → sv = .no) ∧ lcW g tt te vs (ds.drop (i + 1)) acc Γ' (fun ys Γ2 => R (.f (.lst ys)) (restF Γ1 Γ2 vs)) ∧
      Ev (wipeF Γ1 vs) (wipe σ vs) H1 Γ' H5 ∧ H5 D = some (.lst vacc) ∧ PdAll K H5 acc vacc, fun H5 h => ⟨_, by omega, rfl, hlt, h⟩, fun v H2 y => ?_⟩
    obtain ⟨d, hd, pd, sm⟩ := i3 i v H2 y hlt
    rw [List.getElem?_eq_getElem hlt] at hd
    cases hd
    refine g.run (ok'.new sm) pd q' fun Γ3 σ3 q3 ok3 w3 => ⟨?_, ?_⟩
    · -- the other slots stand
      have : ∀ j, (wipe σ3 vs)[j]? = (wipe σ vs)[j]? := fun j => by
        by_cases z : j ∈ vs
        · have hl : σ3.length = σ.length := by rw [w3.len, wipe_length]
          have no : ∀ (τ : L2.St), (∃ y, (wipe τ vs)[j]? = some y ∧ y ≠ none) → False := by
            rintro τ ⟨y, e, n⟩
            cases y with
            | none => exact n rfl
            | some x => exact (wipe_some e).2 z
          by_cases hj : j < σ.length
          · have a1 : j < (wipe σ3 vs).length := by rw [wipe_length, hl]; exact hj
            have a2 : j < (wipe σ vs).length := by rw [wipe_length]; exact hj
            rw [List.getElem?_eq_getElem a1, List.getElem?_eq_getElem a2]
            have b1 : (wipe σ3 vs)[j] = none := by
              cases e : (wipe σ3 vs)[j] with
              | none => rfl
              | some x => exact (no σ3 ⟨_, List.getElem?_eq_getElem a1, by rw [e]; exact fun z => by cases z⟩).elim
            have b2 : (wipe σ vs)[j] = none := by
              cases e : (wipe σ vs)[j] with
              | none => rfl
              | some x => exact (no σ ⟨_, List.getElem?_eq_getElem a2, by rw [e]; exact fun z => by cases z⟩).elim
            rw [b1, b2]
          · rw [List.getElem?_eq_none (by rw [wipe_length, hl]; omega), List.getElem?_eq_none (by rw [wipe_length]; omega)]
        · rw [wipe_out z]
          exact (w3.oth j fun y => z (hgs j y)).1
      exact List.ext_getElem? this
    · have hwσ : wipe σ3 vs = wipe σ3 vs := rfl
      have okw : ∀ {Γ4 : Fm} {H4 : Hp}, Ok K Γ4 σ3 H4 → Ok K (wipeF Γ4 vs) (wipe σ vs) H4 := fun {Γ4 H4} ok4 => by
        have z := ok_wipe (vs := vs) ok4
        have n : ∀ (j : Nat) (sv : SV), (wipeF Γ4 vs)[j]? = some sv → sv ≠ .no → (wipe σ3 vs)[j]? = (wipe σ vs)[j]? := fun j sv e ne => by
          have m : j ∉ vs := fun z => ne (wipeF_in z e)
          rw [wipe_out m, wipe_out m]
          have := (w3.oth j fun y => m (hgs j y)).1
          rw [wipe_out m] at this
          exact this
        refine ⟨by rw [wipe_length]; have := z.len; rw [wipe_length, w3.len, wipe_length] at this; exact this, fun j x e => ?_, fun j b c e => ?_, fun i j b c b' c' p e1 e2 e3 e4 => ?_, ok4.tab⟩
        · rw [← n j _ e (fun z => nomatch z)]; exact z.dat j x e
        · rw [← n j _ e (fun z => nomatch z)]; exact z.cel j b c e
        · rw [← n i _ e1 (fun z => nomatch z)] at e3
          rw [← n j _ e2 (fun z => nomatch z)] at e4
          exact z.dis i j _ _ _ _ p e1 e2 e3 e4
      have hD2 : H2 D = some (.lst vacc) := sm _ _ hD'
      have ncD : ∀ {Γx : Fm} {σx : L2.St}, (∀ p, CA Γx σx p → CA Γ' (wipe σ vs) p) → ¬ CA Γx σx D := fun hs z => (ok_wipe ok1).noca hD (ev'.sub D (hs D z))
      refine ⟨Γ3, _, ok3, q3, fun b Γ4 H4 q4 ok4 ev4 => ?_⟩
      have hD4 : H4 D = some (.lst vacc) := ev4.fr D _ hD2 (fun _ z => nomatch z) (ncD fun p z => w3.ca z)
      cases b with
      | false =>
        refine iteF ⟨wipeF Γ4 vs, acc, vacc, okw ok4, fun j sv z e => wipeF_in z e, condP_F q4, turn_ev hD ev' wp sm w3 hgs ev4 .rfl (fun _ _ => rfl) (by rw [hD4]; exact fun z => by cases z), hD4, (pa.mono (.same sm)).mono ev4.per⟩
      | true =>
        refine iteT ⟨Γ4, _, ok4, condP_T q4, fun rv Γ5 u H5 q5 ok5 ev5 r5 => ?_⟩
        obtain ⟨y, rfl, hl, q5⟩ := datR_ex q5
        have r5 : Pd K H5 y u := r5
        have hD5 : H5 D = some (.lst vacc) := ev5.fr D _ hD4 (fun _ z => nomatch z) (ncD fun p z => w3.ca (ev4.sub p z))
        have pa5 : PdAll K H5 acc vacc := ((pa.mono (.same sm)).mono ev4.per).mono ev5.per
        have p6 : Per H5 (upd H5 D (.lst (vacc ++ [u]))) := .mut hD5 (fun _ z => by cases z) fun _ _ z => by cases z
        have ncD5 : ¬ CA Γ5 σ3 D := ncD fun p z => w3.ca (ev4.sub p (ev5.sub p z))
        refine ⟨vacc, hD5, by rw [← pa5.len]; exact hl, wipeF Γ5 vs, acc ++ [y], vacc ++ [u], okw (ok5.stay p6 fun b hb => upd_ne fun z => ncD5 (z ▸ hb)), fun j sv z e => wipeF_in z e, q5,
          turn_ev hD ev' wp sm w3 hgs (ev4.trans ev5) p6 (fun b hb => upd_ne hb) (by rw [upd_same]; exact fun z => by cases z), upd_same, (pa5.mono p6).app (.cons (r5.mono p6) .nil)⟩
  · have z : i = ds.length := by omega
    subst z
    rw [List.drop_length, lcW_nil] at q'
    obtain ⟨ok2, ev2⟩ := lc_end ok1 own ok' ev' wp
    exact .inl ⟨i1, hQ _ _ _ _ q' ok2 (ev1.trans ev2) ⟨D, rfl, ⟨vacc, hD', pa⟩, ev1.dom D hD⟩⟩
section
variable {X : Cx} {pos : Pos} {elt tg iter : Expr} {ifs : List Expr} {scope : Scope} {own : List (Str × Nat)} {w : DIt} {g : Tg} {tt : DTt} {te : DT}
theorem de_lc (hc : X.calm = true) (hN : X.N.Nodup) (hi : PI X tg iter (lftI X.K w)) (ok : BlkOk X.N X.env.scope scope own)
    (hg : ∀ (s : Shared) (H : Hp) (C : Addr) (cl : List (Str × Addr)) (fp : List Addr), PG (X.blk s H scope (compEnvC scope cl C X.env) fp) tg (g.t X.K))
    (ht : ∀ (s : Shared) (H : Hp) (C : Addr) (cl : List (Str × Addr)) (fp : List Addr), PTs (X.blk s H scope (compEnvC scope cl C X.env) fp) ifs (lftT X.K tt))
    (he : ∀ (s : Shared) (H : Hp) (C : Addr) (cl : List (Str × Addr)) (fp : List Addr), PE (X.blk s H scope (compEnvC scope cl C X.env) fp) elt (lft X.K te))
    (hgs : ∀ j ∈ g.sl, j ∈ own.map (·.2)) (hs : ∀ x, foldedSetIterable iter X.env x = pure x := by intro _; rfl) : PE X (.ListComp elt [⟨tg, iter, ifs, 0⟩] scope pos) (lft X.K (tLcD w g tt te (own.map (·.2)))) :=
  pe_wk (pe_lc hc hN hi ok hg ht he hs) (lc_run hgs)
/-- y = [..] -/
theorem ds_setLc {i : Nat} {y : Str} {py spos : Pos} (hc : X.calm = true) (hN : X.N.Nodup) (hy : X.N[i]? = some y) (hyl : X.env.scope.names.lookup y = some .local)
    (hsw : swapsWith (.ListComp elt [⟨tg, iter, ifs, 0⟩] scope pos) (some (.Name y py)) spos.line X.env = pure true) (hi : PI X tg iter (lftI X.K w)) (ok : BlkOk X.N X.env.scope scope own)
    (hg : ∀ (s : Shared) (H : Hp) (C : Addr) (cl : List (Str × Addr)) (fp : List Addr), PG (X.blk s H scope (compEnvC scope cl C X.env) fp) tg (g.t X.K))
    (ht : ∀ (s : Shared) (H : Hp) (C : Addr) (cl : List (Str × Addr)) (fp : List Addr), PTs (X.blk s H scope (compEnvC scope cl C X.env) fp) ifs (lftT X.K tt))
    (he : ∀ (s : Shared) (H : Hp) (C : Addr) (cl : List (Str × Addr)) (fp : List Addr), PE (X.blk s H scope (compEnvC scope cl C X.env) fp) elt (lft X.K te))
    (hgs : ∀ j ∈ g.sl, j ∈ own.map (·.2)) (hs : ∀ x, foldedSetIterable iter X.env x = pure x := by intro _; rfl) :
    PS X (.Assign [.Name y py] (.ListComp elt [⟨tg, iter, ifs, 0⟩] scope pos) spos) (lfs X.K (sAsg (tLcD w g tt te (own.map (·.2))) (gNm i))) := by
  refine ps_wk (ps_setLc (i := i) hc hN hy hyl hsw hi ok hg ht he hs) fun D σ H q => ?_
  obtain ⟨Γ, R, ok, ht, hQ⟩ := asg_run D σ H q
  refine lc_run hgs σ H _ ⟨Γ, R, ok, ht, fun rv Γ' v H' a b c d => ?_⟩
  obtain ⟨Γ0, H0, Γ1, rw', R', ok0, ev, ok', r, hg, hQ'⟩ := hQ rv Γ' v H' a b c d
  obtain ⟨⟨sv, e, hp⟩, hg⟩ := free_ex hg
  cases rw' with
  | d y => obtain ⟨ok2, sx⟩ := store_d ok' r e hp ev; exact hQ' _ _ _ hg ok2 sx
  | s _ => exact hg.elim
  | f c => obtain ⟨p, rfl, a, h0⟩ := r; obtain ⟨ok2, sx⟩ := store_f ok0 ok' a h0 e hp ev; exact hQ' _ _ _ hg ok2 sx
end
end DL
set_option Elab.async false
set_option linter.all false
set_option maxRecDepth 100000
set_option maxHeartbeats 4000000
/-! DL9: a def's promise from its body; calls that change a list; texts. -/
namespace DL
open PySem PySem.Spec PyProof.Rows L2
variable [TabP]

/-! ### promises -/
def bl (n : Nat) : Fm := List.replicate n .no
theorem start_ok {K : PySem.W.Frag} {N : List Str} {ds : List PyData} {vs : List V} {H : Hp} (ht : ∀ P ∈ TabP.ps, TbOk H P) (a : PdAll K H ds vs) (hl : vs.length ≤ N.length) : Ok K (ds.map SV.d ++ bl (N.length - ds.length)) (L2.start N vs) H := by
  have e := a.len
  have nc : ∀ (i : Nat) (b : Bool) (c : Cell), (ds.map SV.d ++ bl (N.length - ds.length))[i]? ≠ some (.c b c) := fun i b c z => by
    have m := List.mem_of_getElem? z
    rcases List.mem_append.mp m with m | m
    · obtain ⟨d, _, q⟩ := List.mem_map.mp m; cases q
    · have := (List.mem_replicate.mp m).2; cases this
  refine ⟨?_, fun i x h => ?_, fun i b c h => absurd h (nc i b c), fun i j b c b' c' p h => absurd h (nc i b c), ht⟩
  · unfold L2.start bl
    rw [List.length_append, List.length_append, List.length_map, List.length_map, List.length_replicate, List.length_replicate]
    omega
  · by_cases hi : i < ds.length
    · rw [List.getElem?_append_left (by rw [List.length_map]; exact hi), List.getElem?_map] at h
      cases q : ds[i]? with
      | none => rw [q] at h; cases h
      | some d =>
        rw [q] at h; cases h
        obtain ⟨v, h1, h2⟩ := a.get q
        refine ⟨v, ?_, h2⟩
        unfold L2.start
        rw [List.getElem?_append_left (by rw [List.length_map, ← e]; exact hi), List.getElem?_map, h1]; rfl
    · rw [List.getElem?_append_right (by rw [List.length_map]; omega)] at h
      have := (List.mem_replicate.mp (List.mem_of_getElem? h)).2
      cases this
section
variable {P : Program} {w : World} {K : PySem.W.Frag} {mg : Str → Option Value} {base : Heap}
/-- the def at f has that code object -/
def CodeOf (K : PySem.W.Frag) (f : Addr) (cdv : Value) : Prop := ∃ oc od fd osl, K.lookup f = some ⟨oc, od, .func fd, osl⟩ ∧ fd.code = cdv
/-- what follows a def's body -/
def eR (R : PyData → Prop) : DEnds := { nx := fun _ => R .none, rt := fun x _ => R x }
theorem ok_pure {x qual : Str} {st : Stmt} {f : Addr} {fd : FuncData} {N ps : List Str} {k : Nat} {m : PM} (F : FunD K x qual (defArgs st) (defBody st) (defScope st) [] [] f fd) (S : FnScope N ps (defScope st)) (hm : ∀ ds R, m ds R → ds.length = ps.length)
    (hbody : ∀ (cdv : Value) (A : Around) (outer : List Env) (s : Shared) (H : Hp) (E : XK), CodeOf K f cdv → Room k (A.deeper (envOfC qual (defScope st) s.heap.objs.size f cdv)) →
      ∃ t, PSs (cxOf CX0 P w K mg base N qual (defScope st) f cdv A outer s H E).nox (defBody st) (lfs K t) ∧ ∀ ds R, m ds R → t (eR R) (ds.map SV.d ++ bl (N.length - ds.length))) : FnOk P w K mg base CX0 (k + 1) f fd ps (spP K m) := by
  have hlen : ps.length ≤ N.length := by
    have := congrArg List.length S.pre
    rw [List.length_take] at this
    omega
  obtain ⟨oc, od, dV, kV, doc, pm, an, cd0, ct, osl, rfl, lk, hcd, _, _⟩ := F.ex
  refine fn_of lk hcd S (fun vs H Q E ⟨ds, R, _, a, hr, _⟩ => by rw [← a.len]; exact hm ds R hr) (fun A outer s H vs Q E hr ⟨ds, R, ht, a, h, q⟩ => ?_)
  obtain ⟨t, d, b⟩ := hbody cd0 A outer s H E ⟨_, _, _, _, lk, rfl⟩ hr
  refine ⟨_, d.nox, _, eR R, start_ok ht a (by rw [← a.len, hm ds R h]; exact hlen), b ds R h, fun Γ' σ' H' h1 ok1 sx => ?_, fun x Γ' σ' v H' h1 ok1 sx pd => ?_, fun _ _ _ z => z.elim, fun _ _ _ z => z.elim⟩
  all_goals have sm : Sm H H' := ⟨sx.per, sx.dom, fun b o e t => (sx.fr b o e t (by
    rintro ⟨i, b', c, h1, _⟩
    have m := List.mem_of_getElem? h1
    rcases List.mem_append.mp m with m | m
    · obtain ⟨d, _, q⟩ := List.mem_map.mp m; cases q
    · have := (List.mem_replicate.mp m).2; cases this)).1⟩
  · exact q _ _ _ h1 sm .non
  · exact q _ _ _ h1 sm pd
/-- a def that may change the list that is its first argument -/
abbrev IM := List PyData → List PyData → (PyData → List PyData → Prop) → Prop
def spI (K : PySem.W.Frag) (m : IM) : Sp := fun vs H Q _ => ∃ p ws cs ds R, (∀ P ∈ TabP.ps, TbOk H P) ∧ vs = .ref p :: ws ∧ AtC K H p (.lst cs) ∧ PdAll K H ds ws ∧ m cs ds R ∧
  ∀ d cs' v H', R d cs' → Pd K H' d v → AtC K H' p (.lst cs') → Per H H' → (∀ b, H' b = none → H b = none) → (∀ b o, b ≠ p → H b = some o → (∀ ps, o ≠ .tbl ps) → H' b = some o) → Q v H'
def listAt (o : Option SV) (k : List PyData → Prop) : Prop := match o with
  | some (.c true (.lst ds)) => k ds
  | _ => False
theorem listAt_ex {o : Option SV} {k : List PyData → Prop} (h : listAt o k) : ∃ ds, o = some (.c true (.lst ds)) ∧ k ds := by
  unfold listAt at h
  split at h
  · exact ⟨_, rfl, h⟩
  · exact h.elim
def eI (R : PyData → List PyData → Prop) : DEnds := { nx := fun Γ => listAt Γ[0]? fun cs => R .none cs, rt := fun x Γ => listAt Γ[0]? fun cs => R x cs }
theorem ok_io {x qual : Str} {st : Stmt} {f : Addr} {fd : FuncData} {N ps : List Str} {k : Nat} {m : IM} (F : FunD K x qual (defArgs st) (defBody st) (defScope st) [] [] f fd) (S : FnScope N ps (defScope st)) (hm : ∀ cs ds R, m cs ds R → ds.length + 1 = ps.length)
    (hbody : ∀ (cdv : Value) (A : Around) (outer : List Env) (s : Shared) (H : Hp) (E : XK), CodeOf K f cdv → Room k (A.deeper (envOfC qual (defScope st) s.heap.objs.size f cdv)) →
      ∃ t, PSs (cxOf CX0 P w K mg base N qual (defScope st) f cdv A outer s H E).nox (defBody st) (lfs K t) ∧ ∀ cs ds R, m cs ds R → t (eI R) (.c true (.lst cs) :: (ds.map SV.d ++ bl (N.length - ds.length - 1)))) : FnOk P w K mg base CX0 (k + 1) f fd ps (spI K m) := by
  have hlen : ps.length ≤ N.length := by
    have := congrArg List.length S.pre
    rw [List.length_take] at this
    omega
  obtain ⟨oc, od, dV, kV, doc, pm, an, cd0, ct, osl, rfl, lk, hcd, _, _⟩ := F.ex
  refine fn_of lk hcd S (fun vs H Q E ⟨p, ws, cs, ds, R, _, e, _, a, hr, _⟩ => by rw [e, List.length_cons, ← a.len]; exact hm cs ds R hr) (fun A outer s H vs Q E hr ⟨p, ws, cs, ds, R, ht, e, ac, a, h, q⟩ => ?_)
  subst e
  obtain ⟨t, d, b⟩ := hbody cd0 A outer s H E ⟨_, _, _, _, lk, rfl⟩ hr
  have hl := hm cs ds R h
  have e := a.len
  have nc : ∀ (i : Nat) (b : Bool) (c : Cell), (ds.map SV.d ++ bl (N.length - ds.length - 1))[i]? ≠ some (.c b c) := fun i b c z => by
    have m := List.mem_of_getElem? z
    rcases List.mem_append.mp m with m | m
    · obtain ⟨d, _, q⟩ := List.mem_map.mp m; cases q
    · have := (List.mem_replicate.mp m).2; cases this
  have z0 : ∀ (i : Nat) (b : Bool) (c : Cell), (SV.c true (.lst cs) :: (ds.map SV.d ++ bl (N.length - ds.length - 1)))[i]? = some (.c b c) → i = 0 ∧ b = true ∧ c = .lst cs := fun i b c z => by
    cases i with
    | zero => cases z; exact ⟨rfl, rfl, rfl⟩
    | succ i => rw [List.getElem?_cons_succ] at z; exact absurd z (nc i b c)
  have s0 : (L2.start N (V.ref p :: ws))[0]? = some (some (.ref p)) := rfl
  have ok0 : Ok K (SV.c true (.lst cs) :: (ds.map SV.d ++ bl (N.length - ds.length - 1))) (L2.start N (V.ref p :: ws)) H := by
    refine ⟨?_, fun i x h => ?_, fun i b c h => ?_, fun i j b c b' c' p h1 h2 _ _ => by rw [(z0 i b c h1).1, (z0 j b' c' h2).1], ht⟩
    · unfold L2.start bl
      rw [List.length_cons, List.length_append, List.length_append, List.length_map, List.length_map, List.length_replicate, List.length_replicate, List.length_cons]
      omega
    · cases i with
      | zero => simp at h
      | succ i =>
        rw [List.getElem?_cons_succ] at h
        by_cases hi : i < ds.length
        · rw [List.getElem?_append_left (by rw [List.length_map]; exact hi), List.getElem?_map] at h
          cases q : ds[i]? with
          | none => rw [q] at h; cases h
          | some d =>
            rw [q] at h; cases h
            obtain ⟨v, h1, h2⟩ := a.get q
            refine ⟨v, ?_, h2⟩
            unfold L2.start
            rw [List.getElem?_append_left (by rw [List.length_map, List.length_cons, ← e]; omega), List.getElem?_map, List.getElem?_cons_succ, h1]; rfl
        · rw [List.getElem?_append_right (by rw [List.length_map]; omega)] at h
          have := (List.mem_replicate.mp (List.mem_of_getElem? h)).2
          cases this
    · obtain ⟨rfl, rfl, rfl⟩ := z0 i b c h
      exact ⟨p, s0, ac⟩
  refine ⟨_, d.nox, _, eI R, ok0, b cs ds R h, fun Γ' σ' H' h1 ok1 sx => ?_, fun x Γ' σ' v H' h1 ok1 sx pd => ?_, fun _ _ _ z => z.elim, fun _ _ _ z => z.elim⟩
  all_goals have sm : ∀ b o, b ≠ p → H b = some o → (∀ ps, o ≠ .tbl ps) → H' b = some o := fun b o n e t => (sx.fr b o e t (by
    rintro ⟨i, b', c, h1, h2⟩
    obtain ⟨rfl, _⟩ := z0 i b' c h1
    rw [s0] at h2; cases h2; exact n rfl)).1
  all_goals have h2 := (sx.pin 0 (.lst cs) rfl).1
  all_goals (
    obtain ⟨cs', hc, h1⟩ := listAt_ex h1
    obtain ⟨p', e', ac'⟩ := ok1.cel 0 _ _ hc
    rw [h2, s0] at e'
    cases e')
  · exact q _ _ _ _ h1 .non ac' sx.per sx.dom sm
  · exact q _ _ _ _ h1 pd ac' sx.per sx.dom sm
end

/-! ### f(x, ..), x the cell of the i-th name -/
section
variable {X : Cx} {pos : Pos} {a b c e o : Expr} {es : List Expr} {ta tb : DT} {tas : DTa}
def tCallI (m : IM) (i : Nat) (tas : DTa) : DT := fun Γ R => celP Γ[i]? fun _ _ => tas Γ fun rs Γ1 => optL (allD rs) fun ds => celP Γ1[i]? fun b cs => m cs ds fun d cs' => R (.d d) (Γ1.set i (.c b (.lst cs')))
theorem de_calli {k i : Nat} {f : Addr} {fd : FuncData} {ps : List Str} {x : Str} {p : Pos} {m : IM} (F : FnOk X.prog X.w X.K X.mg X.base CX0 k f fd ps (spI X.K m)) (hr : Room k X.A) (hg : Gl X x) (hm : X.mg x = some (.ref f)) (hk : PySem.W.keepIn X.K (.ref f) = true)
    (hb : L2.Binds X.K fd ps []) (ho : PE X o (tVar i)) (ha : PA X es (lftA X.K tas)) (hdb : (x == ("__debug__" : Str)) = false := by decide) (he : starEach (o :: es) X.env = (false, eval o X.env) :: starEach es X.env := by rfl)
    (hpl : (backTo pos (starEach es X.env)).any (·.1) = false := by rfl) : PE X (.Call (.Name x p) (o :: es) [] pos) (lft X.K (tCallI m i tas)) := by
  refine pe_wk (pe_call F hr hg hm hk hb .nil pass0 (pa_cons ho ha he) hdb he hpl) fun σ H Q ⟨Γ, R, ok, ht, hQ⟩ => ?_
  obtain ⟨b0, ds0, e0, ht⟩ := celP_ex ht
  -- the first argument's own place is known behind the others
  have key : ∀ v, σ[i]? = some (some v) → lftA X.K tas σ H fun xs H2 => (spI X.K m) ((v :: xs) ++ []) H2 Q E0 := fun v hv => by
    refine ⟨Γ, _, ok, ht, fun rs Γ1 vs H1 h1 ok1 ev1 r1 => ?_⟩
    obtain ⟨ds, ex, h1⟩ := optL_ex h1
    obtain ⟨b, cs, hc, h1⟩ := celP_ex h1
    obtain ⟨q, hq, ac⟩ := ok1.cel i _ _ hc
    rw [hv] at hq; cases hq
    rw [List.append_nil]
    refine ⟨q, vs, cs, ds, _, ok1.tab, rfl, ac, allD_pd r1 ex, h1, fun d cs' u H' hd pd ac' per dom fr => ?_⟩
    have hlt : i < Γ1.length := (List.getElem?_eq_some_iff.mp hc).1
    have self : (Γ1.set i (.c b (.lst cs')))[i]? = some (.c b (.lst cs')) := List.getElem?_set_self hlt
    have oth : ∀ {j : Nat}, i ≠ j → (Γ1.set i (.c b (.lst cs')))[j]? = Γ1[j]? := fun n => List.getElem?_set_ne n
    have back : ∀ (j : Nat) (b' : Bool) (d : Cell), (Γ1.set i (.c b (.lst cs')))[j]? = some (.c b' d) → ∃ d', Γ1[j]? = some (.c b' d') := fun j b' d z => by
      by_cases ne : i = j
      · subst ne; rw [self] at z; cases z; exact ⟨_, hc⟩
      · rw [oth ne] at z; exact ⟨d, z⟩
    refine hQ _ _ _ _ hd ⟨by rw [List.length_set]; exact ok1.len, fun j x z => ?_, fun j b' d z => ?_, fun j1 j2 b1 c1 b2 c2 q z1 z2 z3 z4 => ?_, fun P hP => per.tab P (ok1.tab P hP)⟩ (ev1.trans ⟨?_, per, fun w o e t n => fr w o (fun z => n (by subst z; exact ⟨i, _, _, hc, hv⟩)) e t, dom, fun j d z => ?_, fun j sv z n => ?_⟩) pd
    · have ne : i ≠ j := fun w => by subst w; rw [self] at z; cases z
      rw [oth ne] at z
      obtain ⟨v, e, r⟩ := ok1.dat j x z
      exact ⟨v, e, r.mono per⟩
    · by_cases ne : i = j
      · subst ne; rw [self] at z; cases z; exact ⟨q, hv, ac'⟩
      · rw [oth ne] at z
        obtain ⟨w, e, r⟩ := ok1.cel j b' d z
        obtain ⟨u, hu, _, _, t⟩ := r.some
        refine ⟨w, e, r.mono per ?_⟩
        rw [hu]
        exact fr w u (fun y => by subst y; exact ne (ok1.dis i j _ _ _ _ _ hc z hv e)) hu t
    · obtain ⟨d1, y1⟩ := back _ _ _ z1
      obtain ⟨d2, y2⟩ := back _ _ _ z2
      exact ok1.dis j1 j2 _ _ _ _ _ y1 y2 z3 z4
    · rintro q ⟨j, b', d, z, y⟩
      obtain ⟨d', z'⟩ := back _ _ _ z
      exact ⟨j, b', d', z', y⟩
    · by_cases ne : i = j
      · subst ne; rw [hc] at z; cases z; exact ⟨_, self⟩
      · rw [oth ne]; exact ⟨d, z⟩
    · by_cases ne : i = j
      · subst ne; exact ⟨_, self, fun z => by cases z⟩
      · rw [oth ne]; exact ⟨sv, z, n⟩
  obtain ⟨v, hv, _⟩ := ok.cel i _ _ e0
  exact ⟨_, hv, key _ hv⟩

/-! ### texts -/
def strsD : List PyData → Option (List Str)
  | [] => some []
  | .str z :: r => (strsD r).map (z :: ·)
  | _ :: _ => none
def optS : Option (List Str) → (List Str → Prop) → Prop
  | some d, k => k d
  | none, _ => False
theorem strs_map {K : PySem.W.Frag} {H : Hp} : ∀ {ds : List PyData} {vs : List V} {ys : List Str}, PdAll K H ds vs → strsD ds = some ys → vs = ys.map V.str
  | [], _, _, a, e => by cases a; cases e; rfl
  | d :: ds, _, ys, a, e => by
    cases a with
    | cons p q =>
      cases d with
      | str z =>
        unfold strsD at e
        cases w : strsD ds with
        | none => rw [w] at e; cases e
        | some zs => rw [w] at e; cases e; cases p; rw [strs_map q w]; rfl
      | _ => cases e
def seqD : PyData → (List PyData → Prop) → Prop
  | .list ds, k => k ds
  | .tuple ds, k => k ds
  | _, _ => False
/-- sep.join(xs) -/
def tJoin (ta tb : DT) : DT := fun Γ R => ta Γ fun rv Γ1 => optD (val Γ1 rv) fun ds => strD ds fun a => tb Γ1 fun rw Γ2 => optD (val Γ2 rw) fun dl => seqD dl fun l => optS (strsD l) fun ys =>
  (ys.map (·.length)).sum + ys.length * a.length ≤ 16777216 ∧ R (.d (.str (Txt.join a ys))) Γ2
theorem de_join {apos : Pos} (ho : PE X o (lft X.K ta)) (he : PE X e (lft X.K tb)) (hs : starEach [e] X.env = [(false, eval e X.env)] := by rfl) (hbase : attributeBase o "join" X.env (eval o X.env) = eval o X.env := by rfl)
    (hline : (apos.endLine == pos.line) = true := by rfl) : PE X (.Call (.Attribute o "join" apos) [e] [] pos) (lft X.K (tJoin ta tb)) := by
  refine pe_wk (pe_join ho he hs hbase hline) fun σ H Q ⟨Γ, R, ok, ht, hQ⟩ => ⟨Γ, _, ok, ht, fun rv Γ1 v H1 h1 ok1 ev1 r1 => ?_⟩
  obtain ⟨ds, ex, h1⟩ := optD_ex h1
  obtain ⟨a, rfl, h1⟩ := strD_ex h1
  have e1 := (rdb ok1 r1 ex).str
  refine ⟨⟨a, e1⟩, Γ1, _, ok1, h1, fun rw Γ2 u H2 h2 ok2 ev2 r2 => ?_⟩
  obtain ⟨dl, ey, h2⟩ := optD_ex h2
  have q := rdb ok2 r2 ey
  have go : ∀ (l : List PyData) (p : Addr) (xs : List V), u = .ref p → (SqL X.K H2 p xs ∨ SqT X.K H2 p xs) → PdAll X.K H2 l xs →
      (optS (strsD l) fun ys => (ys.map (·.length)).sum + ys.length * a.length ≤ 16777216 ∧ R (.d (.str (Txt.join a ys))) Γ2) → ∃ a_1 p ys, v = .str a_1 ∧ [u] = [V.ref p] ∧ (SqL X.K H2 p (ys.map V.str) ∨ SqT X.K H2 p (ys.map V.str)) ∧
        (ys.map (·.length)).sum + ys.length * a_1.length ≤ 16777216 ∧ Q (.str (Txt.join a_1 ys)) H2 := fun l p xs hu hp pa h => by
    cases w : strsD l with
    | none => rw [w] at h; exact h.elim
    | some ys =>
      rw [w] at h
      have em := strs_map pa w
      subst em
      exact ⟨a, p, ys, e1, by rw [hu], hp, h.1, hQ _ _ _ _ h.2 ok2 (ev1.trans ev2) (.str _)⟩
  cases dl with
  | list l => obtain ⟨p, xs, hu, hp, pa⟩ := q.list; exact go l p xs hu (.inl (.inl hp)) pa h2
  | tuple l => obtain ⟨p, xs, hu, hp, pa⟩ := q.tup; exact go l p xs hu (.inr hp) pa h2
  | _ => exact h2.elim
/-- 'x' op e, e wants a token -/
theorem pe_tokL {x : Str} {j : Nat} {pc : Pos} {op : Operator} {r : R2} {tb : TE} (ho : OpR X (binaryOp op) r) (hb : PET X b tb) : PE X (.BinOp (.Constant (.str x) j pc) op b pos) (tOp r (tC (.str x)) tb) := by
  refine ⟨fun pins s σ H Q I h => wpAny_BinOp (Calls.Constant_str ?_)⟩
  refine thn (hb pins { s with toks := s.toks + 1 } σ H _ (by show 1 ≤ s.toks + 1; omega) (I.tok _) h) fun u s2 ⟨y, H2, I2, ry, q⟩ => ?_
  exact ho pins s2 σ H2 (.str x) y _ u Q I2 ⟨_, rfl⟩ ry q
/-- 'x' + e.replace('y', 'z') -/
def tRepl (x : Str) (ta : DT) (y z : Str) : DT := fun Γ R => ta Γ fun rv Γ1 => optD (val Γ1 rv) fun d => strD d fun s => s.length + (s.length + 1) * z.length ≤ 16777216 ∧ x.length + (Txt.replace s y z).length ≤ sizeLine ∧ R (.d (.str (x ++ Txt.replace s y z))) Γ1
theorem de_repl {x y z : Str} {j jy jz : Nat} {pc cy cz apos pos' : Pos} (ho : PE X o (lft X.K ta)) (hyz : (y == z) = false := by decide)
    (hst : starEach [.Constant (.str y) jy cy, .Constant (.str z) jz cz] X.env = [(false, eval (.Constant (.str y) jy cy) X.env), (false, eval (.Constant (.str z) jz cz) X.env)] := by rfl)
    (hbase : attributeBase o "replace" X.env (eval o X.env) = eval o X.env := by rfl) (hline : (apos.endLine == pos'.line) = true := by rfl) :
    PE X (.BinOp (.Constant (.str x) j pc) .Add (.Call (.Attribute o "replace" apos) [.Constant (.str y) jy cy, .Constant (.str z) jz cz] [] pos') pos) (lft X.K (tRepl x ta y z)) := by
  refine pe_wk (pe_tokL op_add_str (CwR.pet_replC ho hyz hst hbase hline)) fun σ H Q ⟨Γ, R, ok, ht, hQ⟩ => ⟨Γ, _, ok, ht, fun rv Γ1 v H1 h1 ok1 ev1 r1 => ?_⟩
  obtain ⟨d, ex, h1⟩ := optD_ex h1
  obtain ⟨s, rfl, h1⟩ := strD_ex h1
  exact ⟨s, (rdb ok1 r1 ex).str, h1.1, x, _, rfl, rfl, h1.2.1, hQ _ _ _ _ h1.2.2 ok1 ev1 (.str _)⟩
/-! ### x[e] op= d -/
theorem get_list : PGet X (rIxL X.K) := by
  intro pins s σ H o i ov iv Q I ro ri h
  obtain ⟨p, xs, k, v, rfl, rfl, hq, he, q⟩ := h
  cases ro
  obtain ⟨t, rfl⟩ := ri
  obtain ⟨its, r, pl, hz⟩ := I.list hq
  obtain ⟨j, h1, h2, h3, h4, h5⟩ := atI_get he
  obtain ⟨w, ew, rw'⟩ := r.get h2
  have hl := r.length
  have hn := line63
  by_cases h0 : 0 ≤ k
  · have hj : k.toNat = j := by
      rw [seqIndex_of h0 h5] at h1
      exact Option.some.inj h1
    exact wpAny_getItem_list pl.isList h0 (by omega) (by rw [hj]; simpa using ew) ⟨v, H, I, rw', q⟩
  · have hj : (k + (its.toArray.size : Int)).toNat = j := by
      rw [seqIndex_neg (by omega) h4] at h1
      have := Option.some.inj h1
      simpa [← hl] using this
    exact wpAny_getItem_list_neg pl.isList (by omega) (by simp [← hl]; omega) (by omega) (by rw [hj]; simpa using ew) ⟨v, H, I, rw', q⟩
end
end DL
set_option Elab.async false
set_option linter.all false
set_option maxRecDepth 100000
set_option maxHeartbeats 4000000
/-! DL10: the order of data; x[e] += d; two names at once. -/
namespace DL
open PySem PySem.Spec PyProof.Rows L2 PySem.SeqAt
variable [TabP]

inductive Cp where | lt | le | gt | ge
def Cp.op : Cp → CmpOp
  | .lt => .Lt | .le => .LtE | .gt => .Gt | .ge => .GtE
def Cp.i : Cp → Int → Int → Bool
  | .lt, a, b => decide (a < b)
  | .le, a, b => decide (a ≤ b)
  | .gt, a, b => decide (b < a)
  | .ge, a, b => decide (b ≤ a)
def Cp.n : Cp → Nat → Nat → Bool
  | .lt, a, b => decide (a < b)
  | .le, a, b => decide (a ≤ b)
  | .gt, a, b => decide (b < a)
  | .ge, a, b => decide (b ≤ a)
def Cp.s : Cp → List Nat → List Nat → Bool
  | .lt, a, b => decide (a < b)
  | .le, a, b => !decide (b < a)
  | .gt, a, b => decide (b < a)
  | .ge, a, b => !decide (a < b)
mutual
def sameK : PyData → PyData → Bool
  | .int _, .int _ => true
  | .str _, .str _ => true
  | .tuple xs, .tuple ys => sameKs xs ys
  | _, _ => false
def sameKs : List PyData → List PyData → Bool
  | x :: xs, y :: ys => sameK x y && sameKs xs ys
  | [], _ => true
  | _ :: _, [] => true
end
mutual
def ordD (o : Cp) : PyData → PyData → Bool
  | .int a, .int b => o.i a b
  | .str a, .str b => o.s a.cps.toList b.cps.toList
  | .tuple xs, .tuple ys => ordL o xs ys
  | _, _ => false
def ordL (o : Cp) : List PyData → List PyData → Bool
  | x :: xs, y :: ys => if PyData.eqv x y = true then ordL o xs ys else ordD o x y
  | [], ys => o.n 0 ys.length
  | xs, [] => o.n xs.length 0
end
mutual
theorem same_alike : ∀ x y : PyData, sameK x y = true → PySem.W.alike x y = true
  | .int _, y, h => by cases y <;> first | rfl | (exact absurd h (by simp [sameK]))
  | .str _, y, h => by cases y <;> first | rfl | (exact absurd h (by simp [sameK]))
  | .tuple xs, y, h => by
    cases y with
    | tuple ys => rw [PySem.W.alike]; rw [sameK] at h; exact same_alikes xs ys h
    | _ => exact absurd h (by simp [sameK])
  | .none, y, h => absurd h (by simp [sameK])
  | .bool _, y, h => absurd h (by simp [sameK])
  | .list _, y, h => absurd h (by simp [sameK])
  | .dict _, y, h => absurd h (by simp [sameK])
theorem same_alikes : ∀ xs ys : List PyData, sameKs xs ys = true → PySem.W.alikeAll xs ys = true
  | [], _, _ => by rw [PySem.W.alikeAll]
  | _ :: _, [], _ => by rw [PySem.W.alikeAll]
  | x :: xs, y :: ys, h => by
    rw [sameKs, Bool.and_eq_true] at h
    rw [PySem.W.alikeAll, Bool.and_eq_true]
    exact ⟨same_alike x y h.1, same_alikes xs ys h.2⟩
end
theorem lex_ord (o : Cp) {e r : Nat → Bool} {z : Bool} : ∀ (xs ys : List PyData) (i : Nat), (∀ j, j < xs.length → j < ys.length → e (i + j) = PyData.eqv (xs.getD j .none) (ys.getD j .none)) →
    (∀ j, j < xs.length → j < ys.length → r (i + j) = ordD o (xs.getD j .none) (ys.getD j .none)) → z = o.n xs.length ys.length → Ob.lexAt e r z i (min xs.length ys.length) = ordL o xs ys
  | [], ys, i, he, hr, hz => by
    rw [List.length_nil, Nat.zero_min, Ob.lexAt_zero, hz]
    unfold ordL; rfl
  | x :: xs, [], i, he, hr, hz => by
    rw [List.length_nil, Nat.min_zero, Ob.lexAt_zero, hz]
    unfold ordL; rfl
  | x :: xs, y :: ys, i, he, hr, hz => by
    have h0 := he 0 (Nat.succ_pos _) (Nat.succ_pos _)
    have r0 := hr 0 (Nat.succ_pos _) (Nat.succ_pos _)
    rw [Nat.add_zero] at h0 r0
    rw [List.length_cons, List.length_cons, Nat.succ_min_succ, Ob.lexAt_succ]
    unfold ordL
    have e1 : e i = PyData.eqv x y := h0
    have e2 : r i = ordD o x y := r0
    rw [e1, e2]
    split
    · refine lex_ord o xs ys (i + 1) (fun j h1 h2 => ?_) (fun j h1 h2 => ?_) ?_
      · have := he (j + 1) (Nat.succ_lt_succ h1) (Nat.succ_lt_succ h2)
        rw [show i + 1 + j = i + (j + 1) by omega]; exact this
      · have := hr (j + 1) (Nat.succ_lt_succ h1) (Nat.succ_lt_succ h2)
        rw [show i + 1 + j = i + (j + 1) by omega]; exact this
      · rw [hz]; cases o <;> simp [Cp.n]
    · rfl
theorem rc_tups (o : Cp) {A : Around} {s : Shared} {l b : Addr} {items items2 : Array Value} {e r : Nat → Bool} (hl : s.heap.IsTuple l items) (hb : s.heap.IsTuple b items2) (hu : A.units < cLine)
    (he : ∀ j (h1 : j < items.size) (h2 : j < items2.size), EqAt A.in1 s items[j] items2[j] (e j))
    (hr : ∀ j (h1 : j < items.size) (h2 : j < items2.size), e j = false → Ob.RcOp o.op A.in1 s items[j] items2[j] (r j)) :
    Ob.RcOp o.op A s (.ref l) (.ref b) (Ob.lexAt e r (o.n items.size items2.size) 0 (min items.size items2.size)) := by
  cases o
  · exact Ob.RcOp.tuples_lt hl hb hu he hr
  · exact Ob.RcOp.tuples_le hl hb hu he hr
  · exact Ob.RcOp.tuples_gt hl hb hu he hr
  · exact Ob.RcOp.tuples_ge hl hb hu he hr
theorem in1_units {A : Around} : A.in1.units = A.units + 1 := rfl
mutual
theorem rc_same (o : Cp) : ∀ (da db : PyData) (A : Around) (s : Shared) (a b : Value) (as bs : List Addr), Reads s.heap a da as → Reads s.heap b db bs → sameK da db = true → A.units + da.depth < cLine → Ob.RcOp o.op A s a b (ordD o da db)
  | .int x, db, A, s, a, b, as, bs, ra, rb, h, hu => by
    cases db with
    | int y =>
      cases ra
      cases rb
      cases o
      · exact Ob.RcOp.lt_int _ _ _ _
      · exact Ob.RcOp.le_int _ _ _ _
      · exact Ob.RcOp.gt_int _ _ _ _
      · exact Ob.RcOp.ge_int _ _ _ _
    | _ => exact absurd h (by simp [sameK])
  | .str x, db, A, s, a, b, as, bs, ra, rb, h, hu => by
    cases db with
    | str y =>
      cases ra
      cases rb
      cases o
      · intro prog w E Q hq; exact P.lt_str hq
      · intro prog w E Q hq; exact P.le_str hq
      · intro prog w E Q hq; exact P.gt_str hq
      · intro prog w E Q hq; exact P.ge_str hq
    | _ => exact absurd h (by simp [sameK])
  | .tuple xs, db, A, s, a, b, as, bs, ra, rb, h, hu => by
    cases db with
    | tuple ys =>
      have hs : sameKs xs ys = true := by rw [sameK] at h; exact h
      have hal := same_alikes xs ys hs
      cases ra with
      | @tuple l o1 vs n _ as₁ h1 h2 h3 h4 =>
        cases rb with
        | @tuple l' o2 vs' n' _ bs₁ k1 k2 k3 k4 =>
          have n1 : vs.size = xs.length := by simpa using ReadsAll.length _ _ _ h4
          have n2 : vs'.size = ys.length := by simpa using ReadsAll.length _ _ _ k4
          have hd : (PyData.tuple xs).depth = PyData.depthAll xs + 1 := by rw [PyData.depth]
          rw [hd] at hu
          have hin : A.in1.units + PyData.depthAll xs < cLine := by rw [in1_units]; omega
          have hmin : A.in1.units + min (PyData.depthAll xs) (PyData.depthAll ys) < cLine := Nat.lt_of_le_of_lt (Nat.add_le_add_left (Nat.min_le_left _ _) _) hin
          have R := rc_tups o (A := A) (s := s) (e := pairEq xs ys) (r := fun j => ordD o (xs.getD j .none) (ys.getD j .none)) ⟨_, h1, h2, _, h3⟩ ⟨_, k1, k2, _, k3⟩ (by omega) (fun j j1 j2 => by
            have := PySem.W.eqAt_alikeAll xs ys A.in1 s vs.toList vs'.toList _ _ h4 k4 hal hmin j (by simpa using j1) (by simpa using j2)
            simpa using this) fun j j1 j2 hj => by
            have := rc_sames o xs ys A.in1 s vs.toList vs'.toList _ _ h4 k4 hs hin j (by simpa using j1) (by simpa using j2)
            simpa using this
          rw [n1, n2, lex_ord o xs ys 0 (fun j _ _ => by rw [Nat.zero_add]) (fun j _ _ => by rw [Nat.zero_add]) rfl] at R
          unfold ordD
          exact R
    | _ => exact absurd h (by simp [sameK])
  | .none, db, _, _, _, _, _, _, _, _, h, _ => absurd h (by simp [sameK])
  | .bool _, db, _, _, _, _, _, _, _, _, h, _ => absurd h (by simp [sameK])
  | .list _, db, _, _, _, _, _, _, _, _, h, _ => absurd h (by simp [sameK])
  | .dict _, db, _, _, _, _, _, _, _, _, h, _ => absurd h (by simp [sameK])
theorem rc_sames (o : Cp) : ∀ (xs ys : List PyData) (A : Around) (s : Shared) (vs ws : List Value) (as bs : List Addr), ReadsAll s.heap vs xs as → ReadsAll s.heap ws ys bs → sameKs xs ys = true → A.units + PyData.depthAll xs < cLine →
    ∀ j (h1 : j < vs.length) (h2 : j < ws.length), Ob.RcOp o.op A s vs[j] ws[j] (ordD o (xs.getD j .none) (ys.getD j .none))
  | [], _, _, _, _, _, _, _, ra, _, _, _, j, h1, _ => by cases ra; exact absurd h1 (Nat.not_lt_zero _)
  | _ :: _, [], _, _, _, _, _, _, _, rb, _, _, j, _, h2 => by cases rb; exact absurd h2 (Nat.not_lt_zero _)
  | x :: xs, y :: ys, A, s, _, _, _, _, ra, rb, h, hu, j, h1, h2 => by
    rw [sameKs, Bool.and_eq_true] at h
    rw [PyData.depthAll] at hu
    cases ra with
    | cons r rs =>
      cases rb with
      | cons r' rs' =>
        cases j with
        | zero => exact rc_same o x y A s _ _ _ _ r r' h.1 (by omega)
        | succ j => exact rc_sames o xs ys A s _ _ _ _ rs rs' h.2 (by omega) j (Nat.lt_of_succ_lt_succ h1) (Nat.lt_of_succ_lt_succ h2)
end
def rOrd (K : PySem.W.Frag) (o : Cp) : R2 := fun x y H Q => ∃ d e, Dp K H x d ∧ Dp K H y e ∧ sameK d e = true ∧ d.depth ≤ 64 ∧ Q (.bl (ordD o d e)) H
def fOrdr (o : Cp) : Op2
  | .int i, .int j, R => R (.d (.bool (o.i i j)))
  | .str i, .str j, R => R (.d (.bool (o.s i.cps.toList j.cps.toList)))
  | x, y, R => sameK x y = true ∧ x.depth ≤ 64 ∧ R (.d (.bool (ordD o x y)))
section
variable {X : Cx} {pos : Pos} {a b c e : Expr} {ta tb tc : DT} {tas : DTa}
theorem op_ord (o : Cp) (hu : X.A.units + 64 < cLine) : OpR X (compareOp o.op) (rOrd X.K o) := by
  intro pins s σ H x y v u Q I rx ry h
  obtain ⟨d, e, hd, he, sk, dp, q⟩ := h
  obtain ⟨as, r1⟩ := Dp.reads I d x v hd rx
  obtain ⟨bs, r2⟩ := Dp.reads I e y u he ry
  have R := rc_same o d e X.A s v u as bs r1 r2 sk (by omega) X.prog X.w X.xe (EP X pins σ Q) ⟨.bl _, H, I, rfl, q⟩
  cases o <;> exact R
theorem sOrdr {K : PySem.W.Frag} (o : Cp) : OpS K (rOrd K o) (fOrdr o) := fun x y dx dy H Q R rx ry hf hQ => by
  unfold fOrdr at hf
  split at hf
  · exact ⟨_, _, rx.dp, ry.dp, rfl, by rw [PyData.depth]; omega, hQ _ _ _ hf (Same.refl H) (.bl _)⟩
  · exact ⟨_, _, rx.dp, ry.dp, rfl, by rw [PyData.depth]; omega, hQ _ _ _ hf (Same.refl H) (.bl _)⟩
  · exact ⟨_, _, rx.dp, ry.dp, hf.1, hf.2.1, hQ _ _ _ hf.2.2 (Same.refl H) (.bl _)⟩
theorem nomark' (o : Cp) (b : Expr) : behindInMarks o.op b = false := by cases o <;> exact nomark _
theorem de_ord' (o : Cp) (hu : X.A.units + 64 < cLine) (ha : PE X a (lft X.K ta)) (hb : PE X b (lft X.K tb)) : PE X (.Compare a [o.op] [b] pos) (lft X.K (tBin (fOrdr o) ta tb)) := de_cmp (op_ord o hu) (sOrdr o) ha hb (nomark' o _)
theorem dt_ord (o : Cp) (hu : X.A.units + 64 < cLine) (ha : PE X a (lft X.K ta)) (hb : PE X b (lft X.K tb)) : PT X (.Compare a [o.op] [b] pos) (lftT X.K (tCmp2 (fOrdr o) ta tb)) := dt_cmp (op_ord o hu) (sOrdr o) ha hb (nomark' o _)
/-- a < b < c -/
def tChn (o o' : Cp) (ta tb tc : DT) : DT := fun Γ R => ta Γ fun x Γ1 => tb Γ1 fun y Γ2 => optD (val Γ2 x) fun dx => optD (val Γ2 y) fun dy => fOrdr o dx dy fun z => boolR z fun k => condP k (tc Γ2 fun w Γ3 => optD (val Γ3 y) fun dy2 => optD (val Γ3 w) fun dw => fOrdr o' dy2 dw fun z => R z Γ3) (R (.d (.bool false)) Γ2)
theorem chn_imp (o o' : Cp) (ha : PE X a (lft X.K ta)) : ∀ (σ : L2.St) (H : Hp) (Q : VK), lft X.K (tChn o o' ta tb tc) σ H Q → tChain (rOrd X.K o) (rOrd X.K o') (lft X.K ta) (lft X.K tb) (lft X.K tc) σ H Q := by
  intro σ H Q ⟨Γ, R, ok, ht, hQ⟩
  refine ⟨Γ, _, ok, ht, fun x Γ1 v H1 h1 ok1 ev1 r1 => ⟨Γ1, _, ok1, h1, fun y Γ2 u H2 h2 ok2 ev2 r2 => ?_⟩⟩
  obtain ⟨dx, ex, h2⟩ := optD_ex h2
  obtain ⟨dy, ey, h2⟩ := optD_ex h2
  refine sOrdr o v u dx dy H2 _ _ (rdb ok2 (r1.on ev1 ok ev2) ex) (rdb ok2 r2 ey) h2 fun z w H' hz sm rz => ?_
  obtain ⟨k, rfl, hz⟩ := boolR_ex hz
  cases rz
  refine ⟨k, rfl, ?_⟩
  have ok3 := ok2.new sm
  have ev3 := (ev1.trans ev2).trans (.new sm)
  cases k with
  | false => exact iteF (hQ _ _ _ _ (condP_F hz) ok3 ev3 (.bl _))
  | true =>
    refine iteT ⟨Γ2, _, ok3, condP_T hz, fun w Γ3 w' H3 h3 ok4 ev4 r4 => ?_⟩
    obtain ⟨dy2, ey2, h3⟩ := optD_ex h3
    obtain ⟨dw, ew, h3⟩ := optD_ex h3
    have ry := (r2.on ev2 ok1 (Ev.new sm)).on (ev2.trans (.new sm)) ok1 ev4
    refine sOrdr o' u w' dy2 dw H3 _ _ (rdb ok4 ry ey2) (rdb ok4 r4 ew) h3 fun z q H4 hz sm4 rz => ?_
    exact hQ _ _ _ _ hz (ok4.new sm4) ((ev3.trans ev4).trans (.new sm4)) (RvOk.up (H1 := H3) rz.any (ev3.trans ev4))
theorem de_chain (o o' : Cp) (hu : X.A.units + 64 < cLine) (ha : PE X a (lft X.K ta)) (hb : PE X b (lft X.K tb)) (hc : PE X c (lft X.K tc)) (hm : lastMarks [o.op, o'.op] [b, c] = false) : PE X (.Compare a [o.op, o'.op] [b, c] pos) (lft X.K (tChn o o' ta tb tc)) :=
  pe_wk (pe_chain (op_ord o hu) (op_ord o' hu) ha hb hc hm) (chn_imp o o' ha)
theorem dt_chain (o o' : Cp) (hu : X.A.units + 64 < cLine) (ha : PE X a (lft X.K ta)) (hb : PE X b (lft X.K tb)) (hc : PE X c (lft X.K tc)) (hm : lastMarks [o.op, o'.op] [b, c] = false) : PT X (.Compare a [o.op, o'.op] [b, c] pos) (lftT X.K (tVal (tChn o o' ta tb tc))) :=
  pt_wk (pt_chain (op_ord o hu) (op_ord o' hu) ha hb hc hm) fun σ H Q ⟨Γ, R, ok, ht, hQ⟩ => chn_imp o o' ha σ H _ ⟨Γ, _, ok, ht, fun rv Γ1 v H1 h1 ok1 ev1 r1 => by
    obtain ⟨d, ex, h1⟩ := optD_ex h1
    obtain ⟨k, rfl, h1⟩ := boolD_ex h1
    exact ⟨k, (rdb ok1 r1 ex).bool, hQ _ _ _ h1 ok1 ev1⟩⟩

/-! ### x[e] op= d -/
def sAugI (i : Nat) (ta tb : DT) (f : Ip2) : DS := fun E Γ => celP Γ[i]? fun _ _ => ta Γ fun rk Γ1 => optD (val Γ1 rk) fun dk => celP Γ1[i]? fun _ ds => ixP ds.length dk fun j => optD ds[j]? fun x => tb Γ1 fun rv Γ2 => optD (val Γ2 rv) fun dy => f x dy fun z =>
  celP Γ2[i]? fun b ds2 => ixP ds2.length dk fun j2 => E.nx (Γ2.set i (.c b (.lst (ds2.set j2 z))))
theorem ds_augi {i : Nat} {o : Expr} {op : Operator} {ti : TIp} {f : Ip2} {tpos : Pos} (ho : PE X o (tVar i)) (hi : PE X a (lft X.K ta)) (he : PE X b (lft X.K tb)) (hp : PIp X op ti) (hf : IpS X.K ti f)
    (hs : ∀ ov iv new, augStore a ov iv new = (do holding [new, ov, iv] (setItem ov iv new); release [new, ov, iv] []; pure .next) := by intros; rfl) : PS X (.AugAssign (.Subscript o a tpos) op b pos) (lfs X.K (sAugI i ta tb f)) := by
  refine ps_wk (ps_augS ho hi get_list he hp set_list hs) fun D σ H ⟨Γ, E, ok, ht, h1, _⟩ => ?_
  obtain ⟨b0, ds0, e0, ht⟩ := celP_ex ht
  obtain ⟨p, hv, _⟩ := ok.cel i _ _ e0
  refine ⟨_, hv, Γ, _, ok, ht, fun rk Γ1 v H1 q ok1 ev1 r1 => ?_⟩
  obtain ⟨dk, ek, q⟩ := optD_ex q
  obtain ⟨b1, ds, e1, q⟩ := celP_ex q
  obtain ⟨k, j, rfl, hj, q⟩ := ixP_ex q
  obtain ⟨x, hx, q⟩ := optD_ex q
  obtain ⟨p', hp', vs, hvs, pv⟩ := ok1.cel i _ _ e1
  rw [hv] at hp'; cases hp'
  have rk := (rdb ok1 r1 ek).int
  subst rk
  obtain ⟨y, hy, py⟩ := pv.get hx
  refine ⟨p, vs, k, y, rfl, rfl, .inl (.inl hvs), by unfold atI; rw [← pv.len, hj]; exact hy, Γ1, _, ok1, q, fun rv Γ2 u H2 q2 ok2 ev2 r2 => ?_⟩
  obtain ⟨dy, ey, q2⟩ := optD_ex q2
  refine hf y u x dy H2 _ _ (py.mono ev2.per) (rdb ok2 r2 ey) q2 fun z w hz pz => ?_
  obtain ⟨b2, ds2, e2, hz⟩ := celP_ex hz
  obtain ⟨k', j2, hk, hj2, hz⟩ := ixP_ex hz
  cases hk
  obtain ⟨p'', hp'', vs2, hvs2, pv2⟩ := ok2.cel i _ _ e2
  rw [hv] at hp''; cases hp''
  obtain ⟨ok3, ev3⟩ := ok2.upc (c' := .lst (ds2.set j2 z)) (o := .lst (vs2.set j2 w)) e2 hv fun H' per q => ⟨_, q, (pv2.mono per).set j2 (pz.mono per)⟩
  exact ⟨p, vs2, k, j2, rfl, rfl, hvs2, by rw [← pv2.len]; exact hj2, h1 _ _ _ hz ok3 (.of ((ev1.trans ev2).trans ev3))⟩
/-- x, y = a, b with plain local names -/
def sPar (i j : Nat) (tas : DTa) : DS := fun E Γ => tas Γ fun rs Γ1 => optL (allD rs) fun ds => match ds with
  | [x, y] => free Γ1[i]? (free (Γ1.set i (.d x))[j]? (E.nx ((Γ1.set i (.d x)).set j (.d y))))
  | _ => False
theorem ds_par {i j : Nat} {x y : Str} {px py pt : Pos} {kt k2 pt2} (hc : X.calm = true) (hN : X.N.Nodup) (hi : X.N[i]? = some x) (hj : X.N[j]? = some y) (hij : i ≠ j)
    (hx : X.env.scope.names.lookup x = some .local) (hy : X.env.scope.names.lookup y = some .local) (ha : PA X [a, b] (lftA X.K tas))
    (hw : swappedStores [.Tuple [.Name x px, .Name y py] kt pt] (.Tuple [a, b] k2 pt2) X.env = pure (some [x, y]))
    (hs : swapsWithSole [.Tuple [.Name x px, .Name y py] kt pt] (.Tuple [a, b] k2 pt2) pos.line X.env = pure false := by rfl) :
    PS X (.Assign [.Tuple [.Name x px, .Name y py] kt pt] (.Tuple [a, b] k2 pt2) pos) (lfs X.K (sPar i j tas)) := by
  refine ps_wk (ps_par hc hN hi hj hij hx hy ha hw hs) fun D σ H ⟨Γ, E, ok, ht, h1, _⟩ => ⟨Γ, _, ok, ht, fun rs Γ1 vs H1 q ok1 ev1 r1 => ?_⟩
  obtain ⟨ds, ex, q⟩ := optL_ex q
  have pd := allD_pd r1 ex
  split at q
  · cases pd with
    | cons p1 p2 =>
      cases p2 with
      | cons p2 p3 =>
        cases p3
        obtain ⟨⟨s1, e1, n1⟩, q⟩ := free_ex q
        obtain ⟨⟨s2, e2, n2⟩, q⟩ := free_ex q
        obtain ⟨ok2, sx2⟩ := store_d ok1 p1 e1 n1 ev1
        obtain ⟨ok3, sx3⟩ := store_d ok2 p2 e2 n2 .rfl
        exact ⟨_, _, rfl, h1 _ _ _ q ok3 (sx2.trans sx3)⟩
  · exact q.elim
/-- (a, b, ..) = e, e a tuple -/
def sAsgT (ta : DT) (g : Tg) : DS := fun E Γ => ta Γ fun rv Γ1 => datR rv fun x => g.d x Γ1 E.nx
theorem ds_asgT {tg : Expr} {g : Tg} (h : PE X e (lft X.K ta)) (hg : PG X tg (g.t X.K)) (hs : swapsWithSole [tg] e pos.line X.env = pure false := by rfl) (hw : swappedStores [tg] e X.env = pure none := by rfl)
    (h1 : (assignEach [tg] X.env).map (·.2) = [assign tg X.env] := by rfl) : PS X (.Assign [tg] e pos) (lfs X.K (sAsgT ta g)) := by
  refine ps_wk (ps_asg h hg hs hw h1) fun D σ H ⟨Γ, E, ok, ht, e1, _⟩ => ⟨Γ, _, ok, ht, fun rv Γ1 v H1 q ok1 ev1 r1 => ?_⟩
  obtain ⟨x, rfl, q⟩ := datR_ex q
  exact g.run ok1 r1 q fun Γ2 σ2 q2 ok2 w2 => e1 _ _ _ q2 ok2 ((Sx.of ev1).trans w2.sx)
end
end DL
set_option Elab.async false
set_option linter.all false
set_option maxRecDepth 100000
set_option maxHeartbeats 4000000
/-! DL11: all(test for c in text), the test over the module's names. -/
namespace DL
open PySem PySem.Spec PyProof.Rows L2 GxR
variable [TabP]

/-- the element: a test of one sign, by the module's own names and the built-ins -/
def SgP (X : Cx) (scope : Scope) (x : Str) (elt : Expr) (pb : Nat → Bool) : Prop :=
  ∀ (ce : Env) (B : Around) (F : Value → Shared → Prop) (k : Nat) (u : Tok) (z : Shared) (m : Str → Option Value), X.Ok → ce.scope = scope → ce.globals = mainGlobals → ce.builtins = builtinsNs → (∀ b o, X.base.get? b = some o → z.heap.get? b = some o) →
    z.heap.Ns ce.locals m → m x = some (.str ⟨#[k]⟩ u) → wpAny (model X.prog X.w) B (eval elt ce) (fun y z' => y = .bool (pb k) ∧ Keeps z z') F z
section
variable {X : Cx} {pins : List (Addr × Obj)} {σ : L2.St} {H : Hp} {s : Shared}
/-- the code object of the generator expression is there, or is laid -/
theorem sg_code {c P : Addr} {ps : Array Value} {gp : Pos} {q : Str} {sc : Scope} {env : Env} {M : Model} {A : Around} {F : Value → Shared → Prop} {R : Value → Shared → Prop} {t : Shared} (hc : env.code = .ref c) (cd : PySem.W.CodeHd t.heap c P)
    (hP : t.heap.get? P = some { cls := .none, data := .fields ps }) (ht : TriplesOk ps.toList)
    (h : ∀ (cv : Value) (g : Heap) (tk : Nat) (more : Array Value), Heap.ExtBut P t.heap g → t.heap.objs.size ≤ g.objs.size → g.get? P = some { cls := .none, data := .fields (ps ++ more) } → TriplesOk (ps ++ more).toList → R cv { t with heap := g, toks := tk }) :
    wpAny M A (genexprCode env gp q sc) R F t := by
  cases e : codeAmong gp ps.toList with
  | some cv =>
    have e0 : ps ++ #[] = ps := by simp
    exact wpAny_genexprCode_hit hc (cd.code hP ht) e (h cv t.heap t.toks #[] (Heap.ExtBut.refl _ _) (Nat.le_refl _) (by rw [e0]; exact hP) (by rw [e0]; exact ht))
  | none =>
    refine wpAny_genexprCodeX hc (cd.code hP ht) (cd.tab hP) e fun c' g tk ex ge lt ok _ tb _ => ?_
    obtain ⟨_, _, _, _, _, _, _, _, _, _, _, _, _, _, _, _, _, _, _, tr, _⟩ := ok
    exact h _ g tk _ ex (Nat.le_trans ge (Nat.le_of_lt lt)) tb.2 tr
theorem sg_gen {c P : Addr} {elt it : Expr} {x : Str} {px gp : Pos} {scope : Scope} {pb : Nat → Bool} {te : TE} {k : Nat} {R' : Value → Shared → Prop} {R : Str → Hp → Prop}
    (hr : Room k X.A) (T : TabB X.base X.mg c P) (hc : X.env.code = .ref c) (S : GenS X.env scope x) (hi : PE X it te) (hel : SgP X scope x elt pb) (hf : ∀ v, genFold it X.env v = pure v) (I : Inv X pins σ H s)
    (h : te σ H fun v G => ∃ a : Str, v = .str a ∧ TabG G P ∧ R a G) (hR : ∀ a G g z, R a G → Ready X pins σ G P a pb g z → R' (.ref g) z) :
    wpAny (model X.prog X.w) X.A (eval (.GeneratorExp elt [⟨.Name x px, it, [], 0⟩] scope gp) X.env) R' X.xe s := by
  refine wpAny_GeneratorExp_walksQ hr.hd S.co (closure_ok S.free) S.cell S.dot S.loc S.kind (by have := hr.depth; omega) (thn (hi.run pins s σ H _ I h) fun v0 s1 ⟨v, G, J, rv, a, ea, ⟨ps, hP, ht⟩, hRa⟩ => ?_) hf
  subst ea
  obtain ⟨t, ev⟩ := (show ∃ t, v0 = Value.str a t from rv)
  subst ev
  have atP : s1.heap.get? P = some { cls := .none, data := .fields ps } := J.hok P _ hP
  have ltP : P < s1.heap.objs.size := Heap.lt_size atP
  have nolim := J.nolimit
  have keepB : ∀ b o, X.base.get? b = some o → s1.heap.get? b = some o := J.bk
  have ltS : cStatics < s1.heap.objs.size := by
    obtain ⟨_, ns, _⟩ := nolim
    exact ns.lt
  have neS : cStatics ≠ P := by
    intro e
    obtain ⟨_, ns, _⟩ := nolim
    obtain ⟨o', es, ep, ho, hd, _⟩ := ns
    rw [e, atP] at ho
    cases ho
    cases hd
  refine wpAny_pyIter_str fun ob St W st0 => ⟨nolim.push ob, ?_⟩
  have up : ∀ {b : Addr} {o : Obj}, s1.heap.get? b = some o → (s1.heap.push ob).get? b = some o := fun e => Heap.get?_push_of_some _ e
  have sz : (s1.heap.push ob).objs.size = s1.heap.objs.size + 1 := Heap.size_push ..
  refine sg_code (t := { s1 with heap := s1.heap.push ob }) hc (T.code.keeps fun b o e => up (keepB b o e)) (up atP) ht fun cv g tk more ex ge gP gt => ?_
  have ex : Heap.ExtBut P (s1.heap.push ob) g := ex
  have ge : s1.heap.objs.size + 1 ≤ g.objs.size := by rw [← sz]; exact ge
  have old : ∀ b o, b ≠ P → s1.heap.get? b = some o → g.get? b = some o := fun b o n e => ex b o n (up e)
  have neP : ∀ b o, X.base.get? b = some o → b ≠ P := fun b o e z => by
    subst z
    have := (J.bs b o e).2
    rw [hP] at this
    cases this
  obtain ⟨bm, bo, m1, m2, m3, m4, m5, m6, m7, m8⟩ := T.bm
  refine wpAny_builtinsFor (m := X.mg) (by rw [J.ok.glob]; exact ((J.mod.glob.keeps keepB).push ob).extBut ex T.gP) m1 m2 (old _ _ (neP _ _ m5) (keepB _ _ m5)) m6 m7 m8 ?_
  refine ⟨s1.heap.objs.size, [s1.heap.objs.size], [s1.heap.objs.size], a.cps.size, SignAt a, St, fun _ => true, fun i y => ∃ q, a.cps[i]? = some q ∧ y = .bool (pb q), rfl, W, (W X.A hr.hd).frame _ _ _ st0 fun b hb o e => ex b o ?_ e, fun b hb => ?_, (nolim.push ob).extBut ex neS, fun z => ?_, fun hp hh => ⟨fun _ _ _ _ _ _ _ _ _ _ _ => ?_, fun B F i v z m hB hv _ hn hm hk => ?_⟩, fun a0 h5 tk5 gs gb lt0 sz5 k5 W5 at5 => ?_⟩
  · rw [List.mem_singleton.mp hb]
    exact Nat.ne_of_gt ltP
  · rw [List.mem_singleton.mp hb]
    exact Nat.lt_of_lt_of_le (Nat.lt_succ_self _) ge
  · rw [List.mem_singleton.mp z] at ltS
    exact Nat.lt_irrefl _ ltS
  · simp only [List.forIn_nil]
    exact wpAny_pure ⟨rfl, keeps_refl _⟩
  · obtain ⟨q, u, hq, rfl⟩ := hv
    refine wpAny_mono (hel _ B F q u z m J.ok rfl J.ok.glob rfl (fun b o e => ?_) hn hm) (fun y z' r => ⟨⟨q, hq, r.1⟩, r.2⟩) fun _ _ e => e
    have e1 := keepB b o e
    have e2 := old b o (neP b o e) e1
    refine hk b (List.mem_range.mpr (Heap.lt_size e2)) (fun w => ?_) o (hh b o e2)
    rw [List.mem_singleton.mp w] at e1
    exact Nat.lt_irrefl _ (Heap.lt_size e1)
  · simp only [GxR.passing_true, List.length_range] at W5
    refine hR a G a0 _ hRa ⟨_, _, _, _, _, W5.in4_1, at5, fun j y zj Qj Ej hy hQ => ?_, fun s' mv => ?_⟩
    · obtain ⟨i, hi', q, hq, rfl⟩ := hy
      have ei : i = j := by
        obtain ⟨hj, e⟩ := List.getElem?_eq_some_iff.mp hi'
        rw [List.getElem_range] at e
        exact e.symm
      subst ei
      have e9 : trF pb a.cps.toList i = pb q := trF_some (by rw [Array.getElem?_toList]; exact hq)
      have hQ : Qj (trF pb a.cps.toList i) zj := hQ
      rw [e9] at hQ
      exact wpAny_truthy_bool hQ
    · have nw : ∀ b o, s1.heap.get? b = some o → b ∉ g.objs.size :: [s1.heap.objs.size] := fun b o e w => by
        have l := Heap.lt_size e
        rcases List.mem_cons.mp w with y | y
        · rw [y] at l
          have : (g.objs.size : Nat) < s1.heap.objs.size := l
          omega
        · rw [List.mem_singleton.mp y] at l
          exact Nat.lt_irrefl _ l
      have J2 := inv_tab (more := more) (h' := s'.heap) (g' := s'.gens) (d' := s'.drawn) (t' := s'.toks) J hP (fun b o n e => mv.heap b o (nw b o e) (k5 b o (old b o n e))) (mv.heap P _ (nw P _ atP) (k5 P _ gP)) (AllBare.movedS (J.bare.push gb) mv)
      rw [sh_eta s1 s' mv.os] at J2
      exact ⟨_, ⟨⟨_, upd_same, gt⟩, fun b hb => upd_ne hb⟩, J2⟩
theorem pe_sgall {c P : Addr} {elt it : Expr} {x : Str} {px p pos gp : Pos} {scope : Scope} {pb : Nat → Bool} {te : TE} {k : Nat} (hr : Room k X.A) (hg : Gl X "all") (hm : X.mg "all" = none) (T : TabB X.base X.mg c P) (hc : X.env.code = .ref c) (S : GenS X.env scope x)
    (hi : PE X it te) (hel : SgP X scope x elt pb) (hf : ∀ v, genFold it X.env v = pure v := by intro _; rfl)
    (he : starEach [.GeneratorExp elt [⟨.Name x px, it, [], 0⟩] scope gp] X.env = (false, eval (.GeneratorExp elt [⟨.Name x px, it, [], 0⟩] scope gp) X.env) :: starEach [] X.env := by rfl) :
    PE X (.Call (.Name "all" p) [.GeneratorExp elt [⟨.Name x px, it, [], 0⟩] scope gp] [] pos) (tAllS P pb te) := by
  refine ⟨fun pins s σ H Q I h => wpAny_Call_Name_kw (ld_blt I hg hm (show bootBuiltins "all" = some (.builtin "all") by decide +kernel) (PyProof.Rows.callWith_builtin1 ?_ he (by rfl)))⟩
  rw [he]
  change wpAny _ _ (spliced ((false, _) :: backTo pos (starEach [] X.env))) _ _ s
  refine Calls.spliced_cons (sg_gen (R := fun a G => ∀ G2, Tabbed P G G2 → Q (.bl (a.cps.toList.all pb)) G2) hr T hc S hi hel hf I h fun a G g z hG hz => ?_)
  obtain ⟨fp, wr, GG, F, St, W, st0, tr, end_⟩ := hz
  refine Calls.spliced_nil (call_all_walkS (W.self 0 _ _ _ st0 ⟨g, fp, wr, GG, _, F, St, _, rfl, W, st0, tr, fun s' mv => ?_⟩))
  obtain ⟨G2, tb, J⟩ := end_ s' mv
  exact ⟨.bl _, G2, J, rfl, by rw [all_signs a pb]; exact hG G2 tb⟩
/-- all(test for c in e) -/
def tAllD (pb : Nat → Bool) (ta : DT) : DT := fun Γ R => ta Γ fun rv Γ1 => optD (val Γ1 rv) fun d => strD d fun a => R (.d (.bool (a.cps.toList.all pb))) Γ1
theorem tabbed_sm {P : Addr} {H H' : Hp} (h : Tabbed P H H') (t : TabG H P) (hl : ∀ q, (P, q) ∉ TabP.ls) : Sm H H' := by
  obtain ⟨h1, h2⟩ := h
  obtain ⟨ps, hp, _⟩ := t
  have ne : ∀ {b : Addr} {o : HO}, H b = some o → (∀ q, o ≠ .tbl q) → b ≠ P := fun e n z => by subst z; rw [hp] at e; exact n ps (Option.some.inj e).symm
  refine ⟨⟨fun b xs e => by rw [h2 b (ne e fun q z => by cases z)]; exact e, fun b o u e => by rw [h2 b (ne e fun q z => by cases z)]; exact e, fun b tb => ?_⟩, fun b e => ?_, fun b o e n => by rw [h2 b (ne e n)]; exact e⟩
  · by_cases z : b = P
    · subst z; exact ⟨h1, fun q m => (hl q m).elim⟩
    · obtain ⟨⟨qs, e, t⟩, tl⟩ := tb
      refine ⟨⟨qs, by rw [h2 b z]; exact e, t⟩, fun q m => ?_⟩
      obtain ⟨ps', e1, e2, e3⟩ := tl q m
      refine ⟨ps', by rw [h2 b z]; exact e1, e2, fun pos cv hc => ?_⟩
      obtain ⟨c, e4, e5⟩ := e3 pos cv hc
      exact ⟨c, e4, by rw [h2 c (ne e5 (LamX.codeO_ne (c := c) (q := q)))]; exact e5⟩
  · by_cases z : b = P
    · subst z
      obtain ⟨qs, e', _⟩ := h1
      rw [e'] at e; cases e
    · rw [h2 b z] at e; exact e
theorem de_sgall {c P : Addr} {elt it : Expr} {x : Str} {px p pos gp : Pos} {scope : Scope} {pb : Nat → Bool} {ta : DT} {k : Nat} (hr : Room k X.A) (hg : Gl X "all") (hm : X.mg "all" = none) (T : TabB X.base X.mg c P) (hP : P ∈ TabP.ps) (hPl : ∀ q, (P, q) ∉ TabP.ls) (hc : X.env.code = .ref c) (S : GenS X.env scope x)
    (hi : PE X it (lft X.K ta)) (hel : SgP X scope x elt pb) (hf : ∀ v, genFold it X.env v = pure v := by intro _; rfl)
    (he : starEach [.GeneratorExp elt [⟨.Name x px, it, [], 0⟩] scope gp] X.env = (false, eval (.GeneratorExp elt [⟨.Name x px, it, [], 0⟩] scope gp) X.env) :: starEach [] X.env := by rfl) :
    PE X (.Call (.Name "all" p) [.GeneratorExp elt [⟨.Name x px, it, [], 0⟩] scope gp] [] pos) (lft X.K (tAllD pb ta)) := by
  refine pe_wk (pe_sgall hr hg hm T hc S hi hel hf he) fun σ H Q ⟨Γ, R, ok, ht, hQ⟩ => ⟨Γ, _, ok, ht, fun rv Γ1 v H1 h1 ok1 ev1 r1 => ?_⟩
  obtain ⟨d, ex, h1⟩ := optD_ex h1
  obtain ⟨a, rfl, h1⟩ := strD_ex h1
  refine ⟨a, (rdb ok1 r1 ex).str, (ok1.tab P hP).1, fun H2 tb => ?_⟩
  have sm := tabbed_sm tb (ok1.tab P hP).1 hPl
  exact hQ _ _ _ _ h1 (ok1.sm sm) (ev1.trans (.sm sm)) (.bl _)
/-- 32 <= ord(c) < 127 -/
theorem sg_range {scope : Scope} {x : Str} {lo hi : Int} {j1 j2 : Nat} {p1 p2 p3 p4 p5 p6 : Pos} (hk : scope.kind = .function) (hl : scope.names.lookup x = some .local) (ho : scope.names.lookup ("ord" : Str) = some .globalImplicit) (hm : X.mg "ord" = none)
    (hd : (x == ("__debug__" : Str)) = false := by decide) :
    SgP X scope x (.Compare (.Constant (.int lo) j1 p1) [.LtE, .Lt] [.Call (.Name "ord" p2) [.Name x p3] [] p4, .Constant (.int hi) j2 p5] p6) (fun c => decide (lo ≤ (c : Int)) && decide ((c : Int) < hi)) := by
  intro ce B F c u z m ok hs hg hb hkb hn hmx
  subst hs
  have ldx : ∀ {Q : Value → Shared → Prop} {E : Value → Shared → Prop} {y : Shared} (hn : y.heap.Ns ce.locals m), Q (.str ⟨#[c]⟩ u) y → wpAny (model X.prog X.w) B (eval (.Name x p3) ce) Q E y := fun hn h =>
    wpAny_Name (wpAny_loadName_local hk (show ce.scope.names.lookup x = some .local from hl) hn hmx h) hd
  have ldo : ∀ {Q : Value → Shared → Prop} {E : Value → Shared → Prop} {y : Shared} (hkb : ∀ b o, X.base.get? b = some o → y.heap.get? b = some o), Q (.builtin "ord") y → wpAny (model X.prog X.w) B (eval (.Name "ord" p2) ce) Q E y := fun hkb h => by
    obtain ⟨mb, h1, h2⟩ := ok.mod.blt
    refine Calls.Name_function_global hk (show ce.scope.names.lookup ("ord" : Str) = some .globalImplicit from ho) (Calls.loadGlobal_builtin (by rw [hg]; exact ok.mod.glob.keeps hkb) hm (by rw [hb]; exact h1.keeps hkb) ((h2 "ord" (by decide)).trans (by decide +kernel)) h) (by decide)
  refine Compare_chain (wpAny_Constant_int (chain_link (wpAny_Call_Name_kw (ldo hkb (PyProof.Rows.callWith_builtin1 ?_ (by rfl) (by rfl)))))) (by with_unfolding_all rfl)
  refine Calls.spliced_cons (ldx hn (Calls.spliced_nil (ord_of_one (by rfl) ?_)))
  refine PyProof.Rows.le_int (wpAny_truthy_bool ?_)
  have e : ((Str.mk #[c]).cps.getD 0 0 : Nat) = c := rfl
  rw [e]
  by_cases h1 : lo ≤ (c : Int)
  · rw [decide_eq_true h1]
    refine ite_tt (chain_last (wpAny_Constant_int (PyProof.Rows.lt_int ⟨by show Value.bool _ = Value.bool (decide (lo ≤ (c : Int)) && decide ((c : Int) < hi)); rw [decide_eq_true h1, Bool.true_and], ?_⟩)))
    exact keeps_tok _ _
  · rw [decide_eq_false h1]
    refine ite_ff ⟨by show Value.bool _ = Value.bool (decide (lo ≤ (c : Int)) && decide ((c : Int) < hi)); rw [decide_eq_false h1, Bool.false_and], ?_⟩
    exact keeps_tok _ _
end
end DL
set_option Elab.async false
set_option linter.all false
set_option maxRecDepth 100000
set_option maxHeartbeats 4000000
/-! DL12: known defs, the law. -/
namespace DL
open PySem PySem.Spec PyProof.Rows L2
variable [TabP]
/-- the module's name x is a def that keeps sp -/
structure Kd (P : Program) (w : World) (K : PySem.W.Frag) (mg : Str → Option Value) (base : Heap) (k : Nat) (x : Str) (ps : List Str) (sp : Sp) : Prop where
  ex : ∃ f fd, FnOk P w K mg base CX0 k f fd ps sp ∧ mg x = some (.ref f) ∧ PySem.W.keepIn K (.ref f) = true ∧ L2.Binds K fd ps []
section
variable {P : Program} {w : World} {K : PySem.W.Frag} {mg : Str → Option Value} {base : Heap}
theorem Kd.mono {j k : Nat} {x : Str} {ps : List Str} {sp : Sp} (D : Kd P w K mg base j x ps sp) (h : j ≤ k) : Kd P w K mg base k x ps sp :=
  let ⟨f, fd, a, b⟩ := D.ex; ⟨f, fd, a.mono h, b⟩
/-- the module's name x is this def -/
structure Df (K : PySem.W.Frag) (mg : Str → Option Value) (x : Str) (st : Stmt) (f : Addr) : Prop where
  ex : ∃ fd, FunD K x x (defArgs st) (defBody st) (defScope st) [] [] f fd
  gl : mg x = some (.ref f)
def BndOk (x : Str) (st : Stmt) (ps : List Str) : Prop := ∀ (kV doc pm : Value) (an : Option Addr) (cdv ct : Value) (us : List Value), us.length = ps.length → bindArgs (PySem.W.fnOf x x (defArgs st) (defBody st) (defScope st) .none kV doc pm an cdv ct) ⟨us, []⟩ = pure (ps.zip us)
theorem kd_pure {x : Str} {st : Stmt} {N ps : List Str} {k : Nat} {m : PM} {f : Addr} (D : Df K mg x st f) (B : BndOk x st ps) (S : FnScope N ps (defScope st)) (hm : ∀ ds R, m ds R → ds.length = ps.length)
    (hbody : ∀ (cdv : Value) (A : Around) (outer : List Env) (s : Shared) (H : Hp) (E : XK), CodeOf K f cdv → Room k (A.deeper (envOfC x (defScope st) s.heap.objs.size f cdv)) →
      ∃ t, PSs (cxOf CX0 P w K mg base N x (defScope st) f cdv A outer s H E).nox (defBody st) (lfs K t) ∧ ∀ ds R, m ds R → t (eR R) (ds.map SV.d ++ bl (N.length - ds.length))) : Kd P w K mg base (k + 1) x ps (spP K m) := by
  obtain ⟨fd, F⟩ := D.ex
  exact ⟨f, fd, ok_pure F S hm hbody, D.gl, F.kp, F.bindsN B⟩
theorem kd_io {x : Str} {st : Stmt} {N ps : List Str} {k : Nat} {m : IM} {f : Addr} (D : Df K mg x st f) (B : BndOk x st ps) (S : FnScope N ps (defScope st)) (hm : ∀ cs ds R, m cs ds R → ds.length + 1 = ps.length)
    (hbody : ∀ (cdv : Value) (A : Around) (outer : List Env) (s : Shared) (H : Hp) (E : XK), CodeOf K f cdv → Room k (A.deeper (envOfC x (defScope st) s.heap.objs.size f cdv)) →
      ∃ t, PSs (cxOf CX0 P w K mg base N x (defScope st) f cdv A outer s H E).nox (defBody st) (lfs K t) ∧ ∀ cs ds R, m cs ds R → t (eI R) (.c true (.lst cs) :: (ds.map SV.d ++ bl (N.length - ds.length - 1)))) : Kd P w K mg base (k + 1) x ps (spI K m) := by
  obtain ⟨fd, F⟩ := D.ex
  exact ⟨f, fd, ok_io F S hm hbody, D.gl, F.kp, F.bindsN B⟩
end
section
variable {X : Cx} {pos : Pos} {a b c e o : Expr} {es : List Expr} {ta tb : DT} {tas : DTa}
theorem de_k {k : Nat} {ps : List Str} {x : Str} {p : Pos} {m : PM} (D : Kd X.prog X.w X.K X.mg X.base k x ps (spP X.K m)) (hr : Room k X.A) (hg : Gl X x) (ha : PA X (a :: es) (lftA X.K tas)) (hdb : (x == ("__debug__" : Str)) = false := by decide) (he : starEach (a :: es) X.env = (false, eval a X.env) :: starEach es X.env := by rfl)
    (hpl : (backTo pos (starEach es X.env)).any (·.1) = false := by rfl) : PE X (.Call (.Name x p) (a :: es) [] pos) (lft X.K (tCallP m tas)) := by
  obtain ⟨f, fd, F, g, k, B⟩ := D.ex
  exact de_call F hr hg g k B ha hdb he hpl
theorem de_ki {k i : Nat} {ps : List Str} {x : Str} {p : Pos} {m : IM} (D : Kd X.prog X.w X.K X.mg X.base k x ps (spI X.K m)) (hr : Room k X.A) (hg : Gl X x) (ho : PE X o (tVar i)) (ha : PA X es (lftA X.K tas)) (hdb : (x == ("__debug__" : Str)) = false := by decide) (he : starEach (o :: es) X.env = (false, eval o X.env) :: starEach es X.env := by rfl)
    (hpl : (backTo pos (starEach es X.env)).any (·.1) = false := by rfl) : PE X (.Call (.Name x p) (o :: es) [] pos) (lft X.K (tCallI m i tas)) := by
  obtain ⟨f, fd, F, g, k, B⟩ := D.ex
  exact de_calli F hr hg g k B ho ha hdb he hpl
/-! ### the law's first row -/
theorem pe_frzL {t : TE} (h : PE X e t) : PE X e (fun σ H Q => t σ H fun v H' => ∃ p xs, v = .ref p ∧ H' p = some (.lst xs) ∧ ∀ o, Q v (upd H' p (.frz o (.lst xs)))) := by
  refine ⟨fun pins s σ H Q I q => thn (h.run pins s σ H _ I q) fun u s1 ⟨v, H1, I1, r1, p, xs, ev, hp, q1⟩ => ?_⟩
  obtain ⟨o, I2⟩ := inv_frz I1 hp
  exact ⟨v, _, I2, r1, q1 o⟩
/-- state = [list(script), 0, 0, 1] -/
def lfs0 (K : PySem.W.Frag) (i : Nat) (ns : List Int) : TS := fun D σ H => ∃ Γ, (∃ a, σ[0]? = some (some (.ref a)) ∧ SqL K H a (ns.map V.int)) ∧ Ok K Γ σ H ∧ Γ[i]? = some .no ∧
  ∀ Γ' σ' H', Γ' = Γ.set i (.c false (.lst [.list (ns.map .int), .int 0, .int 0, .int 1])) → Ok K Γ' σ' H' → Sx Γ σ H Γ' σ' H' → D.nx σ' H'
theorem ints_pd {K : PySem.W.Frag} {H : Hp} : ∀ ns : List Int, PdAll K H (ns.map .int) (ns.map V.int)
  | [] => .nil
  | n :: ns => .cons (.int n) (ints_pd ns)
theorem ds_state {i : Nat} {x : Str} {px p1 p2 p3 p4 p5 p6 pl : Pos} {j1 j2 j3 : Nat} {sc : Expr} {ns : List Int} (hN : X.N.Nodup) (hi : X.N[i]? = some x) (hx : Loc X.env.scope x) (hl : X.mg "list" = none) (hgl : Gl X "list") (hsc : PE X sc (tVar 0))
    (hs : swapsWith (.List [.Call (.Name "list" p1) [sc] [] p2, .Constant (.int 0) j1 p3, .Constant (.int 0) j2 p4, .Constant (.int 1) j3 p5] p6) (some (.Name x px)) pl.line X.env = pure false := by rfl)
    (hf : X.fn x = true ∨ X.env.scope.names.lookup x = some .local := by first | exact .inl rfl | exact .inr rfl | assumption)
    (he : starEach [sc] X.env = (false, eval sc X.env) :: starEach [] X.env := by rfl) (hpl : (backTo p2 (starEach [] X.env)).any (·.1) = false := by rfl)
    (h1 : starEach [.Call (.Name "list" p1) [sc] [] p2, .Constant (.int 0) j1 p3, .Constant (.int 0) j2 p4, .Constant (.int 1) j3 p5] X.env = (false, eval (.Call (.Name "list" p1) [sc] [] p2) X.env) :: starEach [.Constant (.int 0) j1 p3, .Constant (.int 0) j2 p4, .Constant (.int 1) j3 p5] X.env := by rfl) :
    PS X (.Assign [.Name x px] (.List [.Call (.Name "list" p1) [sc] [] p2, .Constant (.int 0) j1 p3, .Constant (.int 0) j2 p4, .Constant (.int 1) j3 p5] p6) pl) (lfs0 X.K i ns) := by
  have hp := ps_set (i := i) hN hi hx (pe_lst (pa_cons (pe_frzL (pe_callTy call_list_of hgl hl (by decide +kernel) (pa_cons hsc pa_nil he) (he := he) (hpl := hpl))) (pa_cons pe_int (pa_cons pe_int (pa_cons pe_int pa_nil))) h1)) hs hf
  refine ps_wk hp fun D σ H ⟨Γ, ⟨a, ha, sq⟩, ok, hi, hQ⟩ => ?_
  refine ⟨_, ha, a, _, rfl, .inl sq, fun l hl => ⟨l, _, rfl, upd_same, fun o => ⟨by show 4 ≤ sizeLine; decide, fun p hp => ?_⟩⟩⟩
  have sm1 : Same H (upd (upd H l (.lst (ns.map V.int))) l (.frz o (.lst (ns.map V.int)))) := by rw [upd_upd]; exact same_fresh hl
  have sm2 := same_fresh (o := .lst [V.ref l, .int 0, .int 0, .int 1]) hp
  have sm := sm1.trans sm2
  have h0 : H p = none := sm1.free hp
  have ep : l ≠ p := fun z => by subst z; rw [upd_same] at hp; cases hp
  refine hQ _ _ _ rfl ?_ ?_
  all_goals have z := store_f (i := i) (c := .lst [.list (ns.map .int), .int 0, .int 0, .int 1]) (p := p) ok (ok.new sm) ⟨_, upd_same, .cons (.lst ⟨o, by rw [upd_ne ep, upd_same]⟩ (ints_pd ns)) (.cons (.int 0) (.cons (.int 0) (.cons (.int 1) .nil)))⟩ h0 hi (fun c z => by cases z) (.new sm)
  · exact z.1
  · exact z.2
end
section
variable {P : Program} {w : World} {K : PySem.W.Frag} {mg : Str → Option Value} {base : Heap}
def spLaw (K : PySem.W.Frag) : Sp := fun vs H Q _ => ∃ (a : Addr) (ns : List Int), vs = [.ref a] ∧ SqL K H a (ns.map V.int) ∧ ns.length ≤ 63 ∧ (∀ z ∈ ns, Builtin.Int.intBits z ≤ 1048576) ∧ (∀ P ∈ TabP.ps, TbOk H P) ∧ ∀ H', Q (.bl true) H'
theorem fn_law {st s0 : Stmt} {rest : List Stmt} {N : List Str} {k i : Nat} {f : Addr} {b : DS} (Hb : Heap → Prop) (D : Df K mg "law" st f) (B : BndOk "law" st ["script"]) (S : FnScope N ["script"] (defScope st)) (hb : defBody st = s0 :: rest) (hi : 0 < i) (hi2 : i < N.length)
    (hbody : ∀ (base : Heap), Hb base → ∀ (cdv : Value) (A : Around) (outer : List Env) (s : Shared) (H : Hp) (E : XK), CodeOf K f cdv → Room k (A.deeper (envOfC "law" (defScope st) s.heap.objs.size f cdv)) →
      (∀ ns, PS (cxOf CX0 P w K mg base N "law" (defScope st) f cdv A outer s H E).nox s0 (lfs0 K i ns)) ∧ PSs (cxOf CX0 P w K mg base N "law" (defScope st) f cdv A outer s H E).nox rest (lfs K b))
    (hm : ∀ ns : List Int, ns.length ≤ 63 → (∀ z ∈ ns, Builtin.Int.intBits z ≤ 1048576) → b (eR fun d => d = .bool true) ((bl N.length).set i (.c false (.lst [.list (ns.map .int), .int 0, .int 0, .int 1])))) :
    ∃ fd : FuncData, (∀ (s : Shared) (v : Value), BindsTo s fd ⟨[v], []⟩ [("script", v)]) ∧ ∀ base, Hb base → FnOk P w K mg base CX0 (k + 1) f fd ["script"] (spLaw K) := by
  obtain ⟨fd, F⟩ := D.ex
  refine ⟨fd, fun s v => FunD.bindsA (ps := ["script"]) F B s [v] rfl, fun base hbase => ?_⟩
  have hN : 1 ≤ N.length := by omega
  obtain ⟨oc, od, dV, kV, doc, pm, an, cd0, ct, osl, rfl, lk, hcd, _, _⟩ := F.ex
  refine fn_of lk hcd S (fun vs H Q E ⟨a, ns, e, _⟩ => by rw [e]; rfl) (fun A outer s H vs Q E hr ⟨a, ns, e, sq, hl, hbits, ht, q⟩ => ?_)
  subst e
  obtain ⟨d0, d1⟩ := hbody base hbase cd0 A outer s H E ⟨_, _, _, _, lk, rfl⟩ hr
  have hl0 : (L2.start N [V.ref a]).length = N.length := by
    unfold L2.start
    rw [List.length_append, List.length_replicate]
    show 1 + (N.length - 1) = N.length
    omega
  have nob : ∀ (j : Nat) (sv : SV), (bl N.length)[j]? = some sv → sv = .no := fun j sv e => (List.mem_replicate.mp (List.mem_of_getElem? e)).2
  have ok0 : Ok K (bl N.length) (L2.start N [V.ref a]) H := ⟨by rw [hl0]; unfold bl; rw [List.length_replicate], fun j x e => (nomatch nob j _ e), fun j b c e => (nomatch nob j _ e), fun j _ _ _ _ _ _ e => (nomatch nob j _ e), ht⟩
  refine ⟨tSeq (lfs0 K i ns) (lfs K b), by rw [hb]; exact (pss_cons (d0 ns) d1).nox, bl N.length, ⟨a, rfl, sq⟩, ok0, by unfold bl; rw [List.getElem?_replicate]; simp [hi2], fun Γ' σ' H' e ok' sx => ?_⟩
  subst e
  exact ⟨_, eR fun d => d = .bool true, ok', hm ns hl hbits, fun _ _ _ z _ _ => (nomatch z), fun x _ _ v H2 z _ _ pd => by
    have z : x = .bool true := z
    subst z; cases pd; exact q _, fun _ _ _ z => z.elim, fun _ _ _ z => z.elim⟩
end
end DL
set_option Elab.async false
set_option linter.all false
set_option maxRecDepth 100000
set_option maxHeartbeats 4000000
/-! DL13: targets, named. -/
namespace DL
open PySem PySem.Spec PyProof.Rows L2
variable [TabP]
section
variable {X : Cx} {pos : Pos} {e : Expr} {es : List Expr}
theorem pgN {i : Nat} (h : PG X e (gName i)) : PG X e (Tg.t X.K (.nm i)) := by unfold Tg.t; exact h
theorem pgsN : PGs X [] (Tg.ts X.K []) := by unfold Tg.ts; exact pgs_nil
theorem pgsC {t : Tg} {ts : List Tg} (h1 : PG X e (Tg.t X.K t)) (h2 : PGs X es (Tg.ts X.K ts)) (hs : (assignEach (e :: es) X.env).map (·.2) = assign e X.env :: (assignEach es X.env).map (·.2) := by rfl) : PGs X (e :: es) (Tg.ts X.K (t :: ts)) := by unfold Tg.ts; exact pgs_cons h1 h2 hs
theorem pgT {k : Nat} {ts : List Tg} (hc : X.calm = true) (h : PGs X es (Tg.ts X.K ts)) (hn : (assignEach es X.env).length = ts.length := by rfl) (hst : (assignEach es X.env).findIdx? (·.1) = none := by rfl) : PG X (.Tuple es k pos) (Tg.t X.K (.tup ts)) := by
  unfold Tg.t
  exact ⟨fun pins s σ H v u Q I r hw => hw.elim ((pg_tup hc h hn hst).run pins s σ H v u Q I r) ((pg_lst hc h hn hst).run pins s σ H v u Q I r)⟩
end
end DL
set_option Elab.async false
set_option linter.all false
set_option maxRecDepth 100000
set_option maxHeartbeats 4000000
/-! DL14: readings, worked out. -/
namespace DL
open PySem PySem.Spec PyProof.Rows L2
theorem condP_t {A B : Prop} : condP true A B = A := by unfold condP; rfl
theorem condP_f {A B : Prop} : condP false A B = B := by unfold condP; rfl
theorem condP_dec {p : Prop} [Decidable p] {A B : Prop} : condP (decide p) A B ↔ (p → A) ∧ (¬p → B) := by
  by_cases h : p
  · rw [decide_eq_true h]; rw [condP_t]; exact ⟨fun a => ⟨fun _ => a, fun n => absurd h n⟩, fun a => a.1 h⟩
  · rw [decide_eq_false h]; rw [condP_f]; exact ⟨fun a => ⟨fun n => absurd n h, fun _ => a⟩, fun a => a.2 h⟩
theorem condP_beq {α : Type} [DecidableEq α] {a b : α} {A B : Prop} : condP (a == b) A B ↔ (a = b → A) ∧ (¬a = b → B) := by
  rw [show (a == b) = decide (a = b) from by by_cases h : a = b <;> simp [h]]
  exact condP_dec
theorem condP_not {b : Bool} {A B : Prop} : condP (!b) A B = condP b B A := by unfold condP; cases b <;> rfl
theorem condP_and {b c : Bool} {A B : Prop} : condP (b && c) A B = condP b (condP c A B) B := by unfold condP; cases b <;> rfl
theorem condP_or {b c : Bool} {A B : Prop} : condP (b || c) A B = condP b A (condP c A B) := by unfold condP; cases b <;> rfl
theorem condP_iff {b : Bool} {A B : Prop} : condP b A B ↔ (b = true → A) ∧ (b = false → B) := by cases b <;> simp [condP]
theorem eqv_int {i j : Int} : PyData.eqv (.int i) (.int j) = (i == j) := by unfold PyData.eqv; rfl
theorem eqv_str {i j : Str} : PyData.eqv (.str i) (.str j) = (i == j) := by unfold PyData.eqv; rfl
theorem eqv_bool {i j : Bool} : PyData.eqv (.bool i) (.bool j) = (i == j) := by unfold PyData.eqv; rfl
theorem shaped_int {i : Int} : SeqAt.shaped (.int i) = true := by
  unfold SeqAt.shaped PyData.canLay0 PyData.depth; rfl
theorem shaped_bool {i : Bool} : SeqAt.shaped (.bool i) = true := by
  unfold SeqAt.shaped PyData.canLay0 PyData.depth; rfl
theorem shaped_non : SeqAt.shaped .none = true := by
  unfold SeqAt.shaped PyData.canLay0 PyData.depth; rfl
theorem shaped_str {i : Str} : SeqAt.shaped (.str i) = PyData.strOk i := by
  unfold SeqAt.shaped PyData.canLay0 PyData.depth; simp
theorem atI_lt {α : Type} {xs : List α} {i : Int} (h0 : 0 ≤ i) (h1 : i < xs.length) : atI xs i = xs[i.toNat]? := by
  unfold atI ixN; rw [if_pos h0, if_pos h1]; rfl
theorem condP_ii {i j : Int} {A B : Prop} : condP (i == j) A B ↔ (i = j → A) ∧ (¬i = j → B) := condP_beq
theorem condP_tt {c : Bool} {A B : Prop} (h : c = true) (a : A) : condP c A B := by subst h; rw [condP_t]; exact a
theorem condP_ff {c : Bool} {A B : Prop} (h : c = false) (b : B) : condP c A B := by subst h; rw [condP_f]; exact b
theorem condP_by {c : Bool} {A B : Prop} (a : c = true → A) (b : c = false → B) : condP c A B := condP_iff.mpr ⟨a, b⟩
theorem cmulw {i j : Int} (a b : Nat) (h1 : i.natAbs < 2 ^ a) (h2 : j.natAbs < 2 ^ b) (h : a + b ≤ 1000000) (h0 : 0 < b := by decide) (h3 : 0 < a := by decide) : CMulW i j := by
  unfold CMulW
  have e1 : i.natAbs.log2 < a := by
    by_cases z : i.natAbs = 0
    · rw [z]; simpa using h3
    · exact (Nat.log2_lt z).mpr h1
  have e2 : j.natAbs.log2 < b := by
    by_cases z : j.natAbs = 0
    · rw [z]; simpa using h0
    · exact (Nat.log2_lt z).mpr h2
  omega
theorem cdivw {i j : Int} (h0 : 0 < j) (h : j.natAbs < 2 ^ 64) : CDivW i j := ⟨h0, by
  have : j.natAbs.log2 < 64 := (Nat.log2_lt (by omega)).mpr h
  omega⟩
theorem cpow {i j : Int} (h0 : 0 ≤ j) (h1 : j ≤ 1000000) (h2 : i.natAbs < 18446744073709551616) : CPow i j := ⟨h0, h1, h2⟩
theorem eqvb_int {i j : Int} {b : Bool} (h : PyData.eqv (.int i) (.int j) = b) : (i = j) = (b = true) := by rw [eqv_int] at h; subst h; simp
theorem eqvb_str {i j : Str} {b : Bool} (h : PyData.eqv (.str i) (.str j) = b) : (i = j) = (b = true) := by rw [eqv_str] at h; subst h; simp

end DL
set_option Elab.async false
set_option linter.all false
set_option maxRecDepth 100000
set_option maxHeartbeats 4000000
/-! DL15: the head's facts taken for the layer. -/
namespace DL
open PySem PySem.Spec PyProof.Rows L2
/-- a def of the top as the head's datum -/
def dfD (x : Str) (st : Stmt) : He.DefD := ⟨(x, none), x, x, defArgs st, defBody st, defScope st, [], []⟩
theorem df_of {K : PySem.W.Frag} {mg : Str → Option Value} {h : Heap} {fa : List He.Fa} {fn : List He.DefD} {x : Str} {st : Stmt} (X : K.In h) (G : h.Ns mainGlobals mg) (c : He.SaysD fa fn K) (h1 : He.Fa.glo x ∈ fa) (h2 : dfD x st ∈ fn) : Df K mg x st (He.ga K x) :=
  ⟨c.defs h2, He.glo_ok X G (c.facts h1)⟩
theorem free_of {K : PySem.W.Frag} {mg : Str → Option Value} {h : Heap} {fa : List He.Fa} {fn : List He.DefD} {x : Str} (X : K.In h) (G : h.Ns mainGlobals mg) (c : He.SaysD fa fn K) (h1 : He.Fa.free x ∈ fa) : mg x = none := He.free_ok X G (c.facts h1)
theorem int_of {K : PySem.W.Frag} {mg : Str → Option Value} {h : Heap} {fa : List He.Fa} {fn : List He.DefD} {x : Str} {i : Int} (X : K.In h) (G : h.Ns mainGlobals mg) (c : He.SaysD fa fn K) (h1 : He.Fa.int x i ∈ fa) : ∃ t, mg x = some (.int i t) := He.int_ok X G (c.facts h1)
/-- no promise at all -/
theorem kd_none {P : Program} {w : World} {K : PySem.W.Frag} {mg : Str → Option Value} {base : Heap} {x : Str} {st : Stmt} {ps : List Str} {k : Nat} {f : Addr} [TabP] (D : Df K mg x st f) (B : BndOk x st ps) : Kd P w K mg base k x ps (spP K fun _ _ => False) := by
  obtain ⟨fd, F⟩ := D.ex
  exact ⟨f, fd, ⟨fun vs H Q E ⟨_, _, _, _, z, _⟩ => z.elim, fun A outer s H args us vs Q E _ _ _ _ ⟨_, _, _, _, z, _⟩ => z.elim⟩, D.gl, F.kp, F.bindsN B⟩

/-- a law's end over a head by facts -/
theorem end_law {l : PySem.W.OpenLaw} {q : Program} {loose : List Str} {XP : (Str → Option Value) → Heap → Prop} {d : DefRec} {nH k : Nat} {fa : List He.Fa} {fn : List He.DefD} {tf : List He.Defn} {tl : List (He.Defn × Str)} {ex : PySem.W.Frag → Bool}
    (htl : ∀ x ∈ tl, x.1 ∈ tf) (hn : l.most = some 63) (hdf : d.params.defaults = []) (hname : d.name = ("law" : Str)) (hr : Room k callerA) (hlaw : He.Fa.glo "law" ∈ fa)
    (F : ∀ (w : World) (K : PySem.W.Frag) (mg : Str → Option Value) (h : Heap), K.In h → h.Ns mainGlobals mg → He.SaysX fa fn [] tf ex w h K → ∀ (inst : TabP), inst.ps = tf.map (fun p => (He.cT K p).2) → inst.ls = tl.map (fun x => ((He.cT K x.1).2, x.2)) →
      ∃ fd : FuncData, (∀ (s : Shared) (v : Value), BindsTo s fd ⟨[v], []⟩ [("script", v)]) ∧ ∀ base, (K.In base ∧ base.Ns mainGlobals mg ∧ ∀ p ∈ tf, GxR.TabB base mg (He.cT K p).1 (He.cT K p).2) → FnOk l.prog w K mg base CX0 k (He.ga K "law") fd ["script"] (spLaw K)) :
    PySem.W.WalkO q loose XP (He.hookX nH fa fn [] tf ex).says l.row.toRowW d [] (fun f vs => PySem.call f vs) := by
  refine LamX.walk_ofTsE (n := 63) (k := k) (x := "script") (CX := fun _ => CX0) hn (by decide) hdf hr (fun w mg f h Y G hmg => ?_) fun _ _ _ _ _ z => z
  obtain ⟨K, KX, c⟩ := Y
  rw [hname] at hmg
  have e := hmg.symm.trans (He.glo_ok KX G (c.t.d.facts hlaw))
  cases e
  let inst : TabP := ⟨tf.map fun p => (He.cT K p).2, tl.map fun x => ((He.cT K x.1).2, x.2)⟩
  obtain ⟨fd, hb, hF⟩ := F w K mg h KX G c inst rfl rfl
  refine ⟨K, KX, fd, tf.map (He.cT K), spLaw K, fun p hp => ?_, fun p hp => ?_, fun p hp => ?_, hb, fun H a ns hl hbits hH hS => ⟨a, ns, rfl, hS, hl, hbits, fun P hP => ?_, fun _ => rfl⟩, fun base b1 b2 b3 => hF base ⟨b1, b2, fun p hp => ?_⟩⟩
  · obtain ⟨p, hp2, rfl⟩ := List.mem_map.mp hp
    exact c.empty p hp2
  · obtain ⟨p, hp2, rfl⟩ := List.mem_map.mp hp
    exact c.out p hp2
  · obtain ⟨p, hp2, rfl⟩ := List.mem_map.mp hp
    exact PySem.W.codeHd_of_K KX (c.hd p hp2)
  · obtain ⟨p, hp, rfl⟩ := List.mem_map.mp hP
    exact ⟨⟨#[], hH _ (List.mem_map.mpr ⟨p, hp, rfl⟩), trivial⟩, fun q m => LamX.TabS.nil (hH _ (List.mem_map.mpr ⟨p, hp, rfl⟩))⟩
  · have t := b3 _ (List.mem_map.mpr ⟨p, hp, rfl⟩)
    exact ⟨t.code, t.bm, t.gP⟩
end DL
set_option Elab.async false
set_option linter.all false
set_option maxRecDepth 100000
set_option maxHeartbeats 4000000
/-! DL16: a lambda of one parameter: made, called. -/
namespace DL
open PySem PySem.Spec PyProof.Rows L2
/-- the one parameter is bound -/
def LamB (qual x : Str) (params : Arguments) (body : Expr) (scope : Scope) : Prop := ∀ (pm cdv ctv u : Value), bindArgs (PySem.W.kla_fn "<lambda>" qual params body scope [] pm cdv ctv) ⟨[u], []⟩ = pure [(x, u)]
/-- the lambda's object at f is called with u -/
theorem run_lam {CX : CXT} {P : Program} {w : World} {K : PySem.W.Frag} {mg : Str → Option Value} {base : Heap} {k : Nat} {f c' : Addr} {qual x : Str} {params : Arguments} {body : Expr} {scope : Scope} {pm ctv : Value} {N : List Str}
    (S : FnScope N [x] scope) (hbind : LamB qual x params body scope) {A : Around} {outer : List Env} {s : Shared} {H : Hp} {u : Value} {v : V} {Q : VK} {E : XK} {tb : TE} (hr : Room (k + 1) A) (e0 : Env0 P w K mg base A outer s H)
    (hf : s.heap.get? f = some (PySem.W.kla_obj "<lambda>" qual params body scope [] pm c' ctv)) (hc : H c' = some (LamX.CodeO c' qual)) (r : RelV v u)
    (hbody : Room k (A.deeper (envOfC qual scope s.heap.objs.size f (.ref c'))) → PE (cxOf CX P w K mg base N qual scope f (.ref c') A outer s H E) body tb) (h : tb (L2.start N [v]) H Q) :
    codeAny (model P w) A (.call (.ref f) ⟨[u], []⟩) (CR CX outer P w H s Q E) s := by
  have lim : s.heap.NoLimit := e0.mod.nolimit.keeps fun b o e => (e0.bs b o e).1
  obtain ⟨⟨oc, vs, t, hoc, hdc, hvc⟩, _, _⟩ := e0.hok c' _ hc
  have hkind : ∀ y ∈ [x].zip [u], scope.names.lookup y.1 = some .local ∨ (scope.names.lookup y.1 = some .cell ∧ ((cellsFrom (s.heap.objs.size + 1) scope.names []).lookup y.1).isSome = true) := fun ⟨n, v⟩ hy => by
    rcases S.par n (List.of_mem_zip hy).1 with q | q
    · exact .inl q
    · exact .inr ⟨q, PySem.W.cellsFrom_some _ _ _ (.inl q)⟩
  refine PySem.W.kla_callFunE hr.depth hf rfl S.co S.gen rfl ⟨c', oc, vs, t, rfl, hoc, hdc, hvc⟩ ?_
  rw [hbind pm (.ref c') ctv u]
  refine wpAny_pure (wpAny_newFunctionEnv_cells S.kind hkind fun env he s1 xx => ?_)
  subst he
  refine ⟨lim.keeps xx.toInCall.keep, PySem.W.kla_codeExpr ?_⟩
  have I : Inv (cxOf CX P w K mg base N qual scope f (.ref c') A outer s H E) [] (L2.start N [v]) H s1 := inv_start S hr.hd e0 rfl (.cons r .nil) xx
  refine wpAny_mono ((hbody (hr.deeper _)).run [] s1 (L2.start N [v]) H _ I h) (fun u' s' hs => ?_) fun e s' hs => hs
  obtain ⟨v', H', J, rv, q⟩ := hs
  exact ⟨v', H', J.os, J.bare, J.base, J.hok, rv, q⟩
/-- H1 is H but for the table at P, which has grown, and new things -/
structure Grown (P : Addr) (q : Str) (H H1 : Hp) : Prop where
  old : ∀ b o, H b = some o → b ≠ P → H1 b = some o
  dom : ∀ b, H1 b = none → H b = none
  tab : LamX.TabS H1 P q
section
variable {X : Cx} {pins : List (Addr × Obj)} {σ : L2.St} {H : Hp} {s : Shared}
theorem clo_nil {scope : Scope} (h : ∀ y ∈ scope.names, y.2 ≠ .free) (env : Env) : closureFor scope env = pure [] := by
  have : cloFrom env.cells scope.names [] = [] := by
    have go : ∀ (ns : List (Str × NameKind)) (acc : List (Str × Addr)), (∀ y ∈ ns, y.2 ≠ .free) → cloFrom env.cells ns acc = acc.reverse ∨ cloFrom env.cells ns acc = acc := by
      intro ns
      induction ns with
      | nil => intro acc _; unfold cloFrom; first | exact .inl rfl | exact .inr rfl
      | cons y ns ih =>
        intro acc hy
        have := ih acc fun z hz => hy z (List.mem_cons_of_mem _ hz)
        obtain ⟨n, k⟩ := y
        have hk := hy (n, k) List.mem_cons_self
        unfold cloFrom
        cases k <;> first | exact this | exact absurd rfl hk
    rcases go scope.names [] h with e | e <;> exact e
  have z := closure_ok (env := env) (scope := scope) fun y hy e => absurd e (h y hy)
  rw [this] at z
  exact z

theorem size_nofr (I : Inv X pins σ H s) {f : Addr} (hf : s.heap.objs.size ≤ f) : f ∉ frs X.stack := fun z => by
  rcases List.mem_cons.mp (I.stkSub _ z) with e | e
  · have := I.lt
    rw [← e] at this
    exact Nat.lt_irrefl _ (Nat.lt_of_lt_of_le this hf)
  · exact I.nofs hf e
/-- the lambda's value: a new function object, its code object new or found -/
theorem lam_make3 {c P : Addr} {params : Arguments} {body : Expr} {scope : Scope} {pos : Pos} {E : Value → Shared → Prop} {Q : Value → Shared → Prop} (I : Inv X pins σ H s) (TB : GxR.TabB X.base X.mg c P) (hcode : X.env.code = .ref c)
    (hT : LamX.TabS H P (X.env.qual ++ "<lambda>")) (hdef : defaultsOf params X.env = ([], [])) (hfree : ∀ y ∈ scope.names, y.2 ≠ .free)
    (h : ∀ (f c' : Addr) (pm ctv : Value) (H1 : Hp) (s' : Shared), Inv X pins σ H1 s' → Grown P (X.env.qual ++ "<lambda>") H H1 → s'.heap.get? f = some (PySem.W.kla_obj "<lambda>" (X.env.qual ++ "<lambda>") params body scope [] pm c' ctv) → H1 f = none → f ∉ frs X.stack → f ≠ X.env.locals → f ∉ X.fs →
      H1 c' = some (LamX.CodeO c' (X.env.qual ++ "<lambda>")) → Q (.ref f) s') : wpAny (model X.prog X.w) X.A (eval (.Lambda params body scope pos) X.env) Q E s := by
  obtain ⟨ps, hP, ht, ha⟩ := hT
  have cl := clo_nil hfree X.env
  have bP : s.heap.BuiltinsAt X.mg P := TB.bm.keeps I.bk
  have cP := TB.code.keeps I.bk
  have gl : s.heap.Ns mainGlobals X.mg := I.mod.glob.keeps I.bk
  have oP : s.heap.get? P = some { cls := .none, data := .fields ps } := I.hok P _ hP
  have big : ∀ {f : Addr}, s.heap.objs.size ≤ f → f ∉ frs X.stack ∧ f ≠ X.env.locals ∧ f ∉ X.fs := fun {f} hf => ⟨size_nofr I hf, fun z => by have := I.lt; rw [← z] at this; exact Nat.lt_irrefl _ (Nat.lt_of_lt_of_le this hf), I.nofs hf⟩
  refine PySem.W.kla_eval hdef ?_
  cases hc : codeAmong pos ps.toList with
  | some cv =>
    obtain ⟨c', rfl, hco⟩ := ha pos cv hc
    refine PySem.W.kla_makeFunctionHit (c := c) (P := P) (ps := ps) cl I.ok.glob gl hcode cP oP ht hc bP fun ctv h' tk hx hsz => ?_
    obtain ⟨b1, b2, b3⟩ := big hsz
    exact h h'.objs.size c' _ ctv H _ (I.kept fun b o e => Heap.get?_push_of_some _ (hx b o e)) ⟨fun _ _ e _ => e, fun _ e => e, ps, hP, ht, ha⟩ (Heap.get?_push_size _ rfl) (I.hok.fresh hsz) b1 b2 b3 hco
  | none =>
    refine PySem.W.kla_makeFunction (c := c) (P := P) (ps := ps) cl I.ok.glob gl hcode cP oP ht hc TB.gP bP fun c' ctv h' tk hx hge hlt hrec htb => ?_
    obtain ⟨c2, oc, vs, t, e2, hoc, hd, hv⟩ := hrec
    cases e2
    have nC : H c' = none := I.hok.fresh hge
    have nF : s.heap.objs.size ≤ h'.objs.size := by omega
    obtain ⟨b1, b2, b3⟩ := big nF
    have nP : P ≠ c' := fun z => by rw [z, nC] at hP; cases hP
    have fP : h'.objs.size ≠ P := fun z => by
      have := Heap.lt_size oP
      rw [← z] at this
      exact Nat.lt_irrefl _ (Nat.lt_of_lt_of_le this nF)
    refine h h'.objs.size c' _ ctv _ _ (LamX.inv_table (t' := tk) (more := #[rawInt pos.line, rawInt pos.col, .ref c']) (h' := h'.push (PySem.W.kla_obj "<lambda>" (X.env.qual ++ "<lambda>") params body scope [] ((X.mg "__name__").getD .none) c' ctv)) I hP
      (fun b o hb e => Heap.get?_push_of_some _ (hx b o hb e)) (Heap.get?_push_of_some _ htb) hge ⟨oc, vs, t, Heap.get?_push_of_some _ hoc, hd, hv⟩) ⟨fun b o e hb => ?_, fun b e => ?_, ?_⟩ (Heap.get?_push_size _ rfl) ?_ b1 b2 b3 upd_same
    · rw [upd_ne (ne_of_none e nC), upd_ne hb]; exact e
    · by_cases z : b = c'
      · rw [z]; exact nC
      · rw [upd_ne z] at e
        by_cases z2 : b = P
        · rw [z2, upd_same] at e; cases e
        · rw [upd_ne z2] at e; exact e
    · have eL : (ps ++ #[rawInt pos.line, rawInt pos.col, .ref c']).toList = ps.toList ++ [rawInt pos.line, rawInt pos.col, .ref c'] := by simp
      refine ⟨_, by rw [upd_ne nP, upd_same], by rw [eL]; exact PySem.TriplesOk_snoc _ _ _ _ ht, fun p' cv hcv => ?_⟩
      rw [eL] at hcv
      rcases LamX.among_app _ ht hcv with z | z
      · obtain ⟨c0, e1, e2⟩ := ha p' cv z
        have n0 : c0 ≠ P := fun y => by rw [y, hP] at e2; exact LamX.codeO_ne ps (Option.some.inj e2).symm
        exact ⟨c0, e1, by rw [upd_ne (ne_of_none e2 nC), upd_ne n0]; exact e2⟩
      · exact ⟨c', z, upd_same⟩
    · rw [upd_ne (Nat.ne_of_gt hlt), upd_ne fP]
      exact I.hok.fresh nF
end
end DL
set_option Elab.async false
set_option linter.all false
set_option maxRecDepth 100000
set_option maxHeartbeats 4000000
/-! DL17: sorted by a lambda's keys: the run. -/
namespace DL
open PySem PySem.Spec PyProof.Rows L2
variable [TabP]
section
variable {X : Cx} {pins : List (Addr × Obj)} {σ : L2.St} {H H' : Hp} {s : Shared}
/-- b is a place that came behind the state s -/
structure NewP (X : Cx) (pins : List (Addr × Obj)) (s : Shared) (b : Addr) : Prop where
  st : X.s_0.heap.objs.size ≤ b
  lo : b ≠ X.env.locals
  ce : ∀ x c, X.env.cells.lookup x = some c → c ≠ b
  pi : ∀ p ∈ X.pn ++ pins, p.1 ≠ b
  fs : b ∉ X.fs
  fr : b ∉ frs X.stack
theorem newP (I : Inv X pins σ H s) {b : Addr} (h : s.heap.objs.size ≤ b) : NewP X pins s b := by
  have lt : ∀ {a : Addr}, a < s.heap.objs.size → a ≠ b := fun q z => by rw [z] at q; exact Nat.lt_irrefl _ (Nat.lt_of_lt_of_le q h)
  exact ⟨Nat.le_trans I.sz h, (lt I.lt).symm, fun x c e => let ⟨v, o, ho, _⟩ := I.cell x c e; lt (Heap.lt_size ho), fun p hp => lt (Heap.lt_size (I.pin p hp).1), I.nofs h, size_nofr I h⟩
/-- untracked objects at new places are written -/
theorem inv_new {s0 : Shared} {h' : Heap} {t' : Nat} {ch : List Addr} (I : Inv X pins σ H s) (hch : ∀ b ∈ ch, NewP X pins s0 b ∧ H b = none) (k : ∀ b o, b ∉ ch → s.heap.get? b = some o → h'.get? b = some o) : Inv X pins σ H { s with heap := h', toks := t' } := by
  have no : ∀ {b u}, H b = some u → b ∉ ch := fun e z => by rw [(hch _ z).2] at e; cases e
  refine I.step (g' := s.gens) (d' := s.drawn) (ch := ch) (fun b z => ⟨.inr (hch b z).1.st, (hch b z).1.lo, (hch b z).1.ce, (hch b z).1.pi⟩) (fun b o _ _ n e _ => k b o n e) (fun b o _ _ n e _ => ⟨o.slots, k b o n e⟩) (fun _ _ _ _ n => n)
    (fun b o n e => ⟨o, k b o n e⟩) (fun _ _ e => e) (fun _ _ _ e => e) (fun b ps e => ⟨#[], by rw [e]; simp⟩) (fun m hm => ?_) (fun b u e => ?_) I.bare
  · obtain ⟨o, es, ep, ho, r⟩ := hm
    exact ⟨o, es, ep, k _ o (fun z => (hch _ z).1.lo rfl) ho, r⟩
  · refine (I.hok b u e).stay (fun c v hc q => k c v ?_ q) (fun _ q => q) fun _ _ q => q
    rcases hc with z | z
    · rw [z]; exact no e
    · exact no z
/-- an untracked list at a new place is taken in -/
theorem inv_take {s0 : Shared} {a : Addr} {o : HO} (I : Inv X pins σ H s) (ha : NewP X pins s0 a) (hn : H a = none) (new : ObjOk X.prog X.w (upd H a o) s.heap a o) : Inv X pins σ (upd H a o) s := by
  have ne : ∀ {b u}, H b = some u → b ≠ a := fun e z => by rw [z, hn] at e; cases e
  exact I.step (g' := s.gens) (d' := s.drawn) (t' := s.toks) (h' := s.heap) (ch := [a]) (fun b z => by rw [List.mem_singleton.mp z]; exact ⟨.inr ha.st, ha.lo, ha.ce, ha.pi⟩) (fun _ _ _ _ _ e _ => e) (fun b o _ _ _ e _ => ⟨o.slots, e⟩)
    (fun b o n _ z => by rw [upd_ne (fun y => n (by rw [y]; exact List.mem_singleton.mpr rfl))]; exact z) (fun b o _ e => ⟨o, e⟩) (fun b xs e => by rw [upd_ne (ne e)]; exact e) (fun b o u e => by rw [upd_ne (ne e)]; exact e) (fun b ps e => ⟨#[], by rw [upd_ne (ne e), e]; simp⟩) (fun m hm => hm)
    (I.hok.laidN (fun _ _ e => e) hn new) I.bare

theorem Sm.trans {H H1 H2 : Hp} (a : Sm H H1) (b : Sm H1 H2) : Sm H H2 := ⟨a.per.trans b.per, fun x e => a.dom x (b.dom x e), fun x o e t => b.fr x o (a.fr x o e t) t⟩
/-- what holds between two keys -/
structure KeyI (X : Cx) (pins : List (Addr × Obj)) (σ : L2.St) (H : Hp) (kS a f : Addr) (e1 : Nat) (fo : Obj) (c' : Addr) (q : Str) (kz : List PyData) (H1 : Hp) (kA : Array Value) (s' : Shared) : Prop where
  inv : Inv X pins σ H1 s'
  sm : Sm H H1
  ks : ∃ e, s'.heap.get? kS = some (seqObj "list" kA e)
  at_ : s'.heap.get? a = some (seqObj "list" #[] e1)
  fn : s'.heap.get? f = some fo
  nk : H1 kS = none
  na : H1 a = none
  nf : H1 f = none
  co : H1 c' = some (LamX.CodeO c' q)
  keys : ∃ vv, Vals vv kA.toList ∧ PdAll X.K H1 kz vv
theorem pdAll_snoc {K : PySem.W.Frag} {H : Hp} {d : PyData} {v : V} (h : Pd K H d v) : ∀ {ds : List PyData} {vs : List V}, PdAll K H ds vs → PdAll K H (ds ++ [d]) (vs ++ [v])
  | [], _, a => by cases a; exact .cons h .nil
  | _ :: _, _, a => by cases a with | cons p q => exact .cons p (pdAll_snoc h q)
theorem vals_snoc {v : V} {u : Value} (h : RelV v u) : ∀ {vs : List V} {us : List Value}, Vals vs us → Vals (vs ++ [v]) (us ++ [u])
  | _, _, .nil => .cons h .nil
  | _, _, .cons p q => .cons p (vals_snoc h q)
theorem vals_at : ∀ {vs : List V} {us : List Value} {i : Nat} {u : Value}, Vals vs us → us[i]? = some u → ∃ v, vs[i]? = some v ∧ RelV v u
  | _, _, _, _, .nil, e => by simp at e
  | _, _, 0, _, .cons p q, e => by cases e; exact ⟨_, rfl, p⟩
  | _, _, i + 1, _, .cons p q, e => by rw [List.getElem?_cons_succ] at e ⊢; exact vals_at q e
theorem pdAll_at {K : PySem.W.Frag} {H : Hp} : ∀ {ds : List PyData} {vs : List V} {i : Nat} {v : V}, PdAll K H ds vs → vs[i]? = some v → ∃ d, ds[i]? = some d ∧ Pd K H d v
  | _, _, _, _, .nil, e => by simp at e
  | _, _, 0, _, .cons p q, e => by cases e; exact ⟨_, rfl, p⟩
  | _, _, i + 1, _, .cons p q, e => by rw [List.getElem?_cons_succ] at e ⊢; exact pdAll_at q e
/-- data and values side by side -/
theorem each_of {K : PySem.W.Frag} {H : Hp} : ∀ {ds : List PyData} {vs : List V} {us : List Value}, PdAll K H ds vs → Vals vs us → PySem.W.EachIs (fun u d => ∃ v, RelV v u ∧ Pd K H d v) us ds
  | _, _, _, .nil, .nil => .nil
  | _, _, _, .cons p q, .cons a b => .cons ⟨_, a, p⟩ (each_of q b)
theorem of_each {K : PySem.W.Frag} {H : Hp} : ∀ {ds : List PyData} {us : List Value}, PySem.W.EachIs (fun u d => ∃ v, RelV v u ∧ Pd K H d v) us ds → ∃ vs, Vals vs us ∧ PdAll K H ds vs
  | _, _, .nil => ⟨[], .nil, .nil⟩
  | _, _, .cons ⟨v, a, p⟩ t => let ⟨vs, b, q⟩ := of_each t; ⟨v :: vs, .cons a b, .cons p q⟩
/-- the key of one item -/
theorem key_turn {k : Nat} {kS a f c' : Addr} {e1 : Nat} {qual x : Str} {params : Arguments} {body : Expr} {scope : Scope} {pm ctv : Value} {N : List Str} {tb : DT} {kz : List PyData} {H1 : Hp} {kA : Array Value} {A : Around} {s0 s1 : Shared} {d kd : PyData} {v : V} {u : Value}
    (S : FnScope N [x] scope) (hbind : LamB qual x params body scope) (hr : Room (k + 1) A) (hA : A.frames = X.A.frames)
    (hbody : ∀ (A : Around) (outer : List Env) (s : Shared) (H : Hp) (E : XK), Room k (A.deeper (envOfC qual scope s.heap.objs.size f (.ref c'))) → PE (cxOf CX0 X.prog X.w X.K X.mg X.base N qual scope f (.ref c') A outer s H E) body (lft X.K tb))
    (hm : tb (.d d :: bl (N.length - 1)) fun rv _ => rv = .d kd) (hN : 1 ≤ N.length) (ht : ∀ P ∈ TabP.ps, TbOk H P) (pd : Pd X.K H d v) (r : RelV v u)
    (nk : NewP X pins s0 kS) (na : NewP X pins s0 a) (nf : f ∉ frs X.stack)
    (I : KeyI X pins σ H kS a f e1 (PySem.W.kla_obj "<lambda>" qual params body scope [] pm c' ctv) c' qual kz H1 kA s1) {E : Value → Shared → Prop} {Q : Value → Shared → Prop}
    (hQ : ∀ w s2 H2, KeyI X pins σ H kS a f e1 (PySem.W.kla_obj "<lambda>" qual params body scope [] pm c' ctv) c' qual kz H2 kA s2 → (∃ vw, RelV vw w ∧ Pd X.K H2 kd vw) → Q w s2) :
    wpAny (model X.prog X.w) A (call (.ref f) [u]) Q E s1 := by
  obtain ⟨inv, sm, ⟨e, ks⟩, at_, fn, k1, k2, k3, co, keys⟩ := I
  have e0 := inv.env0
  have e0 : Env0 X.prog X.w X.K X.mg X.base A X.stack s1 H1 := ⟨hA.trans e0.frames, e0.mod, e0.bs, e0.bsz, e0.funs, e0.frf, e0.hok, e0.bare⟩
  have ok0 : Ok X.K (.d d :: bl (N.length - 1)) (L2.start N [v]) H1 := by
    have z := start_ok (K := X.K) (N := N) (ds := [d]) (vs := [v]) (H := H1) (fun P hP => sm.per.tab P (ht P hP)) (.cons (pd.mono sm.per) .nil) hN
    exact z
  have run := run_lam (CX := CX0) (Q := fun w H2 => Pd X.K H2 kd w ∧ Sm H1 H2) (E := E0) S hbind hr e0 fn co r (fun hr => hbody A X.stack s1 H1 E0 hr)
    ⟨_, _, ok0, hm, fun rv Γ' w H2 hrv ok2 ev2 rv2 => by
      subst hrv
      exact ⟨rv2, ev2.per, ev2.dom, fun b o e t => ev2.fr b o e t fun ⟨i, b', c, z, _⟩ => by
        cases i with
        | zero => cases z
        | succ i => rw [List.getElem?_cons_succ] at z; cases (List.mem_replicate.mp (List.mem_of_getElem? z)).2⟩⟩
  refine wpAny_call (codeAny_mono run fun res s2 hq => ?_)
  cases res with
  | error e => exact hq.elim
  | ok fl =>
    cases fl with
    | ret w =>
      obtain ⟨vw, H2, os, bare, un, hok, rv, pk, sm2⟩ := hq
      obtain ⟨hh, g, dd, t, os'⟩ := s2
      obtain rfl : os' = s1.os := os
      have kp : ∀ {b : Addr} {o : Obj}, s1.heap.get? b = some o → H1 b = none → b ∉ frs X.stack → hh.get? b = some o ∧ H2 b = none := fun q n hb => ⟨un.keep _ _ q n hb (by simp), un.free _ _ q n (by simp)⟩
      obtain ⟨vv, kv, kp2⟩ := keys
      exact hQ w _ H2 ⟨inv.call (h' := hh) (g' := g) (d' := dd) (t' := t) (ch := []) un hok bare (fun b z => absurd z (by simp)), sm.trans sm2, ⟨e, (kp ks k1 nk.fr).1⟩, (kp at_ k2 na.fr).1, (kp fn k3 nf).1, (kp ks k1 nk.fr).2, (kp at_ k2 na.fr).2, (kp fn k3 nf).2, sm2.fr _ _ co (LamX.codeO_ne), vv, kv, PdAll.mono sm2.per _ _ kp2⟩ ⟨vw, rv, pk⟩
    | next => exact hq.elim
    | brk => exact hq.elim
    | cont => exact hq.elim

open PySem.W in
/-- the run of list.sort by keys, from the list that sorted has copied -/
theorem sort_tree {k : Nat} {a f c' : Addr} {qual x : Str} {params : Arguments} {body : Expr} {scope : Scope} {pm ctv : Value} {N : List Str} {tb : DT} {A : Around} {s0 : Shared} {ds : List PyData} {key : PyData → PyData} {vv : List V} {vs : List Value} {n : Nat}
    (S : FnScope N [x] scope) (hbind : LamB qual x params body scope) (hr : Room (k + 1) A) (hA : A.frames = X.A.frames)
    (hbody : ∀ (A : Around) (outer : List Env) (s : Shared) (H : Hp) (E : XK), Room k (A.deeper (envOfC qual scope s.heap.objs.size f (.ref c'))) → PE (cxOf CX0 X.prog X.w X.K X.mg X.base N qual scope f (.ref c') A outer s H E) body (lft X.K tb))
    (hm : ∀ d ∈ ds, tb (.d d :: bl (N.length - 1)) fun rv _ => rv = .d (key d)) (hN : 1 ≤ N.length) (ht : ∀ P ∈ TabP.ps, TbOk H P) (pd : PdAll X.K H ds vv) (rv : Vals vv vs) (hL : vs.length ≤ sizeLine)
    (hal : AllAlike (ds.map key)) (hso : Sortable (ds.map key)) (hdp : ∀ d ∈ ds, (key d).depth ≤ 64)
    (I : Inv X pins σ H s) (na : NewP X pins s0 a) (hna : H a = none) (ho : s.heap.get? a = some (seqObj "list" vs.toArray n)) (hfa : f ≠ a) (hnf : f ∉ frs X.stack) (hfH : H f = none) (hf : s.heap.get? f = some (kla_obj "<lambda>" qual params body scope [] pm c' ctv)) (hc : H c' = some (LamX.CodeO c' qual))
    (hs0 : s0.heap.objs.size ≤ s.heap.objs.size) (hpi : ∀ b, s.heap.objs.size ≤ b → NewP X pins s0 b)
    {E : Value → Shared → Prop} {Q : PySem.Fin → Shared → Prop}
    (hQ : ∀ (H1 : Hp) (s' : Shared) (out : List Value) (c : Nat), Inv X pins σ H1 s' → Sm H H1 → H1 a = none → s'.heap.get? a = some (seqObj "list" out.toArray c) → (∃ ow, Vals ow out ∧ PdAll X.K H1 (ds.mergeSort (dataLe false key)) ow) → Q (.done (.ret .none)) s') :
    wpAny (model X.prog X.w) A (ksk_tree a (.ref f) false) Q E s := by
  have ha : a < s.heap.objs.size := Heap.lt_size ho
  obtain ⟨e1, ho1⟩ : ∃ e1, (s.heap.update a (Obj.mapSeq fun _ => (#[] : Array Value))).get? a = some (seqObj "list" #[] e1) := ⟨_, get?_update_seq ho fun _ => #[]⟩
  have sz1 : (s.heap.update a (Obj.mapSeq fun _ => (#[] : Array Value))).objs.size = s.heap.objs.size := Heap.size_update ..
  unfold ksk_tree
  refine wpAny_bind (listItems_at ho rfl ?_)
  refine wpAny_bind (listUpdate_at ho rfl ?_ (by rw [List.size_toArray]; exact hL) (Nat.zero_le _))
  refine wpAny_bind (seqEpoch_at ho1 rfl (wpAny_bind (wpAny_newTuple ?_ (by show vs.length ≤ _; exact hL))))
  refine wpAny_bind (wpAny_newList (wpAny_holding ?_) (Nat.zero_le _))
  have szT : ((s.heap.update a (Obj.mapSeq fun _ => (#[] : Array Value))).push (seqObj "tuple" vs.toArray 0)).objs.size = s.heap.objs.size + 1 := by rw [size_push', sz1]
  have kpA : ∀ b o, b ∉ [a] → s.heap.get? b = some o → (sortingHeap s.heap a vs).get? b = some o := fun b o hb q => sortingHeap_old (fun z => hb (by rw [z]; exact List.mem_singleton.mpr rfl)) q
  have oA : (sortingHeap s.heap a vs).get? a = some (seqObj "list" #[] e1) := Heap.get?_push_of_some _ (Heap.get?_push_of_some _ ho1)
  have oK : (sortingHeap s.heap a vs).get? ((s.heap.update a (Obj.mapSeq fun _ => (#[] : Array Value))).push (seqObj "tuple" vs.toArray 0)).objs.size = some (seqObj "list" #[] 0) := Heap.get?_push_size _ rfl
  have bigK : s.heap.objs.size ≤ ((s.heap.update a (Obj.mapSeq fun _ => (#[] : Array Value))).push (seqObj "tuple" vs.toArray 0)).objs.size := by rw [szT]; exact Nat.le_succ _
  show wpAny _ _ _ _ _ { s with heap := sortingHeap s.heap a vs }
  generalize ((s.heap.update a (Obj.mapSeq fun _ => (#[] : Array Value))).push (seqObj "tuple" vs.toArray 0)).objs.size = kS at *
  have nk := hpi kS bigK
  have hka : kS ≠ a := fun z => by rw [z] at bigK; exact Nat.lt_irrefl _ (Nat.lt_of_lt_of_le ha bigK)
  have hkf : f ≠ kS := fun z => by have := Heap.lt_size hf; rw [z] at this; exact Nat.lt_irrefl _ (Nat.lt_of_lt_of_le this bigK)
  have I2 : Inv X pins σ H { s with heap := sortingHeap s.heap a vs } := inv_new (t' := s.toks) (ch := [a]) I (fun b hb => by rw [List.mem_singleton.mp hb]; exact ⟨na, hna⟩) kpA
  have len : vv.length = vs.length := by
    have := rv.length; exact this
  have lds : ds.length = vv.length := pd.len
  unfold ksk_rest
  refine wpAny_bind (wpAny_rule ?_)
  rw [List.forIn_toArray]
  refine wpAny_bind (ksk_fold (fun i s' => ∃ H1 kA, KeyI X pins σ H kS a f e1 (kla_obj "<lambda>" qual params body scope [] pm c' ctv) c' qual ((ds.map key).take i) H1 kA s') vs 0 _
    ⟨H, #[], I2, ⟨.rfl, fun _ e => e, fun _ _ e _ => e⟩, ⟨0, oK⟩, oA, kpA f _ (fun z => hfa (List.mem_singleton.mp z)) hf, I.hok.fresh bigK, hna, hfH, hc, [], by show Vals [] ([] : List Value); exact .nil, by rw [List.take_zero]; exact .nil⟩ ?step ?done)
  case step =>
    rintro j u s' hu ⟨H1, kA, KI⟩
    rw [Nat.zero_add] at KI ⊢
    obtain ⟨v, hv, r⟩ := vals_at rv hu
    obtain ⟨d, hd, p⟩ := pdAll_at pd hv
    have hdm : d ∈ ds := List.mem_of_getElem? hd
    refine wpAny_bind (wpAny_attempt (key_turn S hbind hr hA hbody (hm d hdm) hN ht p r nk na hnf KI fun w s3 H3 K3 ⟨vw, rw', pw⟩ => ?_))
    obtain ⟨inv3, sm3, ⟨e, ks3⟩, at3, fn3, nk3, na3, nf3, co3, ww, wv, wp⟩ := K3
    have lw : kA.size = j := by
      have h1 := wv.length
      have h2 := wp.len
      rw [List.length_take, List.length_map] at h2
      have h3 := (List.getElem?_eq_some_iff.mp hd).1
      have h4 : kA.toList.length = kA.size := Array.length_toList
      have h5 : min j ds.length = j := Nat.min_eq_left (Nat.le_of_lt h3)
      rw [h5] at h2
      exact h4.symm.trans (h1.symm.trans h2.symm)
    have hj : j < vs.length := (List.getElem?_eq_some_iff.mp hu).1
    have s1 := Heap.SameBut.update s3.heap kS (Obj.mapSeq (·.push w))
    obtain ⟨c2, hc2⟩ : ∃ c2, (s3.heap.update kS (Obj.mapSeq (·.push w))).get? kS = some (seqObj "list" (kA.push w) c2) := ⟨_, get?_update_seq ks3 (·.push w)⟩
    refine wpAny_bind (listUpdate_at ks3 rfl (wpAny_pure ⟨rfl, H3, kA.push w, ?_⟩) (by omega) (by rw [Array.size_push]; omega))
    have kp3 : ∀ b o, b ∉ [kS] → s3.heap.get? b = some o → (s3.heap.update kS (Obj.mapSeq (·.push w))).get? b = some o := fun b o hb q => (s1.2 b fun z => hb (by rw [z]; exact List.mem_singleton.mpr rfl)).trans q
    refine ⟨inv_new (t' := s3.toks) (ch := [kS]) inv3 (fun b hb => by rw [List.mem_singleton.mp hb]; exact ⟨nk, nk3⟩) kp3, sm3, ⟨c2, hc2⟩, kp3 _ _ (fun z => hka (List.mem_singleton.mp z).symm) at3, kp3 _ _ (fun z => hkf (List.mem_singleton.mp z)) fn3, nk3, na3, nf3, co3, ww ++ [vw], ?_, ?_⟩
    · rw [show (kA.push w).toList = kA.toList ++ [w] from by simp]
      exact vals_snoc rw' wv
    · rw [show (ds.map key).take (j + 1) = (ds.map key).take j ++ [key d] from by rw [List.take_add_one, List.getElem?_map, hd]; rfl]
      exact pdAll_snoc pw wp
  case done =>
    rintro s' ⟨H1, kA, inv3, sm3, ⟨e, ks3⟩, at3, fn3, nk3, na3, nf3, co3, ww, wv, wp⟩
    rw [Nat.zero_add, List.take_of_length_le (by rw [List.length_map]; omega)] at wp
    have lk : kA.toList.length = vs.length := by
      have h1 := wv.length
      have h2 := wp.len
      rw [List.length_map] at h2
      exact h1.symm.trans (h2.symm.trans (lds.trans len))
    have rd : EachIs (fun u d => ∃ as, Reads s'.heap u d as) kA.toList (ds.map key) := (each_of wp wv).mono fun u d ⟨v, r, p⟩ => Dp.reads inv3 d v u (Pd.dp _ _ p) r
    have hid : ∀ {b : Addr} {o : Obj}, s'.heap.get? b = some o → b ∉ [kS] → (hideAll s'.heap [kS]).get? b = some o := fun q n => hideAll_get [kS] q n
    refine wpAny_bind (listItems_at ks3 rfl ?_)
    refine keyH_end (κ := dataKind s'.heap (ds.map key)) (b := false) (h₁ := hideAll s'.heap [kS]) (fun b o _ q => of_hideAll [kS] q) (hideAll_none [kS] (List.mem_singleton.mpr rfl)) ks3 at3 (fun z => hka z) (SortsAt.data rd hal hso fun d hd => ?_) (by rw [← Array.length_toList]; exact lk) hL fun h' tk c kp ha' => ?_
    · obtain ⟨x, hx, rfl⟩ := List.mem_map.mp hd
      have := hdp x hx
      have := hr.units
      omega
    · have kp4 : ∀ b o, b ∉ [kS, a] → s'.heap.get? b = some o → h'.get? b = some o := fun b o hb q => kp b o (fun z => hb (by simp [z])) (hid q fun z => hb (by rw [List.mem_singleton.mp z]; simp))
      have I4 := inv_new (t' := tk) (ch := [kS, a]) inv3 (fun b hb => by
        rcases List.mem_cons.mp hb with z | z
        · rw [z]; exact ⟨nk, nk3⟩
        · rw [List.mem_singleton.mp z]; exact ⟨na, na3⟩) kp4
      have ko : KeyedOut false (ds.map key) vs (sortVals (dataKind s'.heap (ds.map key)) false kA.toList vs) := ⟨s'.heap, kA.toList, hal, rfl, rd⟩
      obtain ⟨ow, o1, o2⟩ := of_each (keyedOut_each key ko (each_of (PdAll.mono sm3.per _ _ pd) rv))
      exact hQ H1 _ _ c I4 sm3 na3 ha' ⟨ow, o1, o2⟩
end
end DL
set_option Elab.async false
set_option linter.all false
set_option maxRecDepth 100000
set_option maxHeartbeats 4000000
/-! DL18: sorted(e, key=lambda x: ..). -/
namespace DL
open PySem PySem.Spec PyProof.Rows L2
variable [TabP]
theorem Grown.sm {P : Addr} {q : Str} {H H1 : Hp} (g : Grown P q H H1) (t : TbOk H P) (hu : ∀ p, (P, p) ∈ TabP.ls → p = q) : Sm H H1 := by
  obtain ⟨ps, hP, _⟩ := t.1
  have ne : ∀ {b : Addr} {o : HO}, H b = some o → (∀ r, o ≠ .tbl r) → b ≠ P := fun e n z => by subst z; rw [hP] at e; exact n ps (Option.some.inj e).symm
  refine ⟨⟨fun b xs e => g.old b _ e (ne e fun r z => by cases z), fun b o u e => g.old b _ e (ne e fun r z => by cases z), fun b tb => ?_⟩, g.dom, fun b o e n => g.old b o e (ne e n)⟩
  by_cases z : b = P
  · subst z
    exact ⟨let ⟨r, h1, h2, _⟩ := g.tab; ⟨r, h1, h2⟩, fun p m => by rw [hu p m]; exact g.tab⟩
  · obtain ⟨⟨r, e, w⟩, tl⟩ := tb
    refine ⟨⟨r, g.old b _ e z, w⟩, fun p m => ?_⟩
    obtain ⟨r', e1, e2, e3⟩ := tl p m
    refine ⟨r', g.old b _ e1 z, e2, fun pos cv hc => ?_⟩
    obtain ⟨c, e4, e5⟩ := e3 pos cv hc
    exact ⟨c, e4, g.old c _ e5 (ne e5 LamX.codeO_ne)⟩
theorem sqL_sm {K : PySem.W.Frag} {H H1 : Hp} (g : Sm H H1) {a : Addr} {xs : List V} (h : SqL K H a xs) : SqL K H1 a xs := by
  rcases h with (h | ⟨o, h⟩) | h
  · exact .inl (.inl (g.fr _ _ h fun _ z => nomatch z))
  · exact .inl (.inr ⟨o, g.per.frz _ _ _ h⟩)
  · exact .inr h
def listD : PyData → (List PyData → Prop) → Prop
  | .list ds, k => k ds
  | _, _ => False
theorem listD_ex {d : PyData} {k : List PyData → Prop} (h : listD d k) : ∃ ds, d = .list ds ∧ k ds := by
  cases d with
  | list ds => exact ⟨ds, rfl, h⟩
  | _ => exact h.elim
/-- sorted by keys -/
def srt (key : PyData → PyData) (ds : List PyData) : List PyData := ds.mergeSort (PySem.W.dataLe false key)
def tSrtL (ta tb : DT) (n : Nat) : DT := fun Γ R => ta Γ fun rv Γ1 => optD (val Γ1 rv) fun d => listD d fun ds => ∃ key : PyData → PyData, (∀ d ∈ ds, tb (.d d :: bl n) fun rv _ => rv = .d (key d)) ∧
  PySem.W.AllAlike (ds.map key) ∧ PySem.W.Sortable (ds.map key) ∧ (∀ d ∈ ds, (key d).depth ≤ 64) ∧ R (.f (.lst (srt key ds))) Γ1
section
variable {X : Cx} {pos p lpos kpos : Pos} {e : Expr} {ta tb : DT}
theorem de_sortedL {k : Nat} {c P : Addr} {x : Str} {params : Arguments} {body : Expr} {scope : Scope} {N : List Str} (hr : Room (k + 3) X.A) (hg : Gl X "sorted") (hm : X.mg "sorted" = none) (TB : GxR.TabB X.base X.mg c P) (hP : P ∈ TabP.ps)
    (hPl : (P, X.env.qual ++ "<lambda>") ∈ TabP.ls) (hu : ∀ q, (P, q) ∈ TabP.ls → q = X.env.qual ++ "<lambda>") (hcode : X.env.code = .ref c) (he : PE X e (lft X.K ta)) (S : FnScope N [x] scope) (hN : 1 ≤ N.length) (hbind : LamB (X.env.qual ++ "<lambda>") x params body scope)
    (hbody : ∀ (f c' : Addr) (A : Around) (outer : List Env) (s : Shared) (H : Hp) (E : XK), Room k (A.deeper (envOfC (X.env.qual ++ "<lambda>") scope s.heap.objs.size f (.ref c'))) → PE (cxOf CX0 X.prog X.w X.K X.mg X.base N (X.env.qual ++ "<lambda>") scope f (.ref c') A outer s H E) body (lft X.K tb))
    (hfree : ∀ y ∈ scope.names, y.2 ≠ .free) (hdef : defaultsOf params X.env = ([], []) := by rfl)
    (hs : backTo pos (starEach [e] X.env) = (false, eval e X.env) :: backTo pos (starEach [] X.env) := by rfl) (hs2 : starEach [e] X.env = (false, eval e X.env) :: starEach [] X.env := by rfl) (hpl : (backTo pos (starEach [e] X.env)).any (·.1) = false := by rfl) :
    PE X (.Call (.Name "sorted" p) [e] [⟨some "key", .Lambda params body scope lpos, kpos⟩] pos) (lft X.K (tSrtL ta tb (N.length - 1))) := by
  refine ⟨fun pins s σ H Q I h => ?_⟩
  obtain ⟨Γ, R, ok, ht, hQ⟩ := h
  refine wpAny_Call_Name_kw (ld_blt I hg hm (show bootBuiltins ("sorted" : Str) = some (.builtin "sorted") from by decide +kernel) ?_ (by decide) (by decide))
  refine PyProof.Rows.callWith_kw (thn ((pa_cons he pa_nil hs2).run pos pins s σ H (fun vs H1 => ∃ v rv Γ1, vs = [v] ∧ Ok X.K Γ1 σ H1 ∧ Ev Γ σ H Γ1 H1 ∧ RvOk X.K Γ1 σ H H1 rv v ∧ optD (val Γ1 rv) fun d => listD d fun ds => ∃ key : PyData → PyData, (∀ d ∈ ds, tb (.d d :: bl (N.length - 1)) fun rv _ => rv = .d (key d)) ∧
    PySem.W.AllAlike (ds.map key) ∧ PySem.W.Sortable (ds.map key) ∧ (∀ d ∈ ds, (key d).depth ≤ 64) ∧ R (.f (.lst (srt key ds))) Γ1) I ⟨Γ, _, ok, ht, fun rv Γ1 v H1 h1 ok1 ev1 r1 => ⟨v, rv, Γ1, rfl, ok1, ev1, r1, h1⟩⟩) fun us s1 ⟨vs, H1, I1, r1, v, rv, Γ1, evs, ok1, ev1, rvo, h1⟩ => ?_) hs hpl (by rfl) (by rfl)
  subst evs
  obtain ⟨u, rfl, ru⟩ := vals1 r1
  obtain ⟨d, ex, h1⟩ := optD_ex h1
  obtain ⟨ds, rfl, key, hkey, hal, hso, hdp, h1⟩ := listD_ex h1
  obtain ⟨a, xs, rfl, hsq, pd⟩ := (rdb ok1 rvo ex).list
  obtain rfl : u = Value.ref a := ru
  show wpAny _ _ (evalAll ((do let v ← eval (.Lambda params body scope lpos) X.env; standAt pos; pure v) :: [])) _ _ s1
  have tb0 := ok1.tab P hP
  refine wpAny_evalAll_cons (wpAny_bind (lam_make3 I1 TB hcode (tb0.2 _ hPl) hdef hfree fun f c' pm ctv H2 s2 I2 gr hf hfn hf1 hf2 hf3 hc => wpAny_bind (wpAny_standAt (wpAny_pure (wpAny_evalAll_nil ?_)))))
  have sm := gr.sm tb0 hu
  have hsq2 : SqL X.K H2 a xs := sqL_sm sm (.inl hsq)
  obtain ⟨its, rits, pl, hz⟩ := I2.list hsq2
  have lits := rits.length
  show wpAny _ _ (call (.builtin "sorted") [.ref a] [(Str.ofString "key", .ref f)]) _ _ s2
  have pd2 := PdAll.mono sm.per _ _ pd
  have hL : its.length ≤ sizeLine := by rw [← lits]; exact hz
  have szC : s2.heap.objs.size + 1 < (PySem.W.copyHeap s2.heap its).objs.size := Heap.lt_size (PySem.W.copyHeap_at s2.heap its)
  have na : NewP X pins s2 (s2.heap.objs.size + 1) := newP I2 (Nat.le_succ _)
  have I3 : Inv X pins σ H2 { s2 with heap := PySem.W.copyHeap s2.heap its } := I2.kept (t' := s2.toks) fun b o e => PySem.W.copyHeap_old e
  have hr1 : Room (k + 1) X.A.in1.in1 := (Room.in1 (k := k + 2) hr).in1
  refine PySem.W.sorted_of_sort pl.isList hL (PyProof.Rows.ksk_s1 _ _) (fun y => PyProof.Rows.ksk_l1 _ _) fun E' => ?_
  rw [PyProof.Rows.ksk_t1]
  refine sort_tree (X := X) (pins := pins) (σ := σ) (H := H2) (s0 := s2) (ds := ds) (key := key) (vv := xs) (n := 0) S hbind hr1 rfl (hbody f c') hkey hN (fun P' hP' => (ok1.sm sm).tab P' hP') pd2 rits hL hal hso hdp I3 na (I2.hok.fresh (Nat.le_succ _)) (PySem.W.copyHeap_at s2.heap its)
    (fun z => by have := Heap.lt_size hf; rw [z] at this; exact Nat.lt_irrefl _ (Nat.lt_of_lt_of_le this (Nat.le_succ _))) hf1 hfn (PySem.W.copyHeap_old hf) hc (Nat.le_of_lt (Nat.lt_trans (Nat.lt_succ_self _) szC)) (fun b hb => newP I2 (Nat.le_trans (Nat.le_of_lt (Nat.lt_trans (Nat.lt_succ_self _) szC)) hb)) fun H3 s3 out c3 I4 sm3 n3 o3 ⟨ow, w1, w2⟩ => ⟨rfl, ?_⟩
  have lo : ow.length ≤ sizeLine := by
    have l1 := w2.len
    have l2 := pd.len
    rw [List.length_mergeSort] at l1
    rw [← l1, l2]; exact hz
  have I5 := inv_take (o := .lst ow) I4 na n3 ⟨lo, out, c3, w1, o3⟩
  have smN : Sm H3 (upd H3 (s2.heap.objs.size + 1) (.lst ow)) := .of fun b o e => by rw [upd_ne (ne_of_none e n3)]; exact e
  have smA : Sm H1 (upd H3 (s2.heap.objs.size + 1) (.lst ow)) := (sm.trans sm3).trans smN
  refine ⟨.ref (s2.heap.objs.size + 1), _, I5, rfl, hQ _ _ _ _ h1 (ok1.sm smA) (ev1.trans (.sm smA)) ⟨_, rfl, ⟨ow, upd_same, PdAll.mono smN.per _ _ w2⟩, ?_⟩⟩
  exact ev1.dom _ (sm.dom _ (I2.hok.fresh (Nat.le_succ _)))
end
end DL
set_option Elab.async false
set_option linter.all false
set_option maxRecDepth 100000
set_option maxHeartbeats 4000000
/-! DL19: a def's code object and its table. -/
namespace DL
open PySem PySem.Spec PyProof.Rows L2
/-- a lambda's name, in the def x -/
abbrev lamQ (x : Str) : Str := (x ++ ".<locals>.") ++ "<lambda>"
theorem code_of {K : PySem.W.Frag} {fa : List He.Fa} {fn : List He.DefD} {x : Str} {st : Stmt} {cdv : Value} (c : He.SaysD fa fn K) (h2 : dfD x st ∈ fn) (h : CodeOf K (He.ga K x) cdv) : cdv = .ref (He.cT K (x, none)).1 := by
  obtain ⟨oc, od, fd, osl, lk, rfl⟩ := h
  obtain ⟨fd', F⟩ := c.defs h2
  obtain ⟨oc', od', dV, kV, doc, pm, an, cd0, ct, osl', rfl, lk', hcd, _, _⟩ := F.ex
  have e : some (⟨oc, od, .func fd, osl⟩ : Obj) = some ⟨oc', od', .func _, osl'⟩ := lk.symm.trans lk'
  cases e
  obtain ⟨a, ea⟩ := He.codeIn_ref hcd
  have ea : cd0 = .ref a := ea
  subst ea
  show Value.ref a = .ref (He.codeOf K (x, none))
  rw [He.codeOf_eq (p := (x, none)) lk' rfl]
end DL
set_option Elab.async false
set_option linter.all false
set_option maxRecDepth 100000
set_option maxHeartbeats 4000000
/-! DL20: in a list. -/
namespace DL
open PySem PySem.Spec PyProof.Rows L2
variable [TabP]
theorem units65 {k : Nat} {A : Around} (r : Room k A) : A.units + 65 < cLine := by have := r.un; omega
def fIn : Op2
  | x, .list ds, R => SeqAt.shaped x = true ∧ SeqAt.shaped (.list ds) = true ∧ R (.d (.bool (ds.any fun z => PyData.eqv z x)))
  | _, _, _ => False
def fNin : Op2
  | x, .list ds, R => SeqAt.shaped x = true ∧ SeqAt.shaped (.list ds) = true ∧ R (.d (.bool (!ds.any fun z => PyData.eqv z x)))
  | _, _, _ => False
theorem sIn {K : PySem.W.Frag} : OpS K (rInD K) fIn := fun x y dx dy H Q R rx ry hf hQ => by
  cases dy with
  | list ds => exact ⟨dx, ds, rx.dp, ry.dp, hf.1, hf.2.1, hQ _ _ _ hf.2.2 (Same.refl H) (.bl _)⟩
  | _ => exact hf.elim
theorem sNin {K : PySem.W.Frag} : OpS K (rNotInD K) fNin := fun x y dx dy H Q R rx ry hf hQ => by
  cases dy with
  | list ds => exact ⟨dx, ds, rx.dp, ry.dp, hf.1, hf.2.1, hQ _ _ _ hf.2.2 (Same.refl H) (.bl _)⟩
  | _ => exact hf.elim
section
variable {X : Cx} {pos : Pos} {a b : Expr} {ta tb : DT}
theorem de_in (hu : X.A.units + 65 < cLine) (ha : PE X a (lft X.K ta)) (hb : PE X b (lft X.K tb)) (hm : behindInMarks .In b = false := by rfl) : PE X (.Compare a [.In] [b] pos) (lft X.K (tBin fIn ta tb)) := de_cmp (op_inD hu) sIn ha hb hm
theorem de_nin (hu : X.A.units + 65 < cLine) (ha : PE X a (lft X.K ta)) (hb : PE X b (lft X.K tb)) (hm : behindInMarks .NotIn b = false := by rfl) : PE X (.Compare a [.NotIn] [b] pos) (lft X.K (tBin fNin ta tb)) := de_cmp (op_notInD hu) sNin ha hb hm
theorem dt_in (hu : X.A.units + 65 < cLine) (ha : PE X a (lft X.K ta)) (hb : PE X b (lft X.K tb)) (hm : behindInMarks .In b = false := by rfl) : PT X (.Compare a [.In] [b] pos) (lftT X.K (tCmp2 fIn ta tb)) := dt_cmp (op_inD hu) sIn ha hb hm
theorem dt_nin (hu : X.A.units + 65 < cLine) (ha : PE X a (lft X.K ta)) (hb : PE X b (lft X.K tb)) (hm : behindInMarks .NotIn b = false := by rfl) : PT X (.Compare a [.NotIn] [b] pos) (lftT X.K (tCmp2 fNin ta tb)) := dt_cmp (op_notInD hu) sNin ha hb hm
/-! x.remove(y), x the cell of the i-th name, ints alone -/
def intsD : List PyData → Option (List Int)
  | [] => some []
  | .int z :: r => (intsD r).map (z :: ·)
  | _ :: _ => none
theorem ints_map {K : PySem.W.Frag} {H : Hp} : ∀ {ds : List PyData} {vs : List V} {ns : List Int}, PdAll K H ds vs → intsD ds = some ns → vs = ns.map V.int
  | [], _, _, a, e => by cases a; cases e; rfl
  | d :: ds, _, ns, a, e => by
    cases a with
    | cons p q =>
      cases d with
      | int z =>
        unfold intsD at e
        cases w : intsD ds with
        | none => rw [w] at e; cases e
        | some zs => rw [w] at e; cases e; cases p; rw [ints_map q w]; rfl
      | _ => cases e
def remP : PyData → Option (List Int) → (List PyData → Prop) → Prop
  | .int k, some ns, f => k ∈ ns ∧ f ((ns.erase k).map .int)
  | _, _, _ => False
def tRem (i : Nat) (ta : DT) : DT := fun Γ R => celP Γ[i]? fun _ _ => ta Γ fun rv Γ1 => optD (val Γ1 rv) fun dy => celP Γ1[i]? fun b ds => remP dy (intsD ds) fun es => R (.d .none) (Γ1.set i (.c b (.lst es)))
theorem de_rem {i : Nat} {apos cpos : Pos} {o : Expr} (hc : X.calm = true) (ho : PE X o (tVar i)) (ha : PE X a (lft X.K ta))
    (hbase : attributeBase o "remove" X.env (eval o X.env) = eval o X.env := by rfl)
    (hfew : ((backTo cpos (starEach [a] X.env)).all (fun x => !x.1) && (backToKw cpos (keywordEach [] X.env)).all (fun x => x.1.isSome)
      && decide (([a] : List Expr).length + ([] : List Keyword).length + (if ([] : List Keyword).isEmpty then 0 else 1) < 30)) = true := by rfl)
    (hline : (apos.endLine == cpos.line) = true := by rfl) (hs : starEach [a] X.env = (false, eval a X.env) :: starEach [] X.env := by rfl) (hplain : (backTo cpos (starEach [] X.env)).any (·.1) = false := by rfl) :
    PE X (.Call (.Attribute o "remove" apos) [a] [] cpos) (lft X.K (tRem i ta)) := by
  refine pe_wk (pe_remX hc (LamX.takes0 (X := X)) ho ha hbase hfew hline hs hplain) fun σ H Q ⟨Γ, R, ok, ht, hQ⟩ => ?_
  obtain ⟨b0, ds0, e0, ht⟩ := celP_ex ht
  obtain ⟨p, hp, vs0, hv0, _⟩ := ok.cel i _ _ e0
  refine ⟨_, hp, .inl ⟨rfl, vs0, .inl (.inl hv0)⟩, Γ, _, ok, ht, fun rv Γ1 v H1 h1 ok1 ev1 r1 => ?_⟩
  obtain ⟨dy, ey, h1⟩ := optD_ex h1
  obtain ⟨b, ds, e1, h1⟩ := celP_ex h1
  obtain ⟨p', hp', vs, hv, pv⟩ := ok1.cel i _ _ e1
  rw [hp] at hp'; cases hp'
  have q := rdb ok1 r1 ey
  cases w : intsD ds with
  | none => rw [w] at h1; cases dy <;> exact h1.elim
  | some ns =>
    rw [w] at h1
    cases dy with
    | int k =>
      obtain ⟨hk, h1⟩ := h1
      have em := ints_map pv w
      subst em
      have ek : v = .int k := q.int
      obtain ⟨ok2, ev2⟩ := ok1.upc (c' := .lst ((ns.erase k).map .int)) (o := .lst ((ns.erase k).map V.int)) e1 hp fun H' per z => ⟨_, z, ints_pd _⟩
      exact ⟨p, ns, k, rfl, ek, hv, fun _ => hQ _ _ _ _ h1 ok2 (ev1.trans ev2) .non, fun z => absurd hk z⟩
    | _ => exact h1.elim
end
end DL
set_option Elab.async false
set_option linter.all false
set_option maxRecDepth 100000
set_option maxHeartbeats 4000000
/-! DL21: max, min of two ints. -/
namespace DL
open PySem PySem.Spec PyProof.Rows L2
variable [TabP]
def fMax2 : FL
  | [.int i, .int j], R => R (.d (.int (if j > i then j else i)))
  | _, _ => False
def fMin2 : FL
  | [.int i, .int j], R => R (.d (.int (if j < i then j else i)))
  | _, _ => False
theorem ints2 {K : PySem.W.Frag} {H : Hp} {i j : Int} {xs : List V} (h : RbAll K H [.int i, .int j] xs) : xs = [.int i, .int j] := by
  cases h with
  | cons p q =>
    cases q with
    | cons p2 q2 =>
      cases q2
      rw [p.int, p2.int]
theorem two_of {f : List PyData → (RV → Prop) → Prop} {ds : List PyData} {R : RV → Prop} (h : fMax2 ds R ∨ fMin2 ds R) : ∃ i j, ds = [.int i, .int j] := by
  rcases h with h | h
  all_goals (
    match ds, h with
    | [.int i, .int j], _ => exact ⟨i, j, rfl⟩)
theorem sMax2 {K : PySem.W.Frag} : ClS K (fun xs H Q => ∃ i j, xs = [.int i, .int j] ∧ Q (.int (if j > i then j else i)) H) fMax2 := fun xs ds H Q R rx hf hQ => by
  obtain ⟨i, j, rfl⟩ := two_of (f := fun _ _ => True) (.inl hf)
  exact ⟨i, j, ints2 rx, hQ _ _ _ hf (Same.refl H) (.int _)⟩
theorem sMin2 {K : PySem.W.Frag} : ClS K (fun xs H Q => ∃ i j, xs = [.int i, .int j] ∧ Q (.int (if j < i then j else i)) H) fMin2 := fun xs ds H Q R rx hf hQ => by
  obtain ⟨i, j, rfl⟩ := two_of (f := fun _ _ => True) (.inr hf)
  exact ⟨i, j, ints2 rx, hQ _ _ _ hf (Same.refl H) (.int _)⟩
section
variable {X : Cx} {pos : Pos} {a b : Expr} {ta tb : DT}
theorem de_max2 {x : Pos} (hc : X.calm = true) (hg : Gl X "max") (hm : X.mg "max" = none) (ha : PE X a (lft X.K ta)) (hb : PE X b (lft X.K tb)) (he : starEach [a, b] X.env = (false, eval a X.env) :: starEach [b] X.env := by rfl) (he2 : starEach [b] X.env = (false, eval b X.env) :: starEach [] X.env := by rfl)
    (hpl : (backTo pos (starEach [b] X.env)).any (·.1) = false := by rfl) : PE X (.Call (.Name "max" x) [a, b] [] pos) (lft X.K (tCB' fMax2 (tC' ta (tC' tb tN)))) := de_cb (call_max2 hc) sMax2 hg hm (by decide +kernel) (da_cons ha (da_cons hb da_nil he2) he) (he := he) (hpl := hpl)
theorem de_min2 {x : Pos} (hc : X.calm = true) (hg : Gl X "min") (hm : X.mg "min" = none) (ha : PE X a (lft X.K ta)) (hb : PE X b (lft X.K tb)) (he : starEach [a, b] X.env = (false, eval a X.env) :: starEach [b] X.env := by rfl) (he2 : starEach [b] X.env = (false, eval b X.env) :: starEach [] X.env := by rfl)
    (hpl : (backTo pos (starEach [b] X.env)).any (·.1) = false := by rfl) : PE X (.Call (.Name "min" x) [a, b] [] pos) (lft X.K (tCB' fMin2 (tC' ta (tC' tb tN)))) := de_cb (call_min2 hc) sMin2 hg hm (by decide +kernel) (da_cons ha (da_cons hb da_nil he2) he) (he := he) (hpl := hpl)
end
/-! x *= y -/
def ipMulT : TIp := fun x y H Q => ∃ i j, x = .int i ∧ y = .int j ∧ CMulW i j ∧ Q (.int (i * j)) H
theorem ip_mulW {X : Cx} : PIp X .Mult ipMulT := by
  intro pins s σ H x y v u Q I r1 r2 h
  obtain ⟨i, j, rfl, rfl, hc, q⟩ := h
  obtain ⟨t, rfl⟩ := r1
  obtain ⟨t', rfl⟩ := r2
  exact PyProof.Rows.imul_int ⟨.int _, H, I.tok _, ⟨_, rfl⟩, q⟩ hc.ok
def ipMul : Ip2
  | .int i, .int j, R => CMulW i j ∧ R (.int (i * j))
  | _, _, _ => False
theorem sIpMul {K : PySem.W.Frag} : IpS K ipMulT ipMul := by
  intro x y dx dy H Q R px ry hf hQ
  cases dx with
  | int i =>
    cases dy with
    | int j => cases px; exact ⟨i, j, rfl, ry.int, hf.1, hQ _ _ hf.2 (.int _)⟩
    | _ => exact hf.elim
  | _ => exact hf.elim
/-! range(a, b) -/
def wRng2 (ta tb : DT) : DIt := fun Γ R => ta Γ fun rv Γ1 => tb Γ1 fun rw Γ2 => optD (val Γ2 rv) fun d => intD d fun i => optD (val Γ2 rw) fun e => intD e fun j => (-(2 ^ 62) ≤ i ∧ i < 2 ^ 62 ∧ -(2 ^ 62) ≤ j ∧ j < 2 ^ 62) ∧ R (rngD i (j - i).toNat) Γ2
section
variable {X : Cx} {pos : Pos} {a b tg : Expr} {ta tb : DT}
theorem di_range2 {p : Pos} (hg : Gl X "range") (hm : X.mg "range" = none) (ha : PE X a (lft X.K ta)) (hb : PE X b (lft X.K tb)) (hs : starEach [a, b] X.env = [(false, eval a X.env), (false, eval b X.env)] := by rfl) (hs2 : starEach [b] X.env = [(false, eval b X.env)] := by rfl) : PI X tg (.Call (.Name "range" p) [a, b] [] pos) (lftI X.K (wRng2 ta tb)) := by
  refine pi_wk (pi_range2 hg hm (pa_cons ha (pa_cons hb pa_nil (by rw [hs2]; rfl)) (by rw [hs, hs2])) hs hs2) fun σ H R ⟨Γ, RR, ok, ht, hR⟩ => ⟨Γ, _, ok, ht, fun rv Γ1 v H1 h1 ok1 ev1 r1 => ⟨Γ1, _, ok1, h1, fun rw Γ2 u H2 h2 ok2 ev2 r2 => ?_⟩⟩
  obtain ⟨d, ex, h2⟩ := optD_ex h2
  obtain ⟨i, rfl, h2⟩ := intD_ex h2
  obtain ⟨e, ey, h2⟩ := optD_ex h2
  obtain ⟨j, rfl, hbd, h2⟩ := intD_ex h2
  rw [(rdb ok2 (r1.on ev1 ok ev2) ex).int, (rdb ok2 r2 ey).int]
  exact ⟨i, j, rfl, hbd, hR _ _ _ _ h2 ok2 (ev1.trans ev2) itr_ok⟩
end
/-! max of a list of ints -/
def maxP : Option (List Int) → (RV → Prop) → Prop
  | some ns, R => 0 < ns.length ∧ ∀ m, m ∈ ns → (∀ y, y ∈ ns → y ≤ m) → R (.d (.int m))
  | none, _ => False
def fMaxL : FL
  | [.list ds], R => maxP (intsD ds) R
  | _, _ => False
theorem sMaxL {K : PySem.W.Frag} : ClS K (rMax K) fMaxL := by
  intro xs ds H Q R hr hf hQ
  unfold fMaxL at hf
  split at hf
  · obtain ⟨x, rfl, q⟩ := rb1 hr
    obtain ⟨a, vs, rfl, hv, pv⟩ := q.list
    rename_i ds
    cases w : intsD ds with
    | none => rw [w] at hf; exact hf.elim
    | some ns =>
      rw [w] at hf
      have em := ints_map pv w
      subst em
      exact ⟨a, ns, rfl, .inl hv, hf.1, fun m h1 h2 => hQ _ _ _ (hf.2 m h1 h2) (Same.refl H) (.int _)⟩
  · exact hf.elim
section
variable {X : Cx} {pos : Pos} {a : Expr} {ta : DT}
theorem de_maxL {x : Pos} (hc : X.calm = true) (hg : Gl X "max") (hm : X.mg "max" = none) (ha : PE X a (lft X.K ta)) (he : starEach [a] X.env = (false, eval a X.env) :: starEach [] X.env := by rfl) (hpl : (backTo pos (starEach [] X.env)).any (·.1) = false := by rfl) :
    PE X (.Call (.Name "max" x) [a] [] pos) (lft X.K (tCB' fMaxL (tC' ta tN))) := de_cb (cr_max hc) sMaxL hg hm (by decide +kernel) (da_cons ha da_nil he) (he := he) (hpl := hpl)
end
end DL
set_option Elab.async false
set_option linter.all false
set_option maxRecDepth 100000
set_option maxHeartbeats 4000000
/-! DL22: several stores at once, new cells too. -/
namespace DL
open PySem PySem.Spec PyProof.Rows L2
variable [TabP]
section
variable {K : PySem.W.Frag} {Γ Γ0 : Fm} {σ σ0 : L2.St} {H H0 : Hp}
theorem store_fS {i : Nat} {c : Cell} {p : Addr} {sv : SV} (ok : Ok K Γ σ H) (pv : AtC K H p c) (h0 : H0 p = none) (nca : ¬ CA Γ σ p) (h : Γ[i]? = some sv) (hp : ∀ c, sv ≠ .c true c) (sx : Sx Γ0 σ0 H0 Γ σ H) :
    Ok K (Γ.set i (.c false c)) (σ.set i (some (.ref p))) H ∧ Sx Γ0 σ0 H0 (Γ.set i (.c false c)) (σ.set i (some (.ref p))) H ∧ ∀ q, CA (Γ.set i (.c false c)) (σ.set i (some (.ref p))) q → CA Γ σ q ∨ q = p := by
  have hlt : i < Γ.length := (List.getElem?_eq_some_iff.mp h).1
  have hlt2 : i < σ.length := by rw [← ok.len]; exact hlt
  have self : (Γ.set i (.c false c))[i]? = some (.c false c) := List.getElem?_set_self hlt
  have oth : ∀ {j : Nat}, i ≠ j → (Γ.set i (.c false c))[j]? = Γ[j]? := fun n => List.getElem?_set_ne n
  have self2 : (σ.set i (some (V.ref p)))[i]? = some (some (.ref p)) := List.getElem?_set_self hlt2
  have oth2 : ∀ {j : Nat}, i ≠ j → (σ.set i (some (V.ref p)))[j]? = σ[j]? := fun n => List.getElem?_set_ne n
  have ca : ∀ q, CA (Γ.set i (.c false c)) (σ.set i (some (.ref p))) q → CA Γ σ q ∨ q = p := by
    rintro q ⟨j, b, d, z1, z2⟩
    by_cases ne : i = j
    · subst ne; rw [self2] at z2; cases z2; exact .inr rfl
    · rw [oth ne] at z1; rw [oth2 ne] at z2; exact .inl ⟨j, b, d, z1, z2⟩
  refine ⟨⟨by rw [List.length_set, List.length_set]; exact ok.len, fun j y z => ?_, fun j b d z => ?_, fun j1 j2 b1 c1 b2 c2 q z1 z2 z3 z4 => ?_, ok.tab⟩, ⟨sx.per, sx.dom, fun b o e t n => ⟨(sx.fr b o e t n).1, fun z => ?_⟩, fun j d z => ?_⟩, ca⟩
  · have ne : i ≠ j := fun w => by subst w; rw [self] at z; cases z
    rw [oth ne] at z; rw [oth2 ne]; exact ok.dat j y z
  · by_cases ne : i = j
    · subst ne; rw [self] at z; cases z; exact ⟨p, self2, pv⟩
    · rw [oth ne] at z; rw [oth2 ne]; exact ok.cel j b d z
  · by_cases n1 : i = j1
    · by_cases n2 : i = j2
      · exact n1.symm.trans n2
      · subst n1
        rw [self2] at z3; cases z3
        rw [oth n2] at z2; rw [oth2 n2] at z4
        exact absurd ⟨j2, _, _, z2, z4⟩ nca
    · by_cases n2 : i = j2
      · subst n2
        rw [self2] at z4; cases z4
        rw [oth n1] at z1; rw [oth2 n1] at z3
        exact absurd ⟨j1, _, _, z1, z3⟩ nca
      · rw [oth n1] at z1; rw [oth2 n1] at z3; rw [oth n2] at z2; rw [oth2 n2] at z4
        exact ok.dis j1 j2 _ _ _ _ _ z1 z2 z3 z4
  · rcases ca b z with z | z
    · exact (sx.fr b o e t n).2 z
    · subst z; rw [h0] at e; cases e
  · obtain ⟨e1, c', z'⟩ := sx.pin j d z
    have ne : i ≠ j := fun w => by subst w; rw [h] at z'; cases z'; exact hp _ rfl
    exact ⟨(oth2 ne).trans e1, c', by rw [oth ne]; exact z'⟩
theorem store_g {i : Nat} {rv : RV} {v : V} {R : Fm → Prop} {Γ2 : Fm} {σ2 : L2.St} (ok : Ok K Γ σ H) (r : RvOk K Γ2 σ2 H0 H rv v) (sx : Sx Γ0 σ0 H0 Γ σ H) (nca : ∀ c p, rv = .f c → v = .ref p → ¬ CA Γ σ p) (h : gNm i rv Γ R) :
    ∃ Γ', R Γ' ∧ Ok K Γ' (σ.set i (some v)) H ∧ Sx Γ0 σ0 H0 Γ' (σ.set i (some v)) H ∧ ∀ q, CA Γ' (σ.set i (some v)) q → CA Γ σ q ∨ ∃ c, rv = .f c ∧ v = .ref q := by
  obtain ⟨⟨sv, e, hp⟩, h⟩ := free_ex h
  cases rv with
  | d x =>
    obtain ⟨ok', sx'⟩ := store_d ok r e hp .rfl
    refine ⟨_, h, ok', sx.trans sx', ?_⟩
    rintro q ⟨j, b, d, z1, z2⟩
    have hlt : i < Γ.length := (List.getElem?_eq_some_iff.mp e).1
    by_cases ne : i = j
    · subst ne; rw [List.getElem?_set_self hlt] at z1; cases z1
    · rw [List.getElem?_set_ne ne] at z1 z2; exact .inl ⟨j, b, d, z1, z2⟩
  | s _ => exact h.elim
  | f c =>
    obtain ⟨p, rfl, a, h0⟩ := r
    obtain ⟨ok', sx', ca⟩ := store_fS ok a h0 (nca c p rfl rfl) e hp sx
    refine ⟨_, h, ok', sx', fun q hq => ?_⟩
    rcases ca q hq with z | z
    · exact .inl z
    · exact .inr ⟨c, rfl, by rw [z]⟩
end
section
variable {X : Cx} {pos : Pos} {a b c : Expr} {tas : DTa}
/-- x, y = a, b: data or new cells -/
def sPar2 (i j : Nat) (tas : DTa) : DS := fun E Γ => tas Γ fun rs Γ1 => match rs with
  | [u, v] => gNm i u Γ1 fun Γ2 => gNm j v Γ2 E.nx
  | _ => False
def sPar3 (i j l : Nat) (tas : DTa) : DS := fun E Γ => tas Γ fun rs Γ1 => match rs with
  | [u, v, w] => gNm i u Γ1 fun Γ2 => gNm j v Γ2 fun Γ3 => gNm l w Γ3 E.nx
  | _ => False
theorem new_nca {K : PySem.W.Frag} {Γ Γ1 Γ2 : Fm} {σ σ2 : L2.St} {H H1 : Hp} {rv : RV} {v : V} (ok : Ok K Γ σ H) (ev : Ev Γ σ H Γ1 H1) (r : RvOk K Γ2 σ2 H H1 rv v) : ∀ c p, rv = .f c → v = .ref p → ¬ CA Γ1 σ p := fun c p e1 e2 z => by
  subst e1
  obtain ⟨q, e, _, h0⟩ := r
  rw [e2] at e; cases e
  exact ok.noca h0 (ev.sub p z)
theorem ds_par2 {i j : Nat} {x y : Str} {px py pt : Pos} {kt k2 pt2} (hc : X.calm = true) (hN : X.N.Nodup) (hi : X.N[i]? = some x) (hj : X.N[j]? = some y) (hij : i ≠ j)
    (hx : X.env.scope.names.lookup x = some .local) (hy : X.env.scope.names.lookup y = some .local) (ha : PA X [a, b] (lftA X.K tas))
    (hw : swappedStores [.Tuple [.Name x px, .Name y py] kt pt] (.Tuple [a, b] k2 pt2) X.env = pure (some [x, y]))
    (hs : swapsWithSole [.Tuple [.Name x px, .Name y py] kt pt] (.Tuple [a, b] k2 pt2) pos.line X.env = pure false := by rfl) :
    PS X (.Assign [.Tuple [.Name x px, .Name y py] kt pt] (.Tuple [a, b] k2 pt2) pos) (lfs X.K (sPar2 i j tas)) := by
  refine ps_wk (ps_par hc hN hi hj hij hx hy ha hw hs) fun D σ H ⟨Γ, E, ok, ht, h1, _⟩ => ⟨Γ, _, ok, ht, fun rs Γ1 vs H1 q ok1 ev1 r1 => ?_⟩
  match rs, r1, q with
  | [u, v], r1, q =>
    cases r1 with
    | cons p1 p2 aw =>
      cases p2 with
      | cons p2 p3 =>
        cases p3
        rename_i v1 v2
        obtain ⟨Γ2, q2, ok2, sx2, ca2⟩ := store_g ok1 p1 (.of ev1) (new_nca ok ev1 p1) q
        obtain ⟨Γ3, q3, ok3, sx3, _⟩ := store_g ok2 p2 sx2 (fun c p e1 e2 z => by
          rcases ca2 p z with z | ⟨c', e3, e4⟩
          · exact new_nca ok ev1 p2 c p e1 e2 z
          · subst e1; subst e3
            exact aw c' rfl 0 c rfl (by rw [e4, ← e2]; rfl)) q2
        exact ⟨_, _, rfl, h1 _ _ _ q3 ok3 sx3⟩
theorem ds_par3 {i j l : Nat} {x y z : Str} {px py pz pt : Pos} {kt k2 pt2} (hc : X.calm = true) (hN : X.N.Nodup) (hi : X.N[i]? = some x) (hj : X.N[j]? = some y) (hl : X.N[l]? = some z) (hij : i ≠ j) (hil : i ≠ l) (hjl : j ≠ l)
    (hx : X.env.scope.names.lookup x = some .local) (hy : X.env.scope.names.lookup y = some .local) (hz : X.env.scope.names.lookup z = some .local) (ha : PA X [a, b, c] (lftA X.K tas))
    (hw : swappedStores [.Tuple [.Name x px, .Name y py, .Name z pz] kt pt] (.Tuple [a, b, c] k2 pt2) X.env = pure (some [x, y, z]))
    (hs : swapsWithSole [.Tuple [.Name x px, .Name y py, .Name z pz] kt pt] (.Tuple [a, b, c] k2 pt2) pos.line X.env = pure false := by rfl) :
    PS X (.Assign [.Tuple [.Name x px, .Name y py, .Name z pz] kt pt] (.Tuple [a, b, c] k2 pt2) pos) (lfs X.K (sPar3 i j l tas)) := by
  refine ps_wk (ps_par3 hc hN hi hj hl hij hil hjl hx hy hz ha hw hs) fun D σ H ⟨Γ, E, ok, ht, h1, _⟩ => ⟨Γ, _, ok, ht, fun rs Γ1 vs H1 q ok1 ev1 r1 => ?_⟩
  match rs, r1, q with
  | [u, v, w], r1, q =>
    cases r1 with
    | cons p1 p2 aw =>
      cases p2 with
      | cons p2 p3 aw2 =>
        cases p3 with
        | cons p3 p4 =>
          cases p4
          obtain ⟨Γ2, q2, ok2, sx2, ca2⟩ := store_g ok1 p1 (.of ev1) (new_nca ok ev1 p1) q
          obtain ⟨Γ3, q3, ok3, sx3, ca3⟩ := store_g ok2 p2 sx2 (fun c p e1 e2 z => by
            rcases ca2 p z with z | ⟨c', e3, e4⟩
            · exact new_nca ok ev1 p2 c p e1 e2 z
            · subst e1; subst e3
              exact aw c' rfl 0 c rfl (by rw [e4, ← e2]; rfl)) q2
          obtain ⟨Γ4, q4, ok4, sx4, _⟩ := store_g ok3 p3 sx3 (fun c p e1 e2 z => by
            rcases ca3 p z with z | ⟨c', e3, e4⟩
            · rcases ca2 p z with z | ⟨c', e3, e4⟩
              · exact new_nca ok ev1 p3 c p e1 e2 z
              · subst e1; subst e3
                exact aw c' rfl 1 c rfl (by rw [e4, ← e2]; rfl)
            · subst e1; subst e3
              exact aw2 c' rfl 0 c rfl (by rw [e4, ← e2]; rfl)) q3
          exact ⟨_, _, _, rfl, h1 _ _ _ q4 ok4 sx4⟩
omit [TabP] in
theorem noFree {names : List (Str × NameKind)} {P : Str × NameKind → Prop} (h : ∀ y ∈ names, y.2 ≠ .free) : ∀ y ∈ names, y.2 = .free → P y := fun y hy e => absurd e (h y hy)
/-- what is never reached -/
def sNever : DS := fun _ _ => False
theorem ds_never {st : Stmt} : PS X st (lfs X.K sNever) := ⟨fun _ _ _ _ _ _ ⟨_, _, _, h, _⟩ => h.elim⟩
end
end DL
set_option Elab.async false
set_option linter.all false
set_option maxRecDepth 100000
set_option maxHeartbeats 4000000
/-! DL23: enumerate over a list or a tuple. -/
namespace DL
open PySem PySem.Spec PyProof.Rows L2
set_option maxHeartbeats 1000000 in
theorem meets_enum_new1 {v : Value} {o : Obj} {H : Heap → Prop} (B : Begins v o H) :
    Meets (Builtin.«enumerate.__new__» ⟨[.type "enumerate", v], []⟩) (fun _ R s => H s.heap ∧
      R (.ok (.ret (.ref (s.heap.push o).objs.size))) { s with heap := (s.heap.push o).push { cls := .type "enumerate", data := .fields #[.none, .bool false, .ref s.heap.objs.size, rawInt 0, .none, .none] } }) :=
  .of_wp fun prog w A R s h => by
    obtain ⟨hp, g, d, tk, os⟩ := s; obtain ⟨h1, h⟩ := h
    have hsub := sub_enumerate
    have q1 : ∀ {A' : Around} {E : Value → Shared → Prop} {Q : Value → Shared → Prop}, Q (.ref hp.objs.size) ⟨hp.push o, g, d, tk, os⟩ → wpAny (model prog w) A' (pyIter v) Q E ⟨hp, g, d, tk, os⟩ :=
      fun q => B.iter prog w _ _ ⟨hp, g, d, tk, os⟩ _ h1 q
    wp_walk using q1
    refine wpAny_stack_any fun st => wpAny_pure ?_
    split
    · rename_i c _ _ _ _ _
      cases (c == Value.type "enumerate")
      · wp_walk using q1
        exact ⟨_, rfl, h⟩
      · wp_walk using q1
        exact ⟨_, rfl, h⟩
    · wp_walk using q1
      exact ⟨_, rfl, h⟩
section
variable {prog : Program} {w : World} {A : Around} {E : Value → Shared → Prop} {s : Shared}
theorem call_enumerate_tup {t : Addr} {items : Array Value} {Q : Value → Shared → Prop} (hT : s.heap.IsTuple t items)
    (h : ∀ h', IsEnum h' (s.heap.objs.size + 1) s.heap.objs.size 0 .none → h'.IsTupleIter s.heap.objs.size t 0 → h'.objs.size = s.heap.objs.size + 2 →
      (∀ b o, s.heap.get? b = some o → h'.get? b = some o) → Q (.ref (s.heap.objs.size + 1)) { s with heap := h' }) :
    wpAny (model prog w) A (call (.type "enumerate") [.ref t]) Q E s := by
  refine callType_new F.called_enumerate (by decide) (F.typeCall_enumerate_1 _) (F.newCall_enumerate_1 _) (fun obj => F.args_object_init_2 obj _) F.entry_enumerate_new
    (meets_enum_new1 (begins_tuple t items)) ⟨hT, ?_⟩
  have hz : (s.heap.push { cls := .type "tuple_iterator", data := .fields #[.ref t, .int 0 0] }).objs.size = s.heap.objs.size + 1 := Heap.size_push ..
  show _ ∧ _
  rw [hz]
  have he : IsEnum ((s.heap.push { cls := .type "tuple_iterator", data := .fields #[.ref t, .int 0 0] }).push
      { cls := .type "enumerate", data := .fields #[.none, .bool false, .ref s.heap.objs.size, rawInt 0, .none, .none] }) (s.heap.objs.size + 1) s.heap.objs.size 0 .none := by
    have := Heap.get?_push_size (s.heap.push { cls := .type "tuple_iterator", data := .fields #[.ref t, .int 0 0] })
      (o := { cls := .type "enumerate", data := .fields #[.none, .bool false, .ref s.heap.objs.size, rawInt 0, .none, .none] }) rfl
    rw [hz] at this; exact this
  refine ⟨⟨_, he, rfl⟩, h _ he ⟨_, Heap.get?_push_of_some _ (Heap.get?_push_size _ rfl), rfl, rfl⟩ (by rw [Heap.size_push, hz]) fun b o y => Heap.get?_push_of_some _ (Heap.get?_push_of_some _ y)⟩
end
/-- the tuple at a, each item in a new pair -/
def IteT (K : PySem.W.Frag) (a : Addr) : It :=
  ⟨fun i H => ∃ (xs : List V) (x : V), SqT K H a xs ∧ xs[i]? = some x, fun i H v H' => ∃ T x, v = .ref T ∧ H T = none ∧ H' = upd H T (.tup [.int (i : Nat), x]) ∧ ∀ xs, SqT K H a xs → xs[i]? = some x, fun i H => ∃ xs : List V, SqT K H a xs ∧ xs.length = i⟩
theorem turn_enumT {P : Program} {w : World} {K : PySem.W.Frag} {elts : List Expr} {kk : Nat} {tpos : Pos} (a e it : Addr) :
    Turn P w K (.Tuple elts kk tpos) (IteT K a) [e, it] e (fun i h => (∃ old, IsEnum h e it ((i : Nat) : Int) old) ∧ h.IsTupleIter it a i ∧ e ≠ it) where
  mem := by simp
  obj := fun i h st b hb => by
    obtain ⟨⟨old, he⟩, ⟨o, ho, hc, hd⟩, _⟩ := st
    have e' : b = e ∨ b = it := by simpa using hb
    rcases e' with z | z
    · rw [z]; exact ⟨_, he, fun v q => nomatch q⟩
    · rw [z]; exact ⟨o, ho, fun v q => by rw [hd] at q; cases q⟩
  keep := fun i h h' st k => let ⟨⟨old, he⟩, hi, hne⟩ := st; ⟨⟨old, k e (by simp) _ he⟩, hi.at fun o q => k it (by simp) o q, hne⟩
  item := by
    intro X hP hw hK hc i pins s σ H E I hf st hg
    subst hP hw hK
    obtain ⟨⟨old, he⟩, hit, hne⟩ := st
    obtain ⟨xs, x, hq, hx⟩ := hg
    obtain ⟨its, rv, p, hz⟩ := I.tuple hq
    obtain ⟨u, hu, ru⟩ := rv.get hx
    have p : s.heap.IsTuple a its.toArray := p
    have hel : e < s.heap.objs.size := Heap.lt_size he
    have hai : a ≠ it := by
      rintro rfl
      obtain ⟨o, q1, _, n, q2⟩ := p
      obtain ⟨o', q3, _, q4⟩ := hit
      rw [q1] at q3
      cases q3
      rw [q2] at q4; cases q4
    have hea : e ≠ a := by
      rintro rfl
      obtain ⟨o, q1, _, n, q2⟩ := p
      have he : s.heap.get? e = some _ := he
      rw [q1] at he
      cases he
      cases q2
    have hlt : i < its.toArray.size := by
      have := (List.getElem?_eq_some_iff.mp hu).1
      simpa using this
    refine wpAny_pyNext_enum_itemD (Draws.tuple (prog := X.prog) (w := X.w) (A := X.A.in1) (I.ok.hd hc) it a hai its.toArray) he ⟨hit, p⟩ hlt hne (by simp; exact ⟨hne, hea⟩) fun x' h' tk hPx ho st' hT hsz hk => ?_
    have ex : x' = u := by
      have : its.toArray[i]? = some x' := hPx
      rw [show its.toArray[i]? = some u from by simpa using hu] at this
      exact (Option.some.inj this).symm
    subst ex
    refine ⟨_, rfl, wpAny_letOwnedTupleGo_enum (s := { s with heap := h', toks := tk + 1 }) ho fun h'' he' sb => ?_⟩
    have hT2 : h''.get? s.heap.objs.size = some { cls := .type "tuple", data := .seq #[.int i tk, x'] } := (sb.2 _ (Nat.ne_of_gt hel)).trans hT
    have new : ObjOk X.prog X.w (upd H s.heap.objs.size (.tup [.int (i : Nat), x])) h'' s.heap.objs.size (.tup [.int (i : Nat), x]) :=
      ⟨by show 2 ≤ sizeLine; decide, [.int i tk, x'], .cons ⟨_, rfl⟩ (.cons ru .nil), ⟨_, hT2, rfl, _, rfl⟩⟩
    have I1 : Inv X pins σ (upd H s.heap.objs.size (.tup [.int (i : Nat), x])) { s with heap := h'', toks := tk + 1 } :=
      I.turnedNew (ch := [e, it]) (fun b ob hb q => (sb.2 b (fun z => hb (by simp [z]))).trans (hk b ob (fun z => hb (by simp [z])) (fun z => hb (by simp [z])) q)) hf (Nat.le_refl _) new
    refine ⟨.ref s.heap.objs.size, _, I1, rfl, ⟨_, x, rfl, I.hok.fresh (Nat.le_refl _), rfl, fun ys hy => by rw [I.tuple_inj hy hq]; exact hx⟩, ⟨⟨x', ?_⟩, st'.1.at fun o q => (sb.2 it (Ne.symm hne)).trans q, hne⟩, fun b hb => ?_⟩
    · have e1 : ((i + 1 : Nat) : Int) = (i : Int) + 1 := by omega
      rw [e1]; exact he'
    · have hil : it < s.heap.objs.size := by obtain ⟨_, q, _⟩ := hit; exact Heap.lt_size q
      have hb' : b < s.heap.objs.size := by
        have e' : b = e ∨ b = it := by simpa using hb
        rcases e' with z | z
        · rw [z]; exact hel
        · rw [z]; exact hil
      rw [upd_ne (Nat.ne_of_lt hb')]
      exact (hf b hb).1
  done := by
    intro X hP hw hK hc i pins s σ H E I hf st hg
    subst hP hw hK
    obtain ⟨⟨old, he⟩, hit, hne⟩ := st
    obtain ⟨xs, hq, hx⟩ := hg
    obtain ⟨its, rv, p, hz⟩ := I.tuple hq
    have p : s.heap.IsTuple a its.toArray := p
    obtain ⟨f0, f1, f2, f3, f4, f5⟩ := hf it (by simp)
    have hl := rv.length
    have hai : a ≠ it := by
      rintro rfl
      obtain ⟨o, q1, _, n, q2⟩ := p
      obtain ⟨o', q3, _, q4⟩ := hit
      rw [q1] at q3
      cases q3
      rw [q2] at q4; cases q4
    have en : i = its.toArray.size := by simp; omega
    subst en
    exact wpAny_pyNext_enum_endD (Draws.tuple (prog := X.prog) (w := X.w) (A := X.A.in1) (I.ok.hd hc) it a hai its.toArray) he ⟨hit, p⟩ fun h' eb => ⟨rfl, I.turned (t' := s.toks) (fun b o hb q => eb b o hb q) f0 f1 f3 f4 f5⟩
  self := fun A i s Q E st h => let ⟨⟨_, he⟩, _⟩ := st; wpAny_pyIter_enum he h
variable [TabP]
/-- pairs of place and item -/
@[irreducible] def enumD (ds : List PyData) : List PyData := (List.range ds.length).map fun i => .tuple [.int (i : Nat), ds.getD i .none]
theorem enumD_len {ds : List PyData} : (enumD ds).length = ds.length := by unfold enumD; simp
theorem enumD_at {ds : List PyData} {i : Nat} {d : PyData} (h : ds[i]? = some d) : (enumD ds)[i]? = some (.tuple [.int (i : Nat), d]) := by
  have hlt := (List.getElem?_eq_some_iff.mp h).1
  unfold enumD
  rw [List.getElem?_map, List.getElem?_range hlt]
  simp only [Option.map_some]
  rw [List.getD_eq_getElem?_getD, h]; rfl
theorem ite_ok {K : PySem.W.Frag} {H : Hp} {p : Addr} {xs : List V} {ds : List PyData} (h : SqF H p xs) (a : PdAll K H ds xs) : ItOk K (Ite K p) (enumD ds) H := fun H' per => by
  have hs : SqL K H' p xs := (h.mono per).seq
  refine ⟨⟨xs, hs, by rw [enumD_len, a.len]; exact Nat.le_refl _⟩, fun i hi => ?_, fun i v H'' y hi => ?_⟩
  · rw [enumD_len, a.len] at hi
    exact ⟨xs, xs[i], hs, List.getElem?_eq_getElem hi⟩
  · obtain ⟨T, x, rfl, hT, rfl, y⟩ := y
    obtain ⟨d, e, q⟩ := a.getV (y xs hs)
    have sm := same_fresh (o := .tup [.int (i : Nat), x]) hT
    exact ⟨_, enumD_at e, .tup (.of upd_same) (.cons (.int _) (.cons ((q.mono per).mono (.same sm)) .nil)), sm⟩
theorem iteT_ok {K : PySem.W.Frag} {H : Hp} {p : Addr} {xs : List V} {ds : List PyData} (h : SqT K H p xs) (a : PdAll K H ds xs) : ItOk K (IteT K p) (enumD ds) H := fun H' per => by
  have hs : SqT K H' p xs := sqT_mono per h
  refine ⟨⟨xs, hs, by rw [enumD_len, a.len]⟩, fun i hi => ?_, fun i v H'' y hi => ?_⟩
  · rw [enumD_len, a.len] at hi
    exact ⟨xs, xs[i], hs, List.getElem?_eq_getElem hi⟩
  · obtain ⟨T, x, rfl, hT, rfl, y⟩ := y
    obtain ⟨d, e, q⟩ := a.getV (y xs hs)
    have sm := same_fresh (o := .tup [.int (i : Nat), x]) hT
    exact ⟨_, enumD_at e, .tup (.of upd_same) (.cons (.int _) (.cons ((q.mono per).mono (.same sm)) .nil)), sm⟩
def wEnum (ta : DT) : DIt := fun Γ R => ta Γ fun rv Γ1 => datR rv fun d => itemsD d fun ds => R (enumD ds) Γ1
theorem di_enum {X : Cx} {e : Expr} {ta : DT} {p pos tpos : Pos} {elts : List Expr} {kk : Nat} (hg : Gl X "enumerate") (hm : X.mg "enumerate" = none) (ha : PE X e (lft X.K ta)) (hs : starEach [e] X.env = [(false, eval e X.env)] := by rfl) (hs2 : starEach [e] X.env = (false, eval e X.env) :: starEach [] X.env := by rfl) :
    PI X (.Tuple elts kk tpos) (.Call (.Name "enumerate" p) [e] [] pos) (lftI X.K (wEnum ta)) := by
  refine ⟨fun pins s σ H R I ⟨Γ, RR, ok, ht, hR⟩ => ?_⟩
  refine Call_ (ld_blt I hg hm boot_enumerate (PyProof.Rows.callWith_type1 (thn ((pa_cons ha pa_nil hs2).run pos pins s σ H (fun vs H' => ∃ (d : PyData) (v : V) (Γ' : Fm), vs = [v] ∧ itemsD d (fun ds => RR (enumD ds) Γ') ∧ Ok X.K Γ' σ H' ∧ Ev Γ σ H Γ' H' ∧ Pd X.K H' d v) I ⟨Γ, _, ok, ht, fun rv Γ' v H' h1 ok1 ev1 r1 => ?_⟩) fun us s1 ⟨vs, H1, I1, r1, q1⟩ => ?_) hs rfl))
  · obtain ⟨d, rfl, h1⟩ := datR_ex h1
    exact ⟨d, v, Γ', rfl, h1, ok1, ev1, r1⟩
  · obtain ⟨d, v, Γ1, rfl, q, ok1, ev1, pd⟩ := q1
    cases r1 with
    | cons r rr =>
      cases rr
      cases d with
      | list ds =>
        cases pd with
        | @lst p xs _ sq a =>
          cases r
          obtain ⟨its, rv, p', hz⟩ := I1.list (sq.seq (K := X.K))
          refine call_enumerate_list p'.isList fun h' he hit hsz hk => wpAny_pyIter_enum he ?_
          have I2 : Inv X pins σ H1 { s1 with heap := h' } := I1.kept (t' := s1.toks) hk
          refine ⟨s1.heap.objs.size + 1, [s1.heap.objs.size + 1, s1.heap.objs.size], _, _, H1, rfl, I2, turn_enum p (s1.heap.objs.size + 1) s1.heap.objs.size, ⟨⟨.none, he⟩, hit, Nat.succ_ne_self _⟩, fun b hb => ?_, hR _ _ _ _ q ok1 ev1 (ite_ok sq a)⟩
          have e' : b = s1.heap.objs.size + 1 ∨ b = s1.heap.objs.size := by simpa using hb
          have hle : s1.heap.objs.size ≤ b := by
            rcases e' with z | z
            · rw [z]; exact Nat.le_add_right _ _
            · rw [z]; exact Nat.le_refl _
          exact I1.fpOk hle (I1.hok.fresh hle)
      | tuple ds =>
        cases pd with
        | @tup p xs _ sq a =>
          cases r
          obtain ⟨its, rv, p', hz⟩ := I1.tuple sq
          have p' : s1.heap.IsTuple p its.toArray := p'
          refine call_enumerate_tup p' fun h' he hit hsz hk => wpAny_pyIter_enum he ?_
          have I2 : Inv X pins σ H1 { s1 with heap := h' } := I1.kept (t' := s1.toks) hk
          refine ⟨s1.heap.objs.size + 1, [s1.heap.objs.size + 1, s1.heap.objs.size], _, _, H1, rfl, I2, turn_enumT p (s1.heap.objs.size + 1) s1.heap.objs.size, ⟨⟨.none, he⟩, hit, Nat.succ_ne_self _⟩, fun b hb => ?_, hR _ _ _ _ q ok1 ev1 (iteT_ok sq a)⟩
          have e' : b = s1.heap.objs.size + 1 ∨ b = s1.heap.objs.size := by simpa using hb
          have hle : s1.heap.objs.size ≤ b := by
            rcases e' with z | z
            · rw [z]; exact Nat.le_add_right _ _
            · rw [z]; exact Nat.le_refl _
          exact I1.fpOk hle (I1.hok.fresh hle)
      | _ => exact q.elim
end DL
set_option Elab.async false
set_option linter.all false
set_option maxRecDepth 100000
set_option maxHeartbeats 4000000
/-! DL24: dict displays with written texts as keys, an item of a dict; the place of an item in a list. -/
namespace DL
open PySem PySem.Spec PyProof.Rows L2
variable [TabP]
/-- values in a row, each under its key -/
def tVals : List (Str × DT) → DTa
  | [] => tN
  | p :: r => tC' p.2 (tVals r)
def trsOf (K : PySem.W.Frag) (l : List (Str × DT)) : List (TE × TE) := l.map fun p => (tC (.str p.1), lft K p.2)
theorem vals_run {K : PySem.W.Frag} : ∀ (l : List (Str × DT)) (σ : L2.St) (H : Hp) (Q : List (V × V) → Hp → Prop) (Γ : Fm) (R : List RV → Fm → Prop), Ok K Γ σ H → tVals l Γ R →
    (∀ rs Γ' vs H', R rs Γ' → rs.length = l.length → Ok K Γ' σ H' → Ev Γ σ H Γ' H' → RvAll K Γ' σ H H' rs vs → Q ((l.map fun p => V.str p.1).zip vs) H') → tPairs (trsOf K l) σ H Q
  | [], σ, H, Q, Γ, R, ok, ht, hQ => hQ [] Γ [] H ht rfl ok .rfl .nil
  | (k, t) :: l, σ, H, Q, Γ, R, ok, ht, hQ => by
    show (tC (.str k)) σ H _
    refine ⟨Γ, _, ok, ht, fun rv Γ1 v H1 h1 ok1 ev1 r1 => ?_⟩
    refine vals_run l σ H1 _ Γ1 _ ok1 h1 fun rs Γ2 vs H2 h2 hl ok2 ev2 r2 => ?_
    have away : FrAway rv v rs vs := fun c hc i c' hi hv => by
      subst hc
      obtain ⟨p, rfl, a, _⟩ := r1
      obtain ⟨o, e, _⟩ := a.some
      obtain ⟨q, hq, z⟩ := rv_new r2 hi
      rw [hv] at hq
      cases hq
      rw [z] at e; cases e
    have up : ∀ {rs : List RV} {vs : List V}, RvAll K Γ2 σ H1 H2 rs vs → RvAll K Γ2 σ H H2 rs vs := by
      intro rs
      induction rs with
      | nil => intro vs h; cases h; exact .nil
      | cons r rs ih => intro vs h; cases h with | cons p q z => exact .cons (p.up ev1) (ih q) z
    exact hQ (rv :: rs) Γ2 (v :: vs) H2 h2 (by rw [List.length_cons, List.length_cons, hl]) ok2 (ev1.trans ev2) (.cons (r1.on ev1 ok ev2) (up r2) away)
theorem pdkv_put {K : PySem.W.Frag} {H : Hp} {k : Key} {d : PyData} {v : V} (hd : Pd K H d v) : ∀ {ds : List (Key × PyData)} {vs : List (Key × V)}, PdKV K H ds vs →
    PdKV K H (if (ds.any fun kv => decide (kv.1 = k)) = true then ds.map (fun kv => if kv.1 = k then (kv.1, d) else kv) else ds ++ [(k, d)]) (putK vs k v) := by
  have an : ∀ {ds : List (Key × PyData)} {vs : List (Key × V)}, PdKV K H ds vs → (ds.any fun kv => decide (kv.1 = k)) = (vs.any fun kv => decide (kv.1 = k)) := by
    intro ds vs h
    induction h with
    | nil => rfl
    | cons a b ih => rw [List.any_cons, List.any_cons, ih]
  have mp : ∀ {ds : List (Key × PyData)} {vs : List (Key × V)}, PdKV K H ds vs → PdKV K H (ds.map (fun kv => if kv.1 = k then (kv.1, d) else kv)) (vs.map (fun kv => if kv.1 = k then (kv.1, v) else kv)) := by
    intro ds vs h
    induction h with
    | nil => exact .nil
    | @cons k' d' v' ds vs a b ih =>
      rw [List.map_cons, List.map_cons]
      by_cases e : k' = k
      · rw [if_pos e, if_pos e]; exact .cons hd ih
      · rw [if_neg e, if_neg e]; exact .cons a ih
  have ap : ∀ {ds : List (Key × PyData)} {vs : List (Key × V)}, PdKV K H ds vs → PdKV K H (ds ++ [(k, d)]) (vs ++ [(k, v)]) := by
    intro ds vs h
    induction h with
    | nil => exact .cons hd .nil
    | cons a b ih => exact .cons a ih
  intro ds vs h
  unfold putK
  rw [an h]
  split
  · exact mp h
  · exact ap h
/-- a key's item set -/
def putD (ds : List (Key × PyData)) (k : Key) (d : PyData) : List (Key × PyData) := if (ds.any fun kv => decide (kv.1 = k)) = true then ds.map (fun kv => if kv.1 = k then (kv.1, d) else kv) else ds ++ [(k, d)]
@[irreducible] def mergeD (ds more : List (Key × PyData)) : List (Key × PyData) := more.foldl (fun acc kv => putD acc kv.1 kv.2) ds
@[irreducible] def getD' (ds : List (Key × PyData)) (k : Key) : Option PyData := (ds.find? fun kv => decide (kv.1 = k)).map (·.2)
theorem pdkv_fold {K : PySem.W.Frag} {H : Hp} : ∀ {more : List (Key × PyData)} {mv : List (Key × V)} {ds : List (Key × PyData)} {vs : List (Key × V)}, PdKV K H more mv → PdKV K H ds vs → PdKV K H (more.foldl (fun acc kv => putD acc kv.1 kv.2) ds) (mv.foldl (fun acc kv => putK acc kv.1 kv.2) vs)
  | _, _, ds, vs, .nil, h => h
  | _, _, ds, vs, .cons a b, h => by
    rw [List.foldl_cons, List.foldl_cons]
    exact pdkv_fold b (pdkv_put a h)
theorem pdkv_merge {K : PySem.W.Frag} {H : Hp} {more : List (Key × PyData)} {mv : List (Key × V)} {ds : List (Key × PyData)} {vs : List (Key × V)} (a : PdKV K H more mv) (b : PdKV K H ds vs) : PdKV K H (mergeD ds more) (mergeK vs mv) := by
  unfold mergeD mergeK
  exact pdkv_fold a b
theorem pdkv_get {K : PySem.W.Frag} {H : Hp} {k : Key} : ∀ {ds : List (Key × PyData)} {vs : List (Key × V)} {d : PyData}, PdKV K H ds vs → getD' ds k = some d → ∃ v, valV vs k = some v ∧ Pd K H d v
  | _, _, d, .nil, e => by unfold getD' at e; cases e
  | _, _, d, .cons (k := k') a b, e => by
    by_cases h : k' = k
    · have : getD' ((k', _) :: _) k = some _ := e
      unfold getD' at this
      rw [List.find?_cons, decide_eq_true h] at this
      cases this
      exact ⟨_, valV_pos h, a⟩
    · have : getD' ((k', _) :: _) k = some d := e
      unfold getD' at this
      rw [List.find?_cons, decide_eq_false h] at this
      obtain ⟨v, h1, h2⟩ := pdkv_get (k := k) b (by unfold getD'; exact this)
      exact ⟨v, by rw [valV_neg h]; exact h1, h2⟩
section
variable {X : Cx} {pos : Pos} {a b c : Expr} {ta tb : DT}
structure DPs (X : Cx) (pos : Pos) (keys : List (Option Expr)) (values : List Expr) (l : List (Str × DT)) : Prop where
  run : PPs X pos keys values (trsOf X.K l)
theorem dp_nil : DPs X pos [] [] [] := ⟨pps_nil⟩
theorem dp_cons {x : Str} {j : Nat} {p : Pos} {ks : List (Option Expr)} {vs : List Expr} {l : List (Str × DT)} (ha : PE X a (lft X.K ta)) (h : DPs X pos ks vs l) : DPs X pos (some (.Constant (.str x) j p) :: ks) (a :: vs) ((x, ta) :: l) :=
  ⟨pps_cons pe_str ha h.run⟩
def allKV : List Str → List RV → Option (List (Key × PyData))
  | [], [] => some []
  | k :: ks, .d x :: rs => (allKV ks rs).map ((.inr k, x) :: ·)
  | _, _ => none
def optK : Option (List (Key × PyData)) → (List (Key × PyData) → Prop) → Prop
  | some d, k => k d
  | none, _ => False
theorem allKV_pd {K : PySem.W.Frag} {Γ : Fm} {σ : L2.St} {H0 H : Hp} : ∀ {ks : List Str} {rs : List RV} {vs : List V} {kvs : List (Key × PyData)}, RvAll K Γ σ H0 H rs vs → allKV ks rs = some kvs →
    ∃ ws, PdKV K H kvs ws ∧ (ks.map V.str).zip vs = ws.map (fun kv => (kV kv.1, kv.2)) ∧ ws.length = ks.length
  | [], [], _, _, h, e => by cases h; cases e; exact ⟨[], .nil, rfl, rfl⟩
  | k :: ks, .d x :: rs, _, _, h, e => by
    cases h with
    | cons p q z =>
      unfold allKV at e
      cases w : allKV ks rs with
      | none => rw [w] at e; cases e
      | some d =>
        rw [w] at e; cases e
        obtain ⟨ws, h1, h2, h3⟩ := allKV_pd q w
        exact ⟨_, .cons p h1, by rw [List.map_cons, List.zip_cons_cons, h2]; rfl, by rw [List.length_cons, List.length_cons, h3]⟩
  | k :: ks, [], _, _, h, e => by cases e
  | k :: ks, .s _ :: rs, _, _, h, e => by cases e
  | k :: ks, .f _ :: rs, _, _, h, e => by cases e
  | [], _ :: _, _, _, h, e => by cases e
/-- {k: e, ..} -/
def tDct (l : List (Str × DT)) : DT := fun Γ R => tVals l Γ fun rs Γ1 => optK (allKV (l.map (·.1)) rs) fun kvs => R (.f (.dct (mergeD [] kvs))) Γ1
theorem de_dct {keys : List (Option Expr)} {values : List Expr} {l : List (Str × DT)} (h : DPs X pos keys values l) (hall : keys.all (·.isSome) = true := by rfl) (hl : keys.length = values.length := by rfl) (h0 : keys ≠ [] := by simp) (h15 : keys.length ≤ 15 := by decide) (hl2 : l.length = keys.length := by rfl) :
    PE X (.Dict keys values pos) (lft X.K (tDct l)) := by
  refine pe_wk (pe_disp h.run hall hl h0 h15) fun σ H Q ⟨Γ, R, ok, ht, hQ⟩ p hp => ?_
  have sm := same_fresh (o := .dK []) hp
  have ok0 := ok.new sm
  refine vals_run l σ _ _ Γ _ ok0 ht fun rs Γ1 vs H1 h1 hlr ok1 ev1 r1 => ?_
  cases w : allKV (l.map (·.1)) rs with
  | none => rw [w] at h1; exact h1.elim
  | some kvs =>
    rw [w] at h1
    obtain ⟨ws, pk, ez, lw⟩ := allKV_pd r1 w
    have nca : ¬ CA Γ σ p := ok.noca hp
    have hp1 : H1 p = some (.dK []) := ev1.fr p _ upd_same (fun _ z => nomatch z) nca
    have nca1 : ¬ CA Γ1 σ p := fun z => nca (ev1.sub p z)
    have per : Per H1 (upd H1 p (.dK (mergeK [] ws))) := .mut hp1 (fun _ z => by cases z) fun _ _ z => by cases z
    refine ⟨hp1, ws, by rw [← ez, List.map_map]; rfl, by rw [lw, List.length_map, hl2]; exact h15, ?_⟩
    have ev : Ev Γ σ H Γ1 (upd H1 p (.dK (mergeK [] ws))) := by
      have e0 : Ev Γ σ H Γ1 H1 := (Ev.new (Γ := Γ) (σ := σ) sm).trans ev1
      refine ⟨e0.sub, e0.per.trans per, fun b o e t n => ?_, fun b hb => ?_, e0.pin, e0.dfn⟩
      · rw [upd_ne fun z => by subst z; rw [hp] at e; cases e]; exact e0.fr b o e t n
      · by_cases z : b = p
        · subst z; exact hp
        · rw [upd_ne z] at hb; exact e0.dom b hb
    exact hQ _ _ _ _ h1 (ok1.stay per fun b hb => upd_ne fun z => nca1 (z ▸ hb)) ev ⟨p, rfl, ⟨_, upd_same, (pdkv_merge pk .nil).mono per⟩, hp⟩
/-- what dict it is -/
def dctAt (Γ : Fm) : RV → (List (Key × PyData) → Prop) → Prop
  | .f (.dct kvs), k => k kvs
  | .s i, k => match Γ[i]? with
    | some (.c _ (.dct kvs)) => k kvs
    | _ => False
  | _, _ => False
def keyP : PyData → (Key → Prop) → Prop
  | .int i, k => k (.inl i)
  | .str z, k => k (.inr z)
  | _, _ => False
theorem dct_rd {K : PySem.W.Frag} {Γ : Fm} {σ : L2.St} {H0 H : Hp} {rv : RV} {v : V} {k : List (Key × PyData) → Prop} (ok : Ok K Γ σ H) (r : RvOk K Γ σ H0 H rv v) (h : dctAt Γ rv k) : ∃ a kvs ws, v = .ref a ∧ H a = some (.dK ws) ∧ PdKV K H kvs ws ∧ k kvs := by
  cases rv with
  | d x => exact h.elim
  | s i =>
    obtain ⟨e, sv, h1, _⟩ := r
    unfold dctAt at h
    dsimp only at h
    rw [h1] at h
    cases sv with
    | no => exact h.elim
    | d y => exact h.elim
    | c b c =>
      cases c with
      | lst _ => exact h.elim
      | dct kvs =>
        obtain ⟨p, a, ws, q1, q2⟩ := ok.cel i b _ h1
        rw [e] at a; cases a
        exact ⟨p, kvs, ws, rfl, q1, q2, h⟩
  | f c =>
    obtain ⟨p, rfl, a, _⟩ := r
    cases c with
    | lst _ => exact h.elim
    | dct kvs =>
      obtain ⟨ws, q1, q2⟩ := a
      exact ⟨p, kvs, ws, rfl, q1, q2, h⟩
def tDIx (ta tb : DT) : DT := fun Γ R => ta Γ fun rv Γ1 => tb Γ1 fun ri Γ2 => dctAt Γ2 rv fun kvs => optD (val Γ2 ri) fun di => keyP di fun k => optD (getD' kvs k) fun d => R (.d d) Γ2
theorem key_rb {K : PySem.W.Frag} {H : Hp} {d : PyData} {v : V} {f : Key → Prop} (r : Rb K H d v) (h : keyP d f) : ∃ k, v = kV k ∧ f k := by
  cases d with
  | int i => exact ⟨.inl i, r.int, h⟩
  | str z => exact ⟨.inr z, r.str, h⟩
  | _ => exact h.elim
theorem de_dix (hu : X.A.units + 64 < cLine) (ha : PE X a (lft X.K ta)) (hb : PE X b (lft X.K tb)) (hs : NoSl b := by intro _ _; rfl) : PE X (.Subscript a b pos) (lft X.K (tDIx ta tb)) := by
  refine pe_wk (pe_dget (by omega) ha hb hs) fun σ H Q ⟨Γ, R, ok, ht, hQ⟩ => ⟨Γ, _, ok, ht, fun rv Γ1 v H1 h1 ok1 ev1 r1 => ⟨Γ1, _, ok1, h1, fun ri Γ2 u H2 h2 ok2 ev2 r2 => ?_⟩⟩
  obtain ⟨p, kvs, ws, rfl, q1, q2, h2⟩ := dct_rd ok2 (r1.on ev1 ok ev2) h2
  obtain ⟨di, ei, h2⟩ := optD_ex h2
  obtain ⟨k, rfl, h2⟩ := key_rb (rdb ok2 r2 ei) h2
  obtain ⟨d, ed, h2⟩ := optD_ex h2
  obtain ⟨w, hw, pw⟩ := pdkv_get q2 ed
  exact ⟨p, w, rfl, by rw [← hw]; exact .k q1, hQ _ _ _ _ h2 ok2 (ev1.trans ev2) pw⟩
/-! x.index(y) -/
def idxOf (ds : List PyData) (d : PyData) : Option Nat := ds.findIdx? fun z => PyData.eqv z d
def idxP (ds : List PyData) (d : PyData) (f : Nat → Prop) : Prop := SeqAt.shaped (.list ds) = true ∧ SeqAt.shaped d = true ∧ match idxOf ds d with
  | some j => f j
  | none => False
def tIdx (ta tb : DT) : DT := fun Γ R => ta Γ fun rv Γ1 => optD (val Γ1 rv) fun _ => tb Γ1 fun ri Γ2 => optD (val Γ2 rv) fun dl => listD dl fun ds => optD (val Γ2 ri) fun d => idxP ds d fun j => R (.d (.int (j : Nat))) Γ2
def listV (o : Option PyData) (A : Prop) : Prop := match o with
  | some (.list _) => A
  | _ => False
theorem listV_ex {o : Option PyData} {A : Prop} (h : listV o A) : (∃ ds, o = some (.list ds)) ∧ A := by
  unfold listV at h
  split at h
  · exact ⟨⟨_, rfl⟩, h⟩
  · exact h.elim
def tIndex (ta tb : DT) : DT := fun Γ R => ta Γ fun rv Γ1 => listV (val Γ1 rv) (tb Γ1 fun ri Γ2 => optD (val Γ2 rv) fun dl => listD dl fun ds => optD (val Γ2 ri) fun d => idxP ds d fun j => R (.d (.int (j : Nat))) Γ2)
theorem idx_of {ds : List PyData} {d : PyData} {j : Nat} (h : idxOf ds d = some j) : ∃ z, ds[j]? = some z ∧ PyData.eqv z d = true ∧ ∀ (m : Nat) (z' : PyData), m < j → ds[m]? = some z' → PyData.eqv z' d = false := by
  unfold idxOf at h
  rw [List.findIdx?_eq_some_iff_getElem] at h
  obtain ⟨h1, h2, h3⟩ := h
  refine ⟨ds[j], List.getElem?_eq_getElem h1, h2, fun m z' hm hz => ?_⟩
  have := h3 m hm
  rw [List.getElem?_eq_getElem (by omega)] at hz
  cases hz
  simpa using this
theorem de_index {apos cpos : Pos} (hu : X.A.units + 65 < cLine) (ho : PE X a (lft X.K ta)) (ha : PE X b (lft X.K tb))
    (hbase : attributeBase a "index" X.env (eval a X.env) = eval a X.env := by rfl)
    (hfew : ((backTo cpos (starEach [b] X.env)).all (fun x => !x.1) && (backToKw cpos (keywordEach [] X.env)).all (fun x => x.1.isSome)
      && decide (([b] : List Expr).length + ([] : List Keyword).length + (if ([] : List Keyword).isEmpty then 0 else 1) < 30)) = true := by rfl)
    (hline : (apos.endLine == cpos.line) = true := by rfl) (hs : starEach [b] X.env = (false, eval b X.env) :: starEach [] X.env := by rfl) (hplain : (backTo cpos (starEach [] X.env)).any (·.1) = false := by rfl) :
    PE X (.Call (.Attribute a "index" apos) [b] [] cpos) (lft X.K (tIndex ta tb)) := by
  refine pe_wk (pe_bm PySem.F.plainAttrs_list PySem.F.slot_list_index PySem.F.type_list_index (mt_indexD hu) ho (pa_cons ha pa_nil hs) hbase hfew hline hs hplain) fun σ H Q ⟨Γ, R, ok, ht, hQ⟩ => ?_
  refine ⟨Γ, _, ok, ht, fun rv Γ1 v H1 h1 ok1 ev1 r1 => ?_⟩
  obtain ⟨⟨ds0, e0⟩, h1⟩ := listV_ex h1
  obtain ⟨p, xs, rfl, hp, _⟩ := (rdb ok1 r1 e0).list
  refine ⟨.inl ⟨rfl, xs, .inl hp⟩, Γ1, _, ok1, h1, fun ri Γ2 u H2 h2 ok2 ev2 r2 => ?_⟩
  obtain ⟨dl, el, h2⟩ := optD_ex h2
  obtain ⟨ds, rfl, h2⟩ := listD_ex h2
  obtain ⟨d, ed, h2⟩ := optD_ex h2
  obtain ⟨s1, s2, h2⟩ := h2
  have q1 := rdb ok2 (r1.on ev1 ok ev2) el
  have q2 := rdb ok2 r2 ed
  cases w : idxOf ds d with
  | none => rw [w] at h2; exact h2.elim
  | some j =>
    rw [w] at h2
    obtain ⟨z, z1, z2, z3⟩ := idx_of w
    exact ⟨p, u, d, ds, j, z, rfl, rfl, q1.dp, q2.dp, s1, s2, z1, z2, z3, hQ _ _ _ _ h2 ok2 (ev1.trans ev2) (.int _)⟩
end
end DL
set_option Elab.async false
set_option linter.all false
set_option maxRecDepth 100000
set_option maxHeartbeats 4000000
/-! M1: what the laws' helpers do. -/
local macro_rules | `(tactic| walk_at "dl.s") => `(tactic| first | exact DL.shaped_int | exact DL.shaped_bool | exact DL.shaped_non | assumption | (with_reducible decide) | omega | exact DL.cmulw 64 64 (by omega) (by omega) (by decide) | exact DL.cdivw (by omega) (by omega) | exact DL.cmulw 64 64 (by decide) (by decide) (by decide) | exact DL.cpow (by decide) (by decide) (by decide) | exact rfl | exact Nat.le_of_ble_eq_true rfl | fail)
local macro_rules | `(tactic| walk_at "dl") => `(tactic| ((conv => whnf); repeat' (first | (refine And.intro (by walk_at "dl.s") ?_; conv => whnf) | (refine DL.condP_tt (by rfl) ?_; conv => whnf) | (refine DL.condP_ff (by rfl) ?_; conv => whnf) | fail)))
local macro_rules | `(tactic| walk_at "dl.if") => `(tactic| (refine DL.condP_by (fun h => ?_) (fun h => ?_) <;> (try simp only [DL.eqv_int, DL.eqv_str, DL.eqv_bool, DL.Cp.i, beq_iff_eq, decide_eq_true_eq, decide_eq_false_iff_not, beq_eq_false_iff_ne, List.length_map, ne_eq, Bool.not_eq_true', Bool.not_eq_false', Int.reduceToNat, Int.reducePow] at h)))
namespace DL
open PySem PySem.Spec PyProof.Rows L2
def bNext1 : DS :=
    (sIf (tAndT (tCmp2 fEq (tBin fIx (tName 0) (tK (.int 2))) (tK (.int 0))) (tCmp2 (fOrdr .lt) (tBin fIx (tName 0) (tK (.int 1))) (tCB' fLen (tC' (tBin fIx (tName 0) (tK (.int 0))) tN)))) (sSeq (sAsg (tCB' fAbs (tC' (tCB' fInt (tC' (tBin fIx (tBin fIx (tName 0) (tK (.int 0))) (tBin fIx (tName 0) (tK (.int 1)))) tN)) tN)) (gNm 2))
    (sSeq (sAugI 0 (tK (.int 1)) (tK (.int 1)) ipAdd)
    (sIf (tCmp2 (fOrdr .ge) (tName 2) (tBin (fI CPow fun i j => .int (i ^ j.toNat)) (tK (.int 10)) (tK (.int 18)))) (sAsg (tFrz (tName 2)) (gSb 0 (tK (.int 2)))) (sAsg (tBin (fI (fun _ j => 0 < j) fun i j => .int (i % j)) (tCB' fInt (tC' (tBin fAdd (tBin fAdd (tBin (fI CMulW fun i j => .int (i * j)) (tBin fIx (tName 0) (tK (.int 3))) (tK (.int 48271))) (tBin (fI (fun _ j => 0 < j) fun i j => .int (i % j)) (tCB' fInt (tC' (tName 2) tN)) (tK (.int 2147483647)))) (tK (.int 7))) tN)) (tK (.int 2147483647))) (gSb 0 (tK (.int 3))))))) sNext)
def bNext2 : DS :=
    (sIf (tCmp2 (fOrdr .gt) (tBin fIx (tName 0) (tK (.int 2))) (tK (.int 0))) (sSeq (sAsg (tBin (fI (fun _ j => 0 < j) fun i j => .int (i % j)) (tCB' fInt (tC' (tBin fIx (tName 0) (tK (.int 2))) tN)) (tName 1)) (gNm 3))
    (sSeq (sAsg (tBin (fI CDivW fun i j => .int (i / j)) (tBin fIx (tName 0) (tK (.int 2))) (tName 1)) (gSb 0 (tK (.int 2))))
    (sRet (tFrz (tName 3))))) sNext)
def bNext3 : DS :=
    (sAsg (tBin (fI (fun _ j => 0 < j) fun i j => .int (i % j)) (tCB' fInt (tC' (tBin fAdd (tBin (fI CMulW fun i j => .int (i * j)) (tBin fIx (tName 0) (tK (.int 3))) (tK (.int 69621))) (tK (.int 12345))) tN)) (tK (.int 2147483647))) (gSb 0 (tK (.int 3))))
def bNext4 : DS :=
    (sRet (tBin (fI (fun _ j => 0 < j) fun i j => .int (i % j)) (tCB' fInt (tC' (tBin (fI CDivW fun i j => .int (i / j)) (tBin fIx (tName 0) (tK (.int 3))) (tK (.int 7))) tN)) (tName 1)))
def bNext : DS := sSeq bNext1 (sSeq bNext2 (sSeq bNext3 (bNext4)))
def bSame (m__law_same : PM) : DS :=
    (sSeq (sIf (tCmp2 fIsN (tName 1) (tK .none)) (sRet (tBin fIsN (tName 0) (tK .none))) sNext)
    (sSeq (sIf (tVal (tIsi .bool (tName 1))) (sRet (tAndV (tIsi .bool (tName 0)) (tBin fEq (tName 0) (tName 1)))) sNext)
    (sSeq (sIf (tVal (tIsi .int (tName 1))) (sRet (tAndV (tIsi .int (tName 0)) (tAndV (tNotV (tIsi .bool (tName 0))) (tBin fEq (tName 0) (tName 1))))) sNext)
    (sSeq (sIf (tVal (tIsi .str (tName 1))) (sRet (tAndV (tIsi .str (tName 0)) (tBin fEq (tName 0) (tName 1)))) sNext)
    (sSeq (sIf (tAndT (tVal (tIsi .tuple (tName 1))) (tNotT (tVal (tIsi .tuple (tName 0))))) (sRet (tK (.bool false))) sNext)
    (sSeq (sIf (tAndT (tVal (tIsi .list (tName 1))) (tNotT (tVal (tIsi .list (tName 0))))) (sRet (tK (.bool false))) sNext)
    (sSeq (sIf (tCmp2 fNe (tCB' fLen (tC' (tName 0) tN)) (tCB' fLen (tC' (tName 1) tN))) (sRet (tK (.bool false))) sNext)
    (sSeq (sFor (wRng (tCB' fLen (tC' (tName 1) tN))) (.nm 2) (sIf (tNotT (tTru (tCallP m__law_same (tC' (tBin fIx (tName 0) (tName 2)) (tC' (tBin fIx (tName 1) (tName 2)) tN))))) (sRet (tK (.bool false))) sNext))
    (sRet (tK (.bool true)))))))))))
/-- what the laws' state holds -/
def St (cs : List PyData) : Prop := ∃ (ns : List Int) (p b m : Int), cs = [.list (ns.map .int), .int p, .int b, .int m] ∧ ns.length ≤ 63 ∧ 0 ≤ p ∧ p ≤ ns.length ∧ 0 ≤ b ∧ 0 ≤ m ∧ m < 2147483647
/-- _law_next: a number from 0 on, below the limit -/
def mNext : IM := fun cs ds R => St cs ∧ ∃ L : Int, ds = [.int L] ∧ 0 < L ∧ L < 2 ^ 63 ∧ ∀ r cs', 0 ≤ r → r < L → St cs' → R (.int r) cs'
theorem atI_map {ns : List Int} {p : Int} (h0 : 0 ≤ p) (h1 : p < ns.length) : atI (ns.map PyData.int) p = some (.int (ns.getD p.toNat 0)) := by
  rw [atI_lt h0 (by rw [List.length_map]; exact h1), List.getElem?_map]
  have : p.toNat < ns.length := by omega
  rw [List.getElem?_eq_getElem this, List.getD_eq_getElem?_getD, List.getElem?_eq_getElem this]; rfl
theorem cpi_lt {a b : Int} {c : Bool} (h : Cp.lt.i a b = c) : (a < b) = (c = true) := by subst h; simp [Cp.i]
theorem cpi_le {a b : Int} {c : Bool} (h : Cp.le.i a b = c) : (a ≤ b) = (c = true) := by subst h; simp [Cp.i]
theorem cpi_gt {a b : Int} {c : Bool} (h : Cp.gt.i a b = c) : (b < a) = (c = true) := by subst h; simp [Cp.i]
theorem cpi_ge {a b : Int} {c : Bool} (h : Cp.ge.i a b = c) : (b ≤ a) = (c = true) := by subst h; simp [Cp.i]
theorem next_tail (ns : List Int) (L p b m : Int) (cl : SV) (R : PyData → List PyData → Prop) (hn : ns.length ≤ 63) (hp0 : 0 ≤ p) (hp1 : p ≤ ns.length) (hb : 0 ≤ b) (hm0 : 0 ≤ m) (hm1 : m < 2147483647) (hL : 0 < L) (hlog : L < 9223372036854775808)
    (q : ∀ r cs', 0 ≤ r → r < L → St cs' → R (.int r) cs') : (sSeq bNext2 (sSeq bNext3 bNext4)) (eI R) [.c true (.lst [.list (ns.map .int), .int p, .int b, .int m]), .d (.int L), cl, .no] := by
  have ml := Int.emod_lt_of_pos (b) hL
  have mn := Int.emod_nonneg b (show L ≠ 0 by omega)
  walk_at "dl"
  walk_at "dl.if"
  · walk_at "dl"
    exact q _ _ mn ml ⟨ns, p, _, m, rfl, hn, hp0, hp1, Int.ediv_nonneg hb (by omega), hm0, hm1⟩
  · walk_at "dl"
    exact q _ _ (Int.emod_nonneg _ (by omega)) (Int.emod_lt_of_pos _ hL) ⟨ns, p, b, _, rfl, hn, hp0, hp1, hb, by omega, by omega⟩
theorem next_ok (cs ds : List PyData) (R : PyData → List PyData → Prop) (h : mNext cs ds R) : bNext (eI R) (.c true (.lst cs) :: (ds.map SV.d ++ bl (4 - ds.length - 1))) := by
  obtain ⟨⟨ns, p, b, m, rfl, hn, hp0, hp1, hb, hm0, hm1⟩, L, rfl, hL, hlog, q⟩ := h
  have hlog : L < 9223372036854775808 := hlog
  have fin := fun (p b m : Int) cl a1 a2 a3 a4 a5 => next_tail ns L p b m cl R hn a1 a2 a3 a4 a5 hL hlog q
  walk_at "dl"
  walk_at "dl.if"
  · walk_at "dl"
    walk_at "dl.if"
    · conv => whnf
      rename_i h1 h2
      rw [atI_map hp0 (by omega)]
      walk_at "dl"
      walk_at "dl.if"
      · refine fin (p + 1) _ m _ (by omega) (by omega) ?_ hm0 hm1
        split <;> omega
      · walk_at "dl"
        exact fin (p + 1) b _ _ (by omega) (by omega) hb (Int.emod_nonneg _ (by omega)) (Int.emod_lt_of_pos _ (by omega))
    · rename_i h1 h2
      subst h1
      exact fin p _ m _ hp0 hp1 hb hm0 hm1
  · walk_at "dl"
    exact fin p b m _ hp0 hp1 hb hm0 hm1

/-! ### ranges -/
def rgl : Nat → Nat → List PyData
  | _, 0 => []
  | i, n + 1 => .int i :: rgl (i + 1) n
theorem rgl_map : ∀ (n i : Nat), (List.range' i n).map (fun i : Nat => PyData.int (i : Int)) = rgl i n
  | 0, _ => rfl
  | n + 1, i => by
    unfold rgl
    rw [List.range'_succ, List.map_cons, rgl_map n (i + 1)]
theorem rngD_rgl {n : Nat} : rngD 0 n = rgl 0 n := by
  unfold rngD
  rw [← rgl_map, List.range_eq_range']
  apply List.map_congr_left
  intro a _
  simp
theorem atI_nat {α : Type} {xs : List α} {i : Nat} (h : i < xs.length) : atI xs (i : Int) = some xs[i] := by
  rw [atI_lt (by omega) (by omega), show (i : Int).toNat = i from rfl, List.getElem?_eq_getElem h]
/-! ### _law_same -/
def shp : Nat → PyData → Prop
  | _, .none => True
  | _, .bool _ => True
  | _, .int _ => True
  | _, .str x => PyData.strOk x = true
  | n + 1, .list xs => xs.length ≤ 16777216 ∧ ∀ x ∈ xs, shp n x
  | n + 1, .tuple xs => xs.length ≤ 16777216 ∧ ∀ x ∈ xs, shp n x
  | _, _ => False
def mSame (n : Nat) : PM := fun ds R => ∃ a, ds = [a, a] ∧ shp n a ∧ R (.bool true)
def mPrev : Nat → PM
  | 0 => fun _ _ => False
  | n + 1 => mSame n
def bSameL (m__law_same : PM) : DS := (sIf (tNotT (tTru (tCallP m__law_same (tC' (tBin fIx (tName 0) (tName 2)) (tC' (tBin fIx (tName 1) (tName 2)) tN))))) (sRet (tK (.bool false))) sNext)
theorem same_loop_l (n : Nat) (xs : List PyData) (E : DEnds) (hx : ∀ x ∈ xs, shp n x) (hE : ∀ sv, (∃ x, sv = SV.d x) ∨ sv = .no → E.nx [.d (.list xs), .d (.list xs), sv]) : ∀ (m i : Nat) (sv : SV), i + m = xs.length → (∃ x, sv = SV.d x) ∨ sv = .no → loopW (.nm 2) (bSameL (mSame n)) E (rgl i m) [.d (.list xs), .d (.list xs), sv]
  | 0, i, sv, h, hs => by unfold rgl loopW; exact hE sv hs
  | m + 1, i, sv, h, hs => by
    unfold rgl loopW
    have ih := same_loop_l n xs E hx hE m (i + 1) (.d (.int i)) (by omega) (.inl ⟨_, rfl⟩)
    have e := atI_nat (xs := xs) (i := i) (by omega)
    have hp := hx xs[i] (List.getElem_mem _)
    rcases hs with ⟨x, rfl⟩ | rfl <;> (conv => whnf) <;> rw [e] <;> (conv => whnf) <;> rw [e] <;> exact ⟨_, rfl, hp, condP_ff rfl ih⟩
theorem same_loop_t (n : Nat) (xs : List PyData) (E : DEnds) (hx : ∀ x ∈ xs, shp n x) (hE : ∀ sv, (∃ x, sv = SV.d x) ∨ sv = .no → E.nx [.d (.tuple xs), .d (.tuple xs), sv]) : ∀ (m i : Nat) (sv : SV), i + m = xs.length → (∃ x, sv = SV.d x) ∨ sv = .no → loopW (.nm 2) (bSameL (mSame n)) E (rgl i m) [.d (.tuple xs), .d (.tuple xs), sv]
  | 0, i, sv, h, hs => by unfold rgl loopW; exact hE sv hs
  | m + 1, i, sv, h, hs => by
    unfold rgl loopW
    have ih := same_loop_t n xs E hx hE m (i + 1) (.d (.int i)) (by omega) (.inl ⟨_, rfl⟩)
    have e := atI_nat (xs := xs) (i := i) (by omega)
    have hp := hx xs[i] (List.getElem_mem _)
    rcases hs with ⟨x, rfl⟩ | rfl <;> (conv => whnf) <;> rw [e] <;> (conv => whnf) <;> rw [e] <;> exact ⟨_, rfl, hp, condP_ff rfl ih⟩
theorem same_ok (n : Nat) (ds : List PyData) (R : PyData → Prop) (h : mSame n ds R) : bSame (mPrev n) (eR R) (ds.map SV.d ++ bl (3 - ds.length)) := by
  obtain ⟨a, rfl, hs, hR⟩ := h
  cases a with
  | none => walk_at "dl"; exact hR
  | bool b => 
    walk_at "dl"
    rw [show (PyData.bool b).eqv (.bool b) = true from by rw [eqv_bool]; simp]
    exact hR
  | int i =>
    walk_at "dl"
    rw [show (PyData.int i).eqv (.int i) = true from by rw [eqv_int]; simp]
    exact hR
  | str x =>
    have hs : PyData.strOk x = true := by cases n <;> exact hs
    have hs : SeqAt.shaped (.str x) = true := by rw [shaped_str]; exact hs
    walk_at "dl"
    rw [show (PyData.str x).eqv (.str x) = true from by rw [eqv_str]; simp]
    exact hR
  | list xs =>
    cases n with
    | zero => exact hs.elim
    | succ n =>
      obtain ⟨hl, hx⟩ := hs
      walk_at "dl"
      rw [show (PyData.int (xs.length : Int)).eqv (.int xs.length) = true from by rw [eqv_int]; simp]
      walk_at "dl"
      rw [show ((xs.length : Int)).toNat = xs.length from by omega, rngD_rgl]
      exact same_loop_l n xs _ hx (fun sv hs => by rcases hs with ⟨x, rfl⟩ | rfl <;> exact hR) xs.length 0 .no (by omega) (.inr rfl)
  | tuple xs =>
    cases n with
    | zero => exact hs.elim
    | succ n =>
      obtain ⟨hl, hx⟩ := hs
      walk_at "dl"
      rw [show (PyData.int (xs.length : Int)).eqv (.int xs.length) = true from by rw [eqv_int]; simp]
      walk_at "dl"
      rw [show ((xs.length : Int)).toNat = xs.length from by omega, rngD_rgl]
      exact same_loop_t n xs _ hx (fun sv hs => by rcases hs with ⟨x, rfl⟩ | rfl <;> exact hR) xs.length 0 .no (by omega) (.inr rfl)
  | dict xs => cases n <;> exact hs.elim
end DL
set_option Elab.async false
set_option linter.all false
set_option maxRecDepth 100000
set_option maxHeartbeats 4000000
/-! M2: comprehensions; drawn values. -/
local macro_rules | `(tactic| walk_at "dl.s") => `(tactic| first | exact DL.shaped_int | exact DL.shaped_bool | exact DL.shaped_non | assumption | (with_reducible decide) | omega | exact DL.cmulw 64 64 (by omega) (by omega) (by decide) | exact DL.cdivw (by omega) (by omega) | exact DL.cmulw 64 64 (by decide) (by decide) (by decide) | exact DL.cpow (by decide) (by decide) (by decide) | exact rfl | exact Nat.le_of_ble_eq_true rfl | fail)
local macro_rules | `(tactic| walk_at "dl") => `(tactic| ((conv => whnf); repeat' (first | (refine And.intro (by walk_at "dl.s") ?_; conv => whnf) | (refine DL.condP_tt (by rfl) ?_; conv => whnf) | (refine DL.condP_ff (by rfl) ?_; conv => whnf) | fail)))
local macro_rules | `(tactic| walk_at "dl.if") => `(tactic| (refine DL.condP_by (fun h => ?_) (fun h => ?_) <;> (try simp only [DL.eqv_int, DL.eqv_str, DL.eqv_bool, DL.Cp.i, beq_iff_eq, decide_eq_true_eq, decide_eq_false_iff_not, beq_eq_false_iff_ne, List.length_map, ne_eq, Bool.not_eq_true', Bool.not_eq_false', Int.reduceToNat, Int.reducePow] at h)))
namespace DL
open PySem PySem.Spec PyProof.Rows L2
theorem lcW_yes {g : Tg} {te : DT} {vs : List Nat} {x : PyData} {xs acc : List PyData} {Γ : Fm} {k : List PyData → Fm → Prop} : lcW g tYesD te vs (x :: xs) acc Γ k = g.d x Γ fun Γ1 => te Γ1 fun rv Γ3 => datR rv fun y => acc.length < sizeLine ∧ lcW g tYesD te vs xs (acc ++ [y]) (wipeF Γ3 vs) k := by
  rw [lcW_cons]
  unfold tYesD
  simp only [condP_t]
/-- a comprehension without a test: each item's value fits, what holds between items stays -/
theorem lc_rule {g : Tg} {te : DT} {vs : List Nat} (I : Fm → Prop) (Q : PyData → Prop) (P : PyData → Prop)
    (hte : ∀ x Γ R, Q x → I Γ → (∀ y Γ3, P y → I (wipeF Γ3 vs) → R (.d y) Γ3) → g.d x Γ fun Γ1 => te Γ1 R) :
    ∀ (xs acc : List PyData) (Γ : Fm) (k : List PyData → Fm → Prop), (∀ x ∈ xs, Q x) → I Γ → acc.length + xs.length ≤ 16777216 → (∀ ys Γ', ys.length = xs.length → (∀ y ∈ ys, P y) → I Γ' → k (acc ++ ys) Γ') → lcW g tYesD te vs xs acc Γ k
  | [], acc, Γ, k, _, hI, _, hk => by
    have := hk [] Γ rfl (by intro y h; cases h) hI
    rw [List.append_nil] at this
    rw [lcW_nil]
    exact this
  | x :: xs, acc, Γ, k, hQ, hI, hl, hk => by
    rw [List.length_cons] at hl
    rw [lcW_yes]
    refine hte x Γ (fun rv Γ3 => datR rv fun y => acc.length < sizeLine ∧ lcW g tYesD te vs xs (acc ++ [y]) (wipeF Γ3 vs) k) (hQ x List.mem_cons_self) hI fun y Γ3 py i3 => ⟨by show acc.length < 16777216; omega, ?_⟩
    refine lc_rule I Q P hte xs (acc ++ [y]) _ k (fun z h => hQ z (List.mem_cons_of_mem _ h)) i3 (by rw [List.length_append]; show acc.length + 1 + xs.length ≤ 16777216; omega) fun ys Γ' hy hP hI' => ?_
    rw [List.append_assoc]
    exact hk (y :: ys) Γ' (by rw [List.length_cons, hy, List.length_cons]) (fun z h => by rcases List.mem_cons.mp h with e | e; (subst e; exact py); exact hP z e) hI'
/-- .. each item's value is told -/
theorem lc_map {g : Tg} {te : DT} {vs : List Nat} (I : Fm → Prop) (Q : PyData → Prop) (f : PyData → PyData)
    (hte : ∀ x Γ R, Q x → I Γ → (∀ Γ3, I (wipeF Γ3 vs) → R (.d (f x)) Γ3) → g.d x Γ fun Γ1 => te Γ1 R) :
    ∀ (xs acc : List PyData) (Γ : Fm) (k : List PyData → Fm → Prop), (∀ x ∈ xs, Q x) → I Γ → acc.length + xs.length ≤ 16777216 → (∀ Γ', I Γ' → k (acc ++ xs.map f) Γ') → lcW g tYesD te vs xs acc Γ k
  | [], acc, Γ, k, _, hI, _, hk => by
    have := hk Γ hI
    rw [List.map_nil, List.append_nil] at this
    rw [lcW_nil]
    exact this
  | x :: xs, acc, Γ, k, hQ, hI, hl, hk => by
    rw [List.length_cons] at hl
    rw [lcW_yes]
    refine hte x Γ (fun rv Γ3 => datR rv fun y => acc.length < sizeLine ∧ lcW g tYesD te vs xs (acc ++ [y]) (wipeF Γ3 vs) k) (hQ x List.mem_cons_self) hI fun Γ3 i3 => ⟨by show acc.length < 16777216; omega, ?_⟩
    refine lc_map I Q f hte xs (acc ++ [f x]) _ k (fun z h => hQ z (List.mem_cons_of_mem _ h)) i3 (by rw [List.length_append]; show acc.length + 1 + xs.length ≤ 16777216; omega) fun Γ' hI' => ?_
    rw [List.append_assoc]
    exact hk Γ' hI'
/-! ### joined texts -/
theorem strsD_str : ∀ ys : List Str, strsD (ys.map .str) = some ys
  | [] => rfl
  | y :: ys => by rw [List.map_cons]; unfold strsD; rw [strsD_str ys]; rfl
theorem all_strs : ∀ {ds : List PyData} {P : Str → Prop}, (∀ d ∈ ds, ∃ z, d = .str z ∧ P z) → ∃ ys : List Str, ds = ys.map .str ∧ ∀ y ∈ ys, P y
  | [], _, _ => ⟨[], rfl, by intro y h; cases h⟩
  | d :: ds, P, h => by
    obtain ⟨z, rfl, hz⟩ := h d List.mem_cons_self
    obtain ⟨ys, rfl, hy⟩ := all_strs fun x hx => h x (List.mem_cons_of_mem _ hx)
    exact ⟨z :: ys, rfl, fun y hy' => by rcases List.mem_cons.mp hy' with e | e; (subst e; exact hz); exact hy y e⟩
/-- a text of these signs -/
def tx (cs : List Nat) : Str := ⟨cs.toArray⟩
theorem tx_length {cs : List Nat} : (tx cs).length = cs.length := by unfold tx Str.length; simp
theorem tx_app {a b : List Nat} : tx a ++ tx b = tx (a ++ b) := by
  show Str.append _ _ = _
  unfold tx Str.append
  simp
theorem tx_ok {cs : List Nat} (h : ∀ c ∈ cs, c < 1114112) : PyData.strOk (tx cs) = true := by
  unfold PyData.strOk tx
  simp only [List.all_toArray, List.all_eq_true, decide_eq_true_eq]
  exact fun x hx => h x hx
theorem tx_eta (z : Str) : tx z.cps.toList = z := by unfold tx; simp
theorem join_signs : ∀ cs : List Nat, Txt.join ⟨#[]⟩ (cs.map fun c => ⟨#[c]⟩) = tx cs := by
  intro cs
  rw [TL.join_eq]
  induction cs with
  | nil => rfl
  | cons c cs ih =>
    cases cs with
    | nil => rfl
    | cons d ds =>
      rw [List.map_cons, List.map_cons, Str.join]
      · have ih2 : Str.join ⟨#[]⟩ (⟨#[d]⟩ :: ds.map fun c => ⟨#[c]⟩) = tx (d :: ds) := ih
        rw [ih2]
        show (tx [c] ++ tx []) ++ tx (d :: ds) = _
        rw [tx_app, tx_app]; rfl
      · intro h; cases h
def sign1 (z : Str) : Bool := decide (z.cps.size = 1) && z.cps.all (· < 1114112)
theorem sign1_ex {z : Str} (h : sign1 z = true) : ∃ c, z = ⟨#[c]⟩ ∧ c < 1114112 := by
  obtain ⟨a⟩ := z
  unfold sign1 at h
  simp only [Bool.and_eq_true, decide_eq_true_eq, Array.all_eq_true] at h
  obtain ⟨h1, h2⟩ := h
  match a, h1, h2 with
  | ⟨[c]⟩, _, h2 => exact ⟨c, rfl, h2 0 (by simp)⟩
theorem all_sign1 {ds : List PyData} (h : ∀ d ∈ ds, ∃ z, d = .str z ∧ sign1 z = true) : ∃ cs : List Nat, ds = cs.map (fun c => .str ⟨#[c]⟩) ∧ (∀ c ∈ cs, c < 1114112) := by
  obtain ⟨zs, rfl, hz⟩ := all_strs h
  have : ∀ zs : List Str, (∀ z ∈ zs, sign1 z = true) → ∃ cs : List Nat, zs.map PyData.str = cs.map (fun c => .str ⟨#[c]⟩) ∧ (∀ c ∈ cs, c < 1114112) := by
    intro zs
    induction zs with
    | nil => exact fun _ => ⟨[], rfl, by intro y h; cases h⟩
    | cons z zs ih =>
      intro h
      obtain ⟨c, rfl, hc⟩ := sign1_ex (h z List.mem_cons_self)
      obtain ⟨cs, e, h2⟩ := ih fun y hy => h y (List.mem_cons_of_mem _ hy)
      exact ⟨c :: cs, by rw [List.map_cons, e]; rfl, fun y hy' => by rcases List.mem_cons.mp hy' with e | e; (subst e; exact hc); exact h2 y e⟩
  exact this zs hz
theorem all_signs : ∀ {ds : List PyData} {P : Nat → Prop}, (∀ d ∈ ds, ∃ c, d = .str ⟨#[c]⟩ ∧ P c) → ∃ cs : List Nat, ds = cs.map (fun c => .str ⟨#[c]⟩) ∧ (∀ c ∈ cs, P c)
  | [], _, _ => ⟨[], rfl, by intro y h; cases h⟩
  | d :: ds, P, h => by
    obtain ⟨z, rfl, hz⟩ := h d List.mem_cons_self
    obtain ⟨ys, rfl, hy⟩ := all_signs fun x hx => h x (List.mem_cons_of_mem _ hx)
    exact ⟨z :: ys, rfl, fun y hy' => by rcases List.mem_cons.mp hy' with e | e; (subst e; exact hz); exact hy y e⟩
theorem sum_ones : ∀ cs : List Nat, ((cs.map fun c => (⟨#[c]⟩ : Str)).map (·.length)).sum = cs.length
  | [] => rfl
  | c :: cs => by rw [List.map_cons, List.map_cons, List.sum_cons, sum_ones cs, List.length_cons]; show 1 + cs.length = _; omega
theorem strsD_sg (cs : List Nat) : strsD (cs.map fun c => PyData.str ⟨#[c]⟩) = some (cs.map fun c => (⟨#[c]⟩ : Str)) := by
  have := strsD_str (cs.map fun c => (⟨#[c]⟩ : Str))
  rw [List.map_map] at this
  exact this
theorem lit0 : Str.ofString "" = (⟨#[]⟩ : Str) := by decide +kernel
/-- a text put together of signs -/
theorem join_k {cs : List Nat} {R : Str → Prop} (hl : cs.length ≤ 16777216) (hR : R (tx cs)) :
    (optS (strsD (cs.map fun c => PyData.str ⟨#[c]⟩)) fun ys => (ys.map fun x => x.length).sum + ys.length * (Str.ofString "").length ≤ 16777216 ∧ R (Txt.join (Str.ofString "") ys)) := by
  rw [strsD_sg, lit0]
  refine ⟨?_, ?_⟩
  · rw [sum_ones, List.length_map]; show cs.length + cs.length * 0 ≤ _; omega
  · rw [join_signs]; exact hR
def cAny_1 (m__law_next : IM) : DT :=
    (tBin fIx (tLst' (tC' (tK (.str "a")) (tC' (tK (.str "b")) (tC' (tK (.str " ")) (tC' (tK (.str "'")) (tC' (tK (.str "~")) (tC' (tK (.str ",")) (tC' (tK (.str "1")) (tC' (tK (.str "B")) tN))))))))) (tCallI m__law_next 0 (tC' (tK (.int 8)) tN)))
def bAny_1 (m__law_next : IM) : DS :=
    (sAsg (tCallI m__law_next 0 (tC' (tK (.int 4)) tN)) (gNm 1))
def bAny_2 (m__law_next : IM) : DS :=
    (sIf (tCmp2 fEq (tName 1) (tK (.int 0))) (sRet (tBin fEq (tCallI m__law_next 0 (tC' (tK (.int 2)) tN)) (tK (.int 1)))) sNext)
def bAny_3 (m__law_next : IM) : DS :=
    (sIf (tCmp2 fEq (tName 1) (tK (.int 1))) (sRet (tBin fIx (tLst' (tC' (tK (.int 0)) (tC' (tK (.int 1)) (tC' (tNeg (tK (.int 1))) (tC' (tBin (fI CPow fun i j => .int (i ^ j.toNat)) (tK (.int 10)) (tK (.int 12))) (tC' (tBin (fI0 fun i j => .int (i - j)) (tK (.int 0)) (tBin (fI CPow fun i j => .int (i ^ j.toNat)) (tK (.int 10)) (tK (.int 12)))) (tC' (tK (.int 999)) (tC' (tK (.int 2)) (tC' (tK (.int 10)) tN))))))))) (tCallI m__law_next 0 (tC' (tK (.int 8)) tN)))) sNext)
def bAny_4 (m__law_next : IM) : DS :=
    (sIf (tCmp2 fEq (tName 1) (tK (.int 2))) (sRet (tBin (fI0 fun i j => .int (i - j)) (tCallI m__law_next 0 (tC' (tFrz (tBin fAdd (tBin (fI CMulW fun i j => .int (i * j)) (tK (.int 2)) (tBin (fI CPow fun i j => .int (i ^ j.toNat)) (tK (.int 10)) (tK (.int 12)))) (tK (.int 1)))) tN)) (tBin (fI CPow fun i j => .int (i ^ j.toNat)) (tK (.int 10)) (tK (.int 12))))) sNext)
def bAny_5 (m__law_next : IM) : DS :=
    (sRet (tJoin (tK (.str "")) (tLcD (wRng (tCallI m__law_next 0 (tC' (tK (.int 6)) tN))) (.nm 2) tYesD (cAny_1 m__law_next) [2])))
def bAny_t5 (m__law_next : IM) : DS := bAny_5 m__law_next
def bAny_t4 (m__law_next : IM) : DS := sSeq (bAny_4 m__law_next) (bAny_t5 m__law_next)
def bAny_t3 (m__law_next : IM) : DS := sSeq (bAny_3 m__law_next) (bAny_t4 m__law_next)
def bAny_t2 (m__law_next : IM) : DS := sSeq (bAny_2 m__law_next) (bAny_t3 m__law_next)
def bAny (m__law_next : IM) : DS := sSeq (bAny_1 m__law_next) (bAny_t2 m__law_next)

/-- a value that _law_any draws -/
def anyV : PyData → Prop
  | .bool _ => True
  | .int i => -1000000000000 ≤ i ∧ i ≤ 1000000000000
  | .str x => x.length ≤ 8 ∧ ∀ c ∈ x.cps.toList, 32 ≤ c ∧ c < 127
  | _ => False
def sign7 (z : Str) : Bool := decide (z.cps.size = 1) && z.cps.all fun c => decide (32 ≤ c) && decide (c < 127)
theorem sign7_ex {z : Str} (h : sign7 z = true) : ∃ c, z = ⟨#[c]⟩ ∧ 32 ≤ c ∧ c < 127 := by
  obtain ⟨a⟩ := z
  unfold sign7 at h
  simp only [Bool.and_eq_true, decide_eq_true_eq, Array.all_eq_true] at h
  obtain ⟨h1, h2⟩ := h
  match a, h1, h2 with
  | ⟨[c]⟩, _, h2 => exact ⟨c, rfl, h2 0 (by simp)⟩
theorem all_sign7 {ds : List PyData} (h : ∀ d ∈ ds, ∃ z, d = .str z ∧ sign7 z = true) : ∃ cs : List Nat, ds = cs.map (fun c => .str ⟨#[c]⟩) ∧ (∀ c ∈ cs, 32 ≤ c ∧ c < 127) :=
  all_signs fun d hd => by
    obtain ⟨z, rfl, hz⟩ := h d hd
    obtain ⟨c, rfl, hc⟩ := sign7_ex hz
    exact ⟨c, rfl, hc⟩
def mAny : IM := fun cs ds R => St cs ∧ ds = [] ∧ ∀ v cs', anyV v → St cs' → R v cs'
theorem eight {r : Int} (h0 : 0 ≤ r) (h1 : r < 8) : r = 0 ∨ r = 1 ∨ r = 2 ∨ r = 3 ∨ r = 4 ∨ r = 5 ∨ r = 6 ∨ r = 7 := by omega
theorem any_ok (cs ds : List PyData) (R : PyData → List PyData → Prop) (h : mAny cs ds R) : bAny mNext (eI R) (.c true (.lst cs) :: (ds.map SV.d ++ bl (3 - ds.length - 1))) := by
  obtain ⟨hst, rfl, q⟩ := h
  walk_at "dl"
  refine ⟨_, rfl, by omega, by omega, fun r cs1 h0 h1 hs1 => ?_⟩
  walk_at "dl"
  walk_at "dl.if"
  · walk_at "dl"
    refine ⟨_, rfl, by omega, by omega, fun r2 cs2 h0 h1 hs2 => ?_⟩
    walk_at "dl"
    exact q _ _ trivial hs2
  · walk_at "dl"
    walk_at "dl.if"
    · walk_at "dl"
      refine ⟨_, rfl, by omega, by omega, fun r2 cs2 h0 h1 hs2 => ?_⟩
      rcases eight h0 h1 with rfl | rfl | rfl | rfl | rfl | rfl | rfl | rfl <;> (conv => whnf) <;> exact q _ _ (by constructor <;> decide) hs2
    · walk_at "dl"
      walk_at "dl.if"
      · walk_at "dl"
        refine ⟨_, rfl, by decide, by decide, fun r2 cs2 h0 h1 hs2 => ?_⟩
        walk_at "dl"
        refine q _ _ ?_ hs2
        have h1 : r2 < 2000000000001 := h1
        show -1000000000000 ≤ r2 - 1000000000000 ∧ r2 - 1000000000000 ≤ 1000000000000
        omega
      · walk_at "dl"
        refine ⟨_, rfl, by omega, by omega, fun r2 cs2 h0 h1 hs2 => ?_⟩
        walk_at "dl"
        refine lc_rule (fun Γ => ∃ cs, Γ = [.c true (.lst cs), .d (.int r), .no] ∧ St cs) (fun _ => True) (fun d => ∃ z, d = .str z ∧ sign7 z = true) (fun x Γ R _ hI k => ?_) (rngD 0 r2.toNat) [] _ _ (fun _ _ => trivial) ⟨_, rfl, hs2⟩ ?_ (fun ys Γ' hl hP hI => ?_)
        · obtain ⟨cs3, rfl, hs3⟩ := hI
          walk_at "dl"
          refine ⟨_, rfl, by omega, by omega, fun r4 cs4 h0 h1 hs4 => ?_⟩
          rcases eight h0 h1 with rfl | rfl | rfl | rfl | rfl | rfl | rfl | rfl <;> (conv => whnf) <;> exact k _ _ ⟨_, rfl, by decide +kernel⟩ ⟨_, rfl, hs4⟩
        · unfold rngD; simp; omega
        · obtain ⟨cs3, rfl, hs3⟩ := hI
          obtain ⟨zs, rfl, hz⟩ := all_sign7 hP
          have hl : zs.length = r2.toNat := by
            rw [List.length_map] at hl; rw [hl]; unfold rngD; simp
          rw [List.nil_append]
          refine join_k (R := fun z => (eI R).rt (.str z) [.c true (.lst cs3), .d (.int r), .no]) (by omega) ?_
          exact q _ _ ⟨by rw [tx_length]; omega, fun c hc => hz c hc⟩ hs3
end DL
set_option Elab.async false
set_option linter.all false
set_option maxRecDepth 100000
set_option maxHeartbeats 4000000
/-! M3: texts of values and rows, their sums: shared by many laws. -/
local macro_rules | `(tactic| walk_at "dl.s") => `(tactic| first | exact DL.shaped_int | exact DL.shaped_bool | exact DL.shaped_non | assumption | (with_reducible decide) | omega | exact DL.cmulw 64 64 (by omega) (by omega) (by decide) | exact DL.cdivw (by omega) (by omega) | exact DL.cmulw 64 64 (by decide) (by decide) (by decide) | exact DL.cpow (by decide) (by decide) (by decide) | exact rfl | exact Nat.le_of_ble_eq_true rfl | fail)
local macro_rules | `(tactic| walk_at "dl") => `(tactic| ((conv => whnf); repeat' (first | (refine And.intro (by walk_at "dl.s") ?_; conv => whnf) | (refine DL.condP_tt (by rfl) ?_; conv => whnf) | (refine DL.condP_ff (by rfl) ?_; conv => whnf) | fail)))
local macro_rules | `(tactic| walk_at "dl.if") => `(tactic| (refine DL.condP_by (fun h => ?_) (fun h => ?_) <;> (try simp only [DL.eqv_int, DL.eqv_str, DL.eqv_bool, DL.Cp.i, beq_iff_eq, decide_eq_true_eq, decide_eq_false_iff_not, beq_eq_false_iff_ne, List.length_map, ne_eq, Bool.not_eq_true', Bool.not_eq_false', Int.reduceToNat, Int.reducePow] at h)))
namespace DL
open PySem PySem.Spec PyProof.Rows L2
def stp (f : Int) (c : Nat) : Int := (f * 1000003 + (c : Int) + 1) % 2305843009213693951
def tsf : Int → List Nat → Int
  | f, [] => f
  | f, c :: cs => tsf (stp f c) cs
def tsum (z : Str) : Int := tsf 7 z.cps.toList
theorem stp_rng (f : Int) (c : Nat) : 0 ≤ stp f c ∧ stp f c < 2305843009213693951 := by
  unfold stp
  exact ⟨Int.emod_nonneg _ (by decide), Int.emod_lt_of_pos _ (by decide)⟩
theorem tsf_rng : ∀ (cs : List Nat) (f : Int), 0 ≤ f → f < 2305843009213693951 → 0 ≤ tsf f cs ∧ tsf f cs < 2305843009213693951
  | [], f, h0, h1 => ⟨h0, h1⟩
  | c :: cs, f, _, _ => tsf_rng cs _ (stp_rng f c).1 (stp_rng f c).2
theorem tsum_rng (z : Str) : 0 ≤ tsum z ∧ tsum z < 2305843009213693951 := tsf_rng _ 7 (by decide) (by decide)
theorem tsf_app : ∀ (a b : List Nat) (f : Int), tsf f (a ++ b) = tsf (tsf f a) b
  | [], b, f => rfl
  | c :: a, b, f => by show tsf (stp f c) (a ++ b) = _; rw [tsf_app a b]; rfl
def bVt_1 : DS :=
    (sIf (tVal (tIsi .bool (tName 0))) (sRet (tIfE (tTru (tName 0)) (tK (.str "true")) (tK (.str "false")))) sNext)
def bVt_2 : DS :=
    (sIf (tVal (tIsi .int (tName 0))) (sRet (tCB' fStrI (tC' (tName 0) tN))) sNext)
def bVt_3 : DS :=
    (sRet (tFrz (tBin fAdd (tRepl "'" (tName 0) "'" "''") (tK (.str "'")))))
def bVt_t3 : DS := bVt_3
def bVt_t2 : DS := sSeq (bVt_2) (bVt_t3)
def bVt : DS := sSeq (bVt_1) (bVt_t2)
def CRt_1 (m_value_text : PM) : DT :=
    (tCallP m_value_text (tC' (tFrz (tName 1)) tN))
def bRt (m_value_text : PM) : DS :=
    (sRet (tJoin (tK (.str ",")) (tLcD (wSeq (tFrz (tName 0))) (.nm 1) tYesD (CRt_1 m_value_text) [1])))
def LTs_1 : DS :=
    (sAsg (tBin (fI (fun _ j => 0 < j) fun i j => .int (i % j)) (tBin fAdd (tBin fAdd (tBin (fI CMulW fun i j => .int (i * j)) (tName 1) (tK (.int 1000003))) (tCB' fOrd (tC' (tName 2) tN))) (tK (.int 1))) (tK (.int 2305843009213693951))) (gNm 1))
def bTs_1 : DS :=
    (sAsg (tK (.int 7)) (gNm 1))
def bTs_2 : DS :=
    (sFor (wStr (tFrz (tName 0))) (.nm 2) (LTs_1))
def bTs_3 : DS :=
    (sRet (tFrz (tName 1)))
def bTs_t3 : DS := bTs_3
def bTs_t2 : DS := sSeq (bTs_2) (bTs_t3)
def bTs : DS := sSeq (bTs_1) (bTs_t2)
def vtx : PyData → Str
  | .bool true => Str.ofString "true"
  | .bool false => Str.ofString "false"
  | .int i => Str.ofString (toString i)
  | .str x => (Str.ofString "'" ++ Txt.replace x (Str.ofString "'") (Str.ofString "''")) ++ Str.ofString "'"
  | _ => ⟨#[]⟩
theorem app_length (a b : Str) : (a ++ b).length = a.length + b.length := by
  show (Str.append a b).length = _
  unfold Str.append Str.length; simp
theorem lq1 : (Str.ofString "'").length = 1 := by decide +kernel
theorem lq2 : (Str.ofString "''").length = 2 := by decide +kernel
theorem vtx_len {v : PyData} (h : anyV v) : (vtx v).length ≤ 40 := by
  cases v with
  | bool b => cases b <;> decide +kernel
  | int i =>
    obtain ⟨h1, h2⟩ := h
    have := int_text_length_le10 (a := i) (k := 13) (by decide) (by omega)
    show (Str.ofString (toString i)).length ≤ 40
    rw [PySem.ofString_length]; omega
  | str x =>
    obtain ⟨h1, _⟩ := h
    have := TK.replace_len x (Str.ofString "'") (Str.ofString "''")
    show ((Str.ofString "'" ++ Txt.replace x (Str.ofString "'") (Str.ofString "''")) ++ Str.ofString "'").length ≤ 40
    rw [app_length, app_length, lq1]
    rw [lq2] at this
    omega
  | _ => exact h.elim
def mVt : PM := fun ds R => ∃ v, ds = [v] ∧ anyV v ∧ R (.str (vtx v))
theorem vt_ok (ds : List PyData) (R : PyData → Prop) (h : mVt ds R) : bVt (eR R) (ds.map SV.d ++ bl (1 - ds.length)) := by
  obtain ⟨v, rfl, hv, hR⟩ := h
  have hl := vtx_len hv
  cases v with
  | bool b => cases b <;> (walk_at "dl") <;> exact hR
  | int i =>
    obtain ⟨h1, h2⟩ := hv
    have h3 : i.natAbs.log2 < 1920 := by
      by_cases z : i.natAbs = 0
      · rw [z]; decide
      · have : i.natAbs.log2 < 64 := (Nat.log2_lt z).mpr (by omega)
        omega
    walk_at "dl"
    exact hR
  | str x =>
    obtain ⟨h1, h2⟩ := hv
    have hr := TK.replace_len x (Str.ofString "'") (Str.ofString "''")
    rw [lq2] at hr
    walk_at "dl"
    refine ⟨by rw [lq2]; omega, by rw [lq1]; show 1 + _ ≤ 16777216; omega, ?_⟩
    conv => whnf
    refine ⟨by rw [app_length, lq1]; show _ ≤ 16777216; omega, hR⟩
  | _ => exact hv.elim
def mTs : PM := fun ds R => ∃ z, ds = [.str z] ∧ R (.int (tsum z))
theorem ts_loop (E : DEnds) (z : Str) : ∀ (cs : List Nat) (f : Int) (sv : SV), 0 ≤ f → f < 2305843009213693951 → sv = .no ∨ (∃ x, sv = .d x) → (∀ sv, E.nx [.d (.str z), .d (.int (tsf f cs)), sv]) → loopW (.nm 2) LTs_1 E (cs.map fun c => .str ⟨#[c]⟩) [.d (.str z), .d (.int f), sv]
  | [], f, sv, _, _, _, h => h sv
  | c :: cs, f, sv, h0, h1, hs, h => by
    have ih := ts_loop E z cs (stp f c) (.d (.str ⟨#[c]⟩)) (stp_rng f c).1 (stp_rng f c).2 (.inr ⟨_, rfl⟩) h
    rw [List.map_cons]
    unfold loopW
    rcases hs with rfl | ⟨x, rfl⟩
    · walk_at "dl"
      exact ih
    · walk_at "dl"
      exact ih
theorem ts_ok (ds : List PyData) (R : PyData → Prop) (h : mTs ds R) : bTs (eR R) (ds.map SV.d ++ bl (3 - ds.length)) := by
  obtain ⟨z, rfl, hR⟩ := h
  walk_at "dl"
  exact ts_loop _ z z.cps.toList 7 .no (by decide) (by decide) (.inl rfl) fun sv => hR
def rtx (vs : List PyData) : Str := Txt.join (Str.ofString ",") (vs.map vtx)
def mRt : PM := fun ds R => ∃ vs, ds = [.tuple vs] ∧ vs.length ≤ 5 ∧ (∀ v ∈ vs, anyV v) ∧ R (.str (rtx vs))
theorem sum_le : ∀ (zs : List Str), (∀ z ∈ zs, z.length ≤ 40) → (zs.map (·.length)).sum ≤ zs.length * 40
  | [], _ => by simp
  | z :: zs, h => by
    rw [List.map_cons, List.sum_cons, List.length_cons]
    have := sum_le zs fun y hy => h y (List.mem_cons_of_mem _ hy)
    have := h z List.mem_cons_self
    omega
theorem rt_ok (ds : List PyData) (R : PyData → Prop) (h : mRt ds R) : bRt mVt (eR R) (ds.map SV.d ++ bl (2 - ds.length)) := by
  obtain ⟨vs, rfl, hl, hv, hR⟩ := h
  walk_at "dl"
  refine lc_map (fun Γ => Γ = [.d (.tuple vs), .no]) anyV (fun v => .str (vtx v)) (fun x Γ R hx hI k => ?_) vs [] _ _ hv rfl (by rw [List.length_nil]; omega) fun Γ' hI => ?_
  · subst hI
    walk_at "dl"
    exact ⟨_, rfl, hx, k _ rfl⟩
  · subst hI
    rw [List.nil_append, show vs.map (fun v => PyData.str (vtx v)) = (vs.map vtx).map PyData.str from by rw [List.map_map]; rfl]
    show optS (strsD ((vs.map vtx).map PyData.str)) _
    rw [strsD_str]
    refine ⟨?_, hR⟩
    have := sum_le (vs.map vtx) fun z hz => by
      obtain ⟨v, h1, rfl⟩ := List.mem_map.mp hz
      exact vtx_len (hv v h1)
    rw [show (Str.ofString ",").length = 1 from by decide +kernel]
    rw [List.length_map] at *
    have e : (vs.map vtx).length = vs.length := List.length_map ..
    omega

end DL
set_option Elab.async false
set_option linter.all false
set_option maxRecDepth 100000
set_option maxHeartbeats 4000000
/-! P00: keys of values, plainly. -/
namespace DL
open PySem PySem.Spec PyProof.Rows L2
/-- a value's key -/
def kv : PyData → PyData
  | .bool b => .tuple [.int 0, .int (if b = true then 1 else 0), .str (Str.ofString "")]
  | .int i => .tuple [.int 1, .int i, .str (Str.ofString "")]
  | .str x => .tuple [.int 2, .int 0, .str x]
  | _ => .none
/-- its three parts -/
def k3 : PyData → Int × Int × Str
  | .bool b => (0, if b = true then 1 else 0, Str.ofString "")
  | .int i => (1, i, Str.ofString "")
  | .str x => (2, 0, x)
  | _ => (0, 0, Str.ofString "")
theorem kv_eq {v : PyData} (h : anyV v) : kv v = .tuple [.int (k3 v).1, .int (k3 v).2.1, .str (k3 v).2.2] := by
  cases v <;> first | rfl | exact h.elim
theorem strOk7 {x : Str} (h : ∀ c ∈ x.cps.toList, 32 ≤ c ∧ c < 127) : PyData.strOk x = true := by
  unfold PyData.strOk
  rw [← Array.all_toList, List.all_eq_true]
  exact fun c hc => decide_eq_true (Nat.lt_trans (h c hc).2 (by decide))
theorem k3_ok {v : PyData} (h : anyV v) : PyData.strOk (k3 v).2.2 = true := by
  cases v with
  | bool b => show PyData.strOk (Str.ofString "") = true; decide +kernel
  | int i => show PyData.strOk (Str.ofString "") = true; decide +kernel
  | str x => exact strOk7 h.2
  | _ => exact h.elim
theorem lay_kv {v : PyData} (h : anyV v) : PyData.canLay0 (kv v) = true := by
  rw [kv_eq h]
  simp [PyData.canLay0, PyData.canLayAll0, k3_ok h]
theorem dep_kv {v : PyData} (h : anyV v) : (kv v).depth = 1 := by
  rw [kv_eq h]
  simp [PyData.depth, PyData.depthAll]
theorem shaped_kv {v : PyData} (h : anyV v) : SeqAt.shaped (kv v) = true := by
  unfold SeqAt.shaped
  rw [lay_kv h, dep_kv h]; rfl
theorem alike_kv {v w : PyData} (h : anyV v) (h2 : anyV w) : PySem.W.alike (kv v) (kv w) = true := by
  rw [kv_eq h, kv_eq h2]
  simp [PySem.W.alike, PySem.W.alikeAll]
theorem sameK_kv {v w : PyData} (h : anyV v) (h2 : anyV w) : sameK (kv v) (kv w) = true := by
  rw [kv_eq h, kv_eq h2]
  simp [sameK, sameKs]
theorem eqv_kv {v w : PyData} (h : anyV v) (h2 : anyV w) : PyData.eqv (kv v) (kv w) = decide (k3 v = k3 w) := by
  rw [kv_eq h, kv_eq h2]
  simp only [PyData.eqv, PyData.eqvAll]
  rw [Bool.eq_iff_iff]
  simp [Prod.ext_iff]

/-- one key ahead of another one -/
def lt3 (a b : Int × Int × Str) : Bool := if a.1 = b.1 then (if a.2.1 = b.2.1 then decide (a.2.2.cps.toList < b.2.2.cps.toList) else decide (a.2.1 < b.2.1)) else decide (a.1 < b.1)
abbrev KO : PyProof.Rows.KeyOrd := PyProof.Rows.listOrd PyProof.Rows.itemOrd
theorem lt_nil : PyProof.Rows.lexLt PyProof.Rows.itemOrd (PySem.W.keyToksAll []) (PySem.W.keyToksAll []) = false := KO.irrefl (PySem.W.keyToksAll [])
theorem toks_str {x y : Str} : PyData.eqv (.str x) (.str y) = decide (x = y) := by rw [eqv_str, Bool.eq_iff_iff]; simp
theorem dataLt_kv {v w : PyData} (h : anyV v) (h2 : anyV w) : PySem.W.dataLt (kv v) (kv w) = lt3 (k3 v) (k3 w) := by
  rw [kv_eq h, kv_eq h2, PySem.W.dataLt_tuple, PySem.W.dataLt_cons rfl, PySem.W.dataLt_cons rfl, PySem.W.dataLt_cons rfl, lt_nil, PySem.W.dataLt_int, PySem.W.dataLt_int, PySem.W.dataLt_str, eqv_int, eqv_int, eqv_str]
  unfold lt3
  simp only [beq_iff_eq]
  by_cases e1 : (k3 v).1 = (k3 w).1
  · rw [if_pos e1, if_pos e1]
    by_cases e2 : (k3 v).2.1 = (k3 w).2.1
    · rw [if_pos e2, if_pos e2]
      by_cases e3 : (k3 v).2.2 = (k3 w).2.2
      · rw [if_pos e3, e3]; simp
      · rw [if_neg e3]
    · rw [if_neg e2, if_neg e2]
  · rw [if_neg e1, if_neg e1]
theorem ordD_kv {v w : PyData} (h : anyV v) (h2 : anyV w) : ordD .lt (kv v) (kv w) = PySem.W.dataLt (kv v) (kv w) ∧ ordD .gt (kv v) (kv w) = PySem.W.dataLt (kv w) (kv v) := by
  rw [dataLt_kv h h2, dataLt_kv h2 h, kv_eq h, kv_eq h2]
  unfold lt3
  simp only [ordD, ordL, eqv_int, eqv_str, beq_iff_eq, Cp.i, Cp.s, Cp.n, List.length_nil]
  constructor
  · by_cases e1 : (k3 v).1 = (k3 w).1
    · rw [if_pos e1, if_pos e1]
      by_cases e2 : (k3 v).2.1 = (k3 w).2.1
      · rw [if_pos e2, if_pos e2]
        by_cases e3 : (k3 v).2.2 = (k3 w).2.2
        · rw [if_pos e3, e3]; simp
        · rw [if_neg e3]
      · rw [if_neg e2, if_neg e2]
    · rw [if_neg e1, if_neg e1]
  · by_cases e1 : (k3 v).1 = (k3 w).1
    · rw [if_pos e1, if_pos e1.symm]
      by_cases e2 : (k3 v).2.1 = (k3 w).2.1
      · rw [if_pos e2, if_pos e2.symm]
        by_cases e3 : (k3 v).2.2 = (k3 w).2.2
        · rw [if_pos e3, e3]; simp
        · rw [if_neg e3]
      · rw [if_neg e2, if_neg (fun z => e2 z.symm)]
    · rw [if_neg e1, if_neg (fun z => e1 z.symm)]
/-- keys as tokens: they tell the value's key apart -/
theorem toks_kv {v w : PyData} (h : anyV v) (h2 : anyV w) : PySem.W.keyToks (kv v) = PySem.W.keyToks (kv w) → k3 v = k3 w := by
  rw [kv_eq h, kv_eq h2]
  intro e
  simp only [PySem.W.keyToks, PySem.W.keyToksAll, List.cons_append, List.nil_append, List.cons.injEq, Sum.inl.injEq, Sum.inr.injEq, true_and, and_true] at e
  obtain ⟨e1, e2, e3⟩ := e
  exact Prod.ext e1 (Prod.ext e2 (PySem.W.str_of_cps e3))

/-! ### comparing two -/
abbrev tk (v : PyData) : KO.α := PySem.W.keyToks (kv v)
theorem lt_tk (v w : PyData) : PySem.W.dataLt (kv v) (kv w) = KO.blt (tk v) (tk w) := rfl
/-- 0 | -1 | 1 -/
def due3 (v w : PyData) : Int := if k3 v = k3 w then 0 else if KO.blt (tk v) (tk w) = true then -1 else 1
def cmp3 (v w : PyData) : Int := (if KO.blt (tk w) (tk v) = true then 1 else 0) - (if KO.blt (tk v) (tk w) = true then 1 else 0)
theorem tk_of_k3 {v w : PyData} (h : anyV v) (h2 : anyV w) (e : k3 v = k3 w) : tk v = tk w := by
  unfold tk
  rw [kv_eq h, kv_eq h2, e]
theorem cmp_due {v w : PyData} (h : anyV v) (h2 : anyV w) : cmp3 v w = due3 v w := by
  unfold cmp3 due3
  by_cases e : k3 v = k3 w
  · rw [if_pos e, tk_of_k3 h h2 e, KO.irrefl]; rfl
  · rw [if_neg e]
    have ne : tk v ≠ tk w := fun z => e (toks_kv h h2 z)
    cases a : KO.blt (tk v) (tk w) with
    | true =>
      cases b : KO.blt (tk w) (tk v) with
      | true => have := KO.trans _ _ _ a b; rw [KO.irrefl] at this; cases this
      | false => rfl
    | false =>
      cases b : KO.blt (tk w) (tk v) with
      | true => rfl
      | false => exact absurd (KO.total _ _ a b) ne
theorem cmp_turn (v w : PyData) : cmp3 w v = 0 - cmp3 v w := by unfold cmp3; omega
theorem cmp_on {u v w : PyData} (h1 : cmp3 u v ≤ 0) (h2 : cmp3 v w ≤ 0) (hu : anyV u) (hv : anyV v) (hw : anyV w) : ¬ 0 < cmp3 u w := by
  intro h3
  have no : ∀ {a b : PyData}, cmp3 a b ≤ 0 → anyV a → anyV b → KO.blt (tk b) (tk a) = false := fun {a b} h ha hb => by
    cases q : KO.blt (tk b) (tk a) with
    | false => rfl
    | true =>
      cases q2 : KO.blt (tk a) (tk b) with
      | true => have := KO.trans _ _ _ q q2; rw [KO.irrefl] at this; cases this
      | false => unfold cmp3 at h; rw [q, q2] at h; simp at h
  have y : KO.blt (tk w) (tk u) = true := by
    cases q : KO.blt (tk w) (tk u) with
    | true => rfl
    | false => unfold cmp3 at h3; rw [q] at h3; split at h3 <;> simp at h3 <;> omega
  rcases KO.negTrans _ (tk v) _ y with q | q
  · rw [no h2 hv hw] at q; cases q
  · rw [no h1 hu hv] at q; cases q
/-! ### rows -/
/-- a row's key -/
def rk : PyData → PyData
  | .tuple vs => .tuple (vs.map kv)
  | _ => .none
def rowV (d : PyData) : Prop := ∃ v vs, d = .tuple (v :: vs) ∧ vs.length ≤ 8 ∧ ∀ x ∈ v :: vs, anyV x
theorem allKv {P : PyData → Prop} {vs : List PyData} (h : ∀ x ∈ vs, anyV x) (hp : ∀ x, anyV x → P (kv x)) : ∀ y ∈ vs.map kv, P y := fun y hy => by
  obtain ⟨x, hx, rfl⟩ := List.mem_map.mp hy
  exact hp x (h x hx)
theorem alikeAll_kv : ∀ (vs ws : List PyData), (∀ x ∈ vs, anyV x) → (∀ x ∈ ws, anyV x) → PySem.W.alikeAll (vs.map kv) (ws.map kv) = true
  | [], _, _, _ => by simp [PySem.W.alikeAll]
  | _ :: _, [], _, _ => by simp [PySem.W.alikeAll]
  | v :: vs, w :: ws, h, h2 => by
    rw [List.map_cons, List.map_cons, PySem.W.alikeAll, alike_kv (h v List.mem_cons_self) (h2 w List.mem_cons_self), alikeAll_kv vs ws (fun x hx => h x (List.mem_cons_of_mem _ hx)) fun x hx => h2 x (List.mem_cons_of_mem _ hx)]; rfl
theorem sameKs_kv : ∀ (vs ws : List PyData), (∀ x ∈ vs, anyV x) → (∀ x ∈ ws, anyV x) → sameKs (vs.map kv) (ws.map kv) = true
  | [], _, _, _ => by simp [sameKs]
  | _ :: _, [], _, _ => by simp [sameKs]
  | v :: vs, w :: ws, h, h2 => by
    rw [List.map_cons, List.map_cons, sameKs, sameK_kv (h v List.mem_cons_self) (h2 w List.mem_cons_self), sameKs_kv vs ws (fun x hx => h x (List.mem_cons_of_mem _ hx)) fun x hx => h2 x (List.mem_cons_of_mem _ hx)]; rfl
theorem depAll_kv : ∀ (vs : List PyData), (∀ x ∈ vs, anyV x) → PyData.depthAll (vs.map kv) ≤ 2
  | [], _ => by simp [PyData.depthAll]
  | v :: vs, h => by
    have := depAll_kv vs fun x hx => h x (List.mem_cons_of_mem _ hx)
    rw [List.map_cons, PyData.depthAll, dep_kv (h v List.mem_cons_self)]
    omega
theorem ordL_kv : ∀ (vs ws : List PyData), (∀ x ∈ vs, anyV x) → (∀ x ∈ ws, anyV x) → ordL .gt (vs.map kv) (ws.map kv) = PyProof.Rows.lexLt PyProof.Rows.itemOrd (PySem.W.keyToksAll (ws.map kv)) (PySem.W.keyToksAll (vs.map kv))
  | [], [], _, _ => by rw [List.map_nil, lt_nil]; simp [ordL, Cp.n]
  | [], w :: ws, _, _ => by
    rw [List.map_nil, List.map_cons, PySem.W.toks_all_cons]
    simp [ordL, Cp.n, PySem.W.keyToksAll, PyProof.Rows.lexLt, PyProof.Rows.itemLt]
  | v :: vs, [], _, _ => by
    rw [List.map_nil, List.map_cons, PySem.W.toks_all_cons]
    simp [ordL, Cp.n, PySem.W.keyToksAll, PyProof.Rows.lexLt, PyProof.Rows.itemLt]
  | v :: vs, w :: ws, h, h2 => by
    have hv := h v List.mem_cons_self
    have hw := h2 w List.mem_cons_self
    have ih := ordL_kv vs ws (fun x hx => h x (List.mem_cons_of_mem _ hx)) fun x hx => h2 x (List.mem_cons_of_mem _ hx)
    rw [List.map_cons, List.map_cons, ordL, PySem.W.dataLt_cons (alike_kv hw hv), eqv_kv hv hw, eqv_kv hw hv, ih, (ordD_kv hv hw).2]
    by_cases e : k3 v = k3 w
    · rw [if_pos (decide_eq_true e), if_pos (decide_eq_true e.symm)]
    · rw [if_neg (by rw [decide_eq_true_eq]; exact e), if_neg (by rw [decide_eq_true_eq]; exact fun z => e z.symm)]

theorem rk_tup {d : PyData} (h : rowV d) : ∃ v vs, d = .tuple (v :: vs) ∧ rk d = .tuple (kv v :: vs.map kv) ∧ ∀ x ∈ v :: vs, anyV x := by
  obtain ⟨v, vs, rfl, _, hv⟩ := h
  exact ⟨v, vs, rfl, rfl, hv⟩
theorem alike_rk {d e : PyData} (h : rowV d) (h2 : rowV e) : PySem.W.alike (rk d) (rk e) = true := by
  obtain ⟨v, vs, rfl, hr, hv⟩ := rk_tup h
  obtain ⟨w, ws, rfl, hr2, hw⟩ := rk_tup h2
  rw [hr, hr2, PySem.W.alike]
  exact alikeAll_kv (v :: vs) (w :: ws) hv hw
theorem sameK_rk {d e : PyData} (h : rowV d) (h2 : rowV e) : sameK (rk d) (rk e) = true := by
  obtain ⟨v, vs, rfl, hr, hv⟩ := rk_tup h
  obtain ⟨w, ws, rfl, hr2, hw⟩ := rk_tup h2
  rw [hr, hr2, sameK]
  exact sameKs_kv (v :: vs) (w :: ws) hv hw
theorem dep_rk {d : PyData} (h : rowV d) : (rk d).depth ≤ 64 := by
  obtain ⟨v, vs, rfl, hr, hv⟩ := rk_tup h
  have := depAll_kv (v :: vs) hv
  rw [List.map_cons] at this
  rw [hr, PyData.depth]
  omega
theorem gt_rk {d e : PyData} (h : rowV d) (h2 : rowV e) : ordD .gt (rk d) (rk e) = KO.blt (PySem.W.keyToks (rk e)) (PySem.W.keyToks (rk d)) := by
  obtain ⟨v, vs, rfl, hr, hv⟩ := rk_tup h
  obtain ⟨w, ws, rfl, hr2, hw⟩ := rk_tup h2
  rw [hr, hr2, ordD, PySem.W.keyToks, PySem.W.keyToks]
  exact ordL_kv (v :: vs) (w :: ws) hv hw
theorem k3_inj {v w : PyData} (h : anyV v) (h2 : anyV w) (e : k3 v = k3 w) : v = w := by
  cases v with
  | bool a =>
    cases w with
    | bool b => cases a <;> cases b <;> first | rfl | (exfalso; simp [k3] at e)
    | int i => simp [k3] at e
    | str x => simp [k3] at e
    | _ => exact h2.elim
  | int i =>
    cases w with
    | bool b => simp [k3] at e
    | int j => simp [k3] at e; rw [e]
    | str x => simp [k3] at e
    | _ => exact h2.elim
  | str x =>
    cases w with
    | bool b => simp [k3] at e
    | int j => simp [k3] at e
    | str y => simp [k3] at e; rw [e]
    | _ => exact h2.elim
  | _ => exact h.elim
theorem toks_inj : ∀ (vs ws : List PyData), (∀ x ∈ vs, anyV x) → (∀ x ∈ ws, anyV x) → PySem.W.keyToksAll (vs.map kv) = PySem.W.keyToksAll (ws.map kv) → vs = ws
  | [], [], _, _, _ => rfl
  | [], w :: ws, _, _, e => by rw [List.map_nil, List.map_cons, PySem.W.toks_all_cons] at e; simp [PySem.W.keyToksAll] at e
  | v :: vs, [], _, _, e => by rw [List.map_nil, List.map_cons, PySem.W.toks_all_cons] at e; simp [PySem.W.keyToksAll] at e
  | v :: vs, w :: ws, h, h2, e => by
    have hv := h v List.mem_cons_self
    have hw := h2 w List.mem_cons_self
    rw [List.map_cons, List.map_cons, PySem.W.toks_all_cons, PySem.W.toks_all_cons, kv_eq hv, kv_eq hw] at e
    simp only [PySem.W.keyToks, PySem.W.keyToksAll, List.cons_append, List.nil_append, List.cons.injEq, Sum.inl.injEq, Sum.inr.injEq, true_and] at e
    obtain ⟨e1, e2, e3, e4⟩ := e
    rw [k3_inj hv hw (Prod.ext e1 (Prod.ext e2 (PySem.W.str_of_cps e3))), toks_inj vs ws (fun x hx => h x (List.mem_cons_of_mem _ hx)) (fun x hx => h2 x (List.mem_cons_of_mem _ hx)) e4]
abbrev leR (a b : PyData) : Bool := PySem.W.dataLe false rk a b
theorem leR_eq (a b : PyData) : leR a b = !KO.blt (PySem.W.keyToks (rk b)) (PySem.W.keyToks (rk a)) := rfl
theorem leR_tot : PySem.W.TotalLe leR := PySem.W.sortLe_total KO false fun b => PySem.W.keyToks (rk b)
theorem leR_anti {d e : PyData} (h : rowV d) (h2 : rowV e) (a : leR d e = true) (b : leR e d = true) : d = e := by
  rw [leR_eq, Bool.not_eq_true'] at a b
  have t := KO.total _ _ b a
  obtain ⟨v, vs, rfl, hr, hv⟩ := rk_tup h
  obtain ⟨w, ws, rfl, hr2, hw⟩ := rk_tup h2
  rw [hr, hr2, PySem.W.keyToks, PySem.W.keyToks] at t
  rw [toks_inj (v :: vs) (w :: ws) hv hw t]
/-- whatever order the rows come in -/
theorem srt_perm {xs ys : List PyData} (h : ∀ x ∈ xs, rowV x) (p : xs.Perm ys) : srt rk xs = srt rk ys := by
  refine List.Perm.eq_of_pairwise (le := fun a b => leR a b = true) (fun a b ha hb h1 h2 => ?_) (PySem.W.sort_pairwise leR_tot xs) (PySem.W.sort_pairwise leR_tot ys) (((List.mergeSort_perm xs _).trans p).trans (List.mergeSort_perm ys _).symm)
  have ma : a ∈ xs := (List.mergeSort_perm xs _).mem_iff.mp ha
  have mb : b ∈ xs := p.mem_iff.mpr ((List.mergeSort_perm ys _).mem_iff.mp hb)
  exact leR_anti (h a ma) (h b mb) h1 h2
theorem srt_mem {xs : List PyData} {x : PyData} (h : x ∈ srt rk xs) : x ∈ xs := (List.mergeSort_perm xs _).mem_iff.mp h
theorem srt_len {xs : List PyData} : (srt rk xs).length = xs.length := List.length_mergeSort ..
theorem srt_next {xs : List PyData} (h : ∀ x ∈ xs, rowV x) {i : Nat} (hi : i + 1 < (srt rk xs).length) : ordD .gt (rk (srt rk xs)[i]) (rk (srt rk xs)[i + 1]) = false := by
  have hp := List.pairwise_iff_getElem.mp (PySem.W.sort_pairwise leR_tot xs) i (i + 1) (show i < (srt rk xs).length by omega) hi (by omega)
  rw [gt_rk (h _ (srt_mem (List.getElem_mem _))) (h _ (srt_mem (List.getElem_mem _)))]
  have hp : leR (srt rk xs)[i] (srt rk xs)[i + 1] = true := hp
  rw [leR_eq, Bool.not_eq_true'] at hp
  exact hp
end DL
set_option Elab.async false
set_option linter.all false
set_option maxRecDepth 100000
set_option maxHeartbeats 4000000
/-! M4: keys, order, sorting of rows: shared by many laws. -/
local macro_rules | `(tactic| walk_at "dl.s") => `(tactic| first | exact DL.shaped_int | exact DL.shaped_bool | exact DL.shaped_non | assumption | (with_reducible decide) | omega | exact DL.cmulw 64 64 (by omega) (by omega) (by decide) | exact DL.cdivw (by omega) (by omega) | exact DL.cmulw 64 64 (by decide) (by decide) (by decide) | exact DL.cpow (by decide) (by decide) (by decide) | exact rfl | exact Nat.le_of_ble_eq_true rfl | fail)
local macro_rules | `(tactic| walk_at "dl") => `(tactic| ((conv => whnf); repeat' (first | (refine And.intro (by walk_at "dl.s") ?_; conv => whnf) | (refine DL.condP_tt (by rfl) ?_; conv => whnf) | (refine DL.condP_ff (by rfl) ?_; conv => whnf) | fail)))
local macro_rules | `(tactic| walk_at "dl.if") => `(tactic| (refine DL.condP_by (fun h => ?_) (fun h => ?_) <;> (try simp only [DL.eqv_int, DL.eqv_str, DL.eqv_bool, DL.Cp.i, beq_iff_eq, decide_eq_true_eq, decide_eq_false_iff_not, beq_eq_false_iff_ne, List.length_map, ne_eq, Bool.not_eq_true', Bool.not_eq_false', Int.reduceToNat, Int.reducePow] at h)))
namespace DL
open PySem PySem.Spec PyProof.Rows L2
def c_MOST_NUMBER : PyData := .int 1000000000000
def c_MOST_SIGNS : PyData := .int 200
/-- signs between two numbers -/
def pb_32_127 (c : Nat) : Bool := decide ((32 : Int) ≤ (c : Int)) && decide ((c : Int) < (127 : Int))
def b_is_text : DS :=
    (sRet (tAndV (tIsi .str (tName 0)) (tAndV (tBin (fOrdr .le) (tCB' fLen (tC' (tName 0) tN)) (tK c_MOST_SIGNS)) (tAllD pb_32_127 (tName 0)))))
def b_kind_of_1 (m_is_text : PM) : DS :=
    (sIf (tVal (tIsi .bool (tName 0))) (sRet (tK (.str "truth"))) sNext)
def b_kind_of_2 (m_is_text : PM) : DS :=
    (sIf (tVal (tIsi .int (tName 0))) (sRet (tIfE (tVal (tChn .le .le (tNeg (tK c_MOST_NUMBER)) (tName 0) (tK c_MOST_NUMBER))) (tK (.str "number")) (tK .none))) sNext)
def b_kind_of_3 (m_is_text : PM) : DS :=
    (sRet (tIfE (tTru (tCallP m_is_text (tC' (tFrz (tName 0)) tN))) (tK (.str "text")) (tK .none)))
def b_kind_of_t3 (m_is_text : PM) : DS := b_kind_of_3 m_is_text
def b_kind_of_t2 (m_is_text : PM) : DS := sSeq (b_kind_of_2 m_is_text) (b_kind_of_t3 m_is_text)
def b_kind_of (m_is_text : PM) : DS := sSeq (b_kind_of_1 m_is_text) (b_kind_of_t2 m_is_text)
def b_key_of_1 (m_kind_of : PM) : DS :=
    (sAsg (tCallP m_kind_of (tC' (tFrz (tName 0)) tN)) (gNm 1))
def b_key_of_2 (m_kind_of : PM) : DS :=
    (sIf (tCmp2 fEq (tName 1) (tK (.str "truth"))) (sRet (tTup' (tC' (tK (.int 0)) (tC' (tCB' fInt (tC' (tName 0) tN)) (tC' (tK (.str "")) tN))))) sNext)
def b_key_of_3 (m_kind_of : PM) : DS :=
    (sRet (tIfE (tCmp2 fEq (tName 1) (tK (.str "number"))) (tTup' (tC' (tK (.int 1)) (tC' (tFrz (tName 0)) (tC' (tK (.str "")) tN)))) (tTup' (tC' (tK (.int 2)) (tC' (tK (.int 0)) (tC' (tFrz (tName 0)) tN))))))
def b_key_of_t3 (m_kind_of : PM) : DS := b_key_of_3 m_kind_of
def b_key_of_t2 (m_kind_of : PM) : DS := sSeq (b_key_of_2 m_kind_of) (b_key_of_t3 m_kind_of)
def b_key_of (m_kind_of : PM) : DS := sSeq (b_key_of_1 m_kind_of) (b_key_of_t2 m_kind_of)
def C_row_key_1 (m_key_of : PM) : DT :=
    (tCallP m_key_of (tC' (tFrz (tName 1)) tN))
def b_row_key (m_key_of : PM) : DS :=
    (sRet (tCB' fTuple (tC' (tLcD (wSeq (tFrz (tName 0))) (.nm 1) tYesD (C_row_key_1 m_key_of) [1]) tN)))
def b_compare_1 (m_key_of : PM) : DS :=
    (sPar 2 3 (tC' (tCallP m_key_of (tC' (tFrz (tName 0)) tN)) (tC' (tCallP m_key_of (tC' (tFrz (tName 1)) tN)) tN)))
def b_compare_2 (m_key_of : PM) : DS :=
    (sRet (tBin (fI0 fun i j => .int (i - j)) (tCB' fInt (tC' (tBin (fOrdr .gt) (tName 2) (tName 3)) tN)) (tCB' fInt (tC' (tBin (fOrdr .lt) (tName 2) (tName 3)) tN))))
def b_compare_t2 (m_key_of : PM) : DS := b_compare_2 m_key_of
def b_compare (m_key_of : PM) : DS := sSeq (b_compare_1 m_key_of) (b_compare_t2 m_key_of)
def b_same (m_key_of : PM) : DS :=
    (sRet (tBin fEq (tCallP m_key_of (tC' (tFrz (tName 0)) tN)) (tCallP m_key_of (tC' (tFrz (tName 1)) tN))))
def b_in_order (m_row_key : PM) : DS :=
    (sRet (tCB' fTuple (tC' (tSrtL (tName 0) (tCallP m_row_key (tC' (tFrz (tName 0)) tN)) 0) tN)))
def L__law_key_1 : DS :=
    (sIf (tVal (tIsi .bool (tName 2))) (sDrop (tApp 1 (tTup' (tC' (tK (.int 0)) (tC' (tCB' fInt (tC' (tName 2) tN)) (tC' (tK (.str "")) tN)))))) (sIf (tVal (tIsi .int (tName 2))) (sDrop (tApp 1 (tTup' (tC' (tK (.int 1)) (tC' (tFrz (tName 2)) (tC' (tK (.str "")) tN)))))) (sDrop (tApp 1 (tTup' (tC' (tK (.int 2)) (tC' (tK (.int 0)) (tC' (tFrz (tName 2)) tN))))))))
def b__law_key_1 : DS :=
    (sAsg (tLst' tN) (gNm 1))
def b__law_key_2 : DS :=
    (sFor (wSeq (tFrz (tName 0))) (.nm 2) (L__law_key_1))
def b__law_key_3 : DS :=
    (sRet (tCB' fTuple (tC' (tName 1) tN)))
def b__law_key_t3 : DS := b__law_key_3
def b__law_key_t2 : DS := sSeq (b__law_key_2) (b__law_key_t3)
def b__law_key : DS := sSeq (b__law_key_1) (b__law_key_t2)
def b__law_sorted (m__law_key : PM) : DS :=
    (sRet (tCB' fTuple (tC' (tSrtL (tName 0) (tCallP m__law_key (tC' (tFrz (tName 0)) tN)) 0) tN)))
def mIsText : PM := fun ds R => ∃ x : Str, ds = [.str x] ∧ x.length ≤ 8 ∧ (∀ c ∈ x.cps.toList, 32 ≤ c ∧ c < 127) ∧ R (.bool true)
theorem isText_ok (ds : List PyData) (R : PyData → Prop) (h : mIsText ds R) : b_is_text (eR R) (ds.map SV.d ++ bl (2 - ds.length)) := by
  obtain ⟨x, rfl, hl, hc, hR⟩ := h
  have e : x.cps.toList.all pb_32_127 = true := List.all_eq_true.mpr fun c m => by
    obtain ⟨h1, h2⟩ := hc c m
    unfold pb_32_127
    simp only [Bool.and_eq_true, decide_eq_true_eq]
    omega
  have hl2 : x.length ≤ 16777216 := by omega
  walk_at "dl"
  refine condP_by (fun h => ?_) (fun h => ?_)
  · walk_at "dl"
    rw [e]; exact hR
  · simp only [Cp.i, decide_eq_false_iff_not] at h
    exfalso
    have : ((x.length : Nat) : Int) ≤ 200 := by omega
    exact h this
def kd : PyData → Str
  | .bool _ => Str.ofString "truth"
  | .int _ => Str.ofString "number"
  | _ => Str.ofString "text"
def mKind : PM := fun ds R => ∃ v, ds = [v] ∧ anyV v ∧ R (.str (kd v))
theorem kind_ok (ds : List PyData) (R : PyData → Prop) (h : mKind ds R) : b_kind_of mIsText (eR R) (ds.map SV.d ++ bl (1 - ds.length)) := by
  obtain ⟨v, rfl, hv, hR⟩ := h
  cases v with
  | bool b => walk_at "dl"; exact hR
  | int i =>
    obtain ⟨h1, h2⟩ := hv
    walk_at "dl"
    refine condP_by (fun h => ?_) (fun h => ?_)
    · walk_at "dl"
      refine condP_by (fun h => ?_) (fun h => ?_)
      · exact hR
      · simp only [Cp.i, decide_eq_false_iff_not] at h; exact absurd h2 h
    · simp only [Cp.i, decide_eq_false_iff_not] at h; exact absurd h1 h
  | str x =>
    obtain ⟨h1, h2⟩ := hv
    walk_at "dl"
    refine ⟨x, rfl, h1, h2, ?_⟩
    walk_at "dl"
    exact hR
  | _ => exact hv.elim
theorem okT : SeqAt.shaped (.str (Str.ofString "truth")) = true := by rw [shaped_str]; decide +kernel
theorem okN : SeqAt.shaped (.str (Str.ofString "number")) = true := by rw [shaped_str]; decide +kernel
theorem okX : SeqAt.shaped (.str (Str.ofString "text")) = true := by rw [shaped_str]; decide +kernel
def mKey : PM := fun ds R => ∃ v, ds = [v] ∧ anyV v ∧ R (kv v)
theorem key_ok (ds : List PyData) (R : PyData → Prop) (h : mKey ds R) : b_key_of mKind (eR R) (ds.map SV.d ++ bl (2 - ds.length)) := by
  obtain ⟨v, rfl, hv, hR⟩ := h
  have o1 := okT
  have o2 := okN
  have o3 := okX
  walk_at "dl"
  refine ⟨v, rfl, hv, ?_⟩
  cases v with
  | bool b =>
    walk_at "dl"
    exact hR
  | int i =>
    walk_at "dl"
    exact hR
  | str x =>
    walk_at "dl"
    exact hR
  | _ => exact hv.elim
def mRow : PM := fun ds R => ∃ vs, ds = [.tuple vs] ∧ vs.length ≤ 100 ∧ (∀ v ∈ vs, anyV v) ∧ R (.tuple (vs.map kv))
theorem row_ok (ds : List PyData) (R : PyData → Prop) (h : mRow ds R) : b_row_key mKey (eR R) (ds.map SV.d ++ bl (2 - ds.length)) := by
  obtain ⟨vs, rfl, hl, hv, hR⟩ := h
  walk_at "dl"
  refine lc_map (fun Γ => Γ = [.d (.tuple vs), .no]) anyV kv (fun x Γ R hx hI k => ?_) vs [] _ _ hv rfl (by rw [List.length_nil]; omega) fun Γ' hI => ?_
  · subst hI
    walk_at "dl"
    refine ⟨_, rfl, hx, k _ rfl⟩
  · subst hI
    rw [List.nil_append]
    exact hR
theorem lkey_loop (E : DEnds) (w : SV) : ∀ (vs acc : List PyData) (x : SV), (∀ v ∈ vs, anyV v) → acc.length + vs.length ≤ 100 → (x = .no ∨ ∃ d, x = .d d) → (∀ x, E.nx [w, .c false (.lst (acc ++ vs.map kv)), x]) → loopW (.nm 2) L__law_key_1 E vs [w, .c false (.lst acc), x]
  | [], acc, x, _, _, _, h => by
    have := h x
    rw [List.map_nil, List.append_nil] at this
    exact this
  | v :: vs, acc, x, hv, hl, hx, h => by
    rw [List.length_cons] at hl
    have hv1 := hv v List.mem_cons_self
    have ih := lkey_loop E w vs (acc ++ [kv v]) (.d v) (fun y hy => hv y (List.mem_cons_of_mem _ hy)) (by rw [List.length_append]; show acc.length + 1 + vs.length ≤ 100; omega) (.inr ⟨_, rfl⟩) (fun y => by rw [List.append_assoc]; exact h y)
    have hz : acc.length < 16777216 := by omega
    unfold loopW
    cases v with
    | bool b => rcases hx with rfl | ⟨d, rfl⟩ <;> walk_at "dl" <;> exact ih
    | int i => rcases hx with rfl | ⟨d, rfl⟩ <;> walk_at "dl" <;> exact ih
    | str z => rcases hx with rfl | ⟨d, rfl⟩ <;> walk_at "dl" <;> exact ih
    | _ => exact hv1.elim
theorem lkey_ok (ds : List PyData) (R : PyData → Prop) (h : mRow ds R) : b__law_key (eR R) (ds.map SV.d ++ bl (3 - ds.length)) := by
  obtain ⟨vs, rfl, hl, hv, hR⟩ := h
  walk_at "dl"
  exact lkey_loop _ _ vs [] .no hv (by rw [List.length_nil]; omega) (.inl rfl) fun x => hR
def mCmp : PM := fun ds R => ∃ v w, ds = [v, w] ∧ anyV v ∧ anyV w ∧ R (.int (cmp3 v w))
def mSm : PM := fun ds R => ∃ v w, ds = [v, w] ∧ anyV v ∧ anyV w ∧ R (.bool (decide (k3 v = k3 w)))
theorem sm_ok (ds : List PyData) (R : PyData → Prop) (h : mSm ds R) : b_same mKey (eR R) (ds.map SV.d ++ bl (2 - ds.length)) := by
  obtain ⟨v, w, rfl, hv, hw, hR⟩ := h
  have s1 := shaped_kv hv
  have s2 := shaped_kv hw
  walk_at "dl"
  refine ⟨v, rfl, hv, ?_⟩
  walk_at "dl"
  refine ⟨w, rfl, hw, ?_⟩
  walk_at "dl"
  rw [eqv_kv hv hw]
  exact hR
theorem cmp_ok (ds : List PyData) (R : PyData → Prop) (h : mCmp ds R) : b_compare mKey (eR R) (ds.map SV.d ++ bl (4 - ds.length)) := by
  obtain ⟨v, w, rfl, hv, hw, hR⟩ := h
  have q1 := sameK_kv hv hw
  have q2 : (kv v).depth ≤ 64 := by rw [dep_kv hv]; decide
  obtain ⟨o1, o2⟩ := ordD_kv hv hw
  have tv := kv_eq hv
  have tw := kv_eq hw
  walk_at "dl"
  refine ⟨v, rfl, hv, ?_⟩
  walk_at "dl"
  refine ⟨w, rfl, hw, ?_⟩
  unfold cmp3 at hR
  rw [← lt_tk, ← lt_tk, ← o1, ← o2] at hR
  rw [tv] at q1 q2 hR ⊢
  rw [tw] at q1 hR ⊢
  walk_at "dl"
  exact hR
def mSrt : PM := fun ds R => ∃ rows, ds = [.list rows] ∧ (∀ r ∈ rows, rowV r) ∧ R (.tuple (srt rk rows))
theorem srt_side {rows : List PyData} (h : ∀ r ∈ rows, rowV r) : PySem.W.AllAlike (rows.map rk) ∧ PySem.W.Sortable (rows.map rk) ∧ ∀ d ∈ rows, (rk d).depth ≤ 64 := by
  refine ⟨fun d hd e he => ?_, .inl fun d hd => ?_, fun d hd => dep_rk (h d hd)⟩
  · obtain ⟨x, hx, rfl⟩ := List.mem_map.mp hd
    obtain ⟨y, hy, rfl⟩ := List.mem_map.mp he
    exact alike_rk (h x hx) (h y hy)
  · obtain ⟨x, hx, rfl⟩ := List.mem_map.mp hd
    obtain ⟨v, vs, _, e, _⟩ := rk_tup (h x hx)
    exact ⟨_, _, e⟩
theorem inOrder_ok (ds : List PyData) (R : PyData → Prop) (h : mSrt ds R) : b_in_order mRow (eR R) (ds.map SV.d ++ bl (1 - ds.length)) := by
  obtain ⟨rows, rfl, hr, hR⟩ := h
  obtain ⟨h1, h2, h3⟩ := srt_side hr
  walk_at "dl"
  refine ⟨rk, fun d hd => ?_, h1, h2, h3, hR⟩
  obtain ⟨v, vs, rfl, hl, hv⟩ := hr d hd
  conv => whnf
  exact ⟨v :: vs, rfl, by rw [List.length_cons]; omega, hv, rfl⟩
theorem lsorted_ok (ds : List PyData) (R : PyData → Prop) (h : mSrt ds R) : b__law_sorted mRow (eR R) (ds.map SV.d ++ bl (1 - ds.length)) := by
  obtain ⟨rows, rfl, hr, hR⟩ := h
  obtain ⟨h1, h2, h3⟩ := srt_side hr
  walk_at "dl"
  refine ⟨rk, fun d hd => ?_, h1, h2, h3, hR⟩
  obtain ⟨v, vs, rfl, hl, hv⟩ := hr d hd
  conv => whnf
  exact ⟨v :: vs, rfl, by rw [List.length_cons]; omega, hv, rfl⟩
/-! ### data of bounded depth is shaped -/
theorem canAll_of : ∀ {xs : List PyData}, (∀ x ∈ xs, PyData.canLay0 x = true) → PyData.canLayAll0 xs = true
  | [], _ => by unfold PyData.canLayAll0; rfl
  | x :: xs, h => by
    unfold PyData.canLayAll0
    rw [h x List.mem_cons_self, canAll_of fun y hy => h y (List.mem_cons_of_mem _ hy)]; rfl
theorem depAll_le : ∀ {xs : List PyData} {m : Nat}, (∀ x ∈ xs, PyData.depth x ≤ m) → PyData.depthAll xs ≤ m
  | [], _, _ => by unfold PyData.depthAll; omega
  | x :: xs, m, h => by
    unfold PyData.depthAll
    have := h x List.mem_cons_self
    have := depAll_le fun y hy => h y (List.mem_cons_of_mem _ hy)
    omega
theorem shp_lay : ∀ (n : Nat) (d : PyData), shp n d → PyData.canLay0 d = true ∧ PyData.depth d ≤ n
  | n, .none, _ => by unfold PyData.canLay0 PyData.depth; simp
  | n, .bool _, _ => by unfold PyData.canLay0 PyData.depth; simp
  | n, .int _, _ => by unfold PyData.canLay0 PyData.depth; simp
  | n, .str x, h => by
    have h : PyData.strOk x = true := by cases n <;> exact h
    unfold PyData.canLay0 PyData.depth; exact ⟨h, Nat.zero_le _⟩
  | 0, .list xs, h => h.elim
  | 0, .tuple xs, h => h.elim
  | n, .dict xs, h => by cases n <;> exact h.elim
  | n + 1, .list xs, h => by
    have a := canAll_of fun x hx => (shp_lay n x (h.2 x hx)).1
    have b := depAll_le fun x hx => (shp_lay n x (h.2 x hx)).2
    unfold PyData.canLay0 PyData.depth
    exact ⟨a, by omega⟩
  | n + 1, .tuple xs, h => by
    have a := canAll_of fun x hx => (shp_lay n x (h.2 x hx)).1
    have b := depAll_le fun x hx => (shp_lay n x (h.2 x hx)).2
    unfold PyData.canLay0 PyData.depth
    exact ⟨a, by omega⟩
theorem shaped_shp {n : Nat} {d : PyData} (h : shp n d) (hn : n ≤ 64) : SeqAt.shaped d = true := by
  obtain ⟨a, b⟩ := shp_lay n d h
  unfold SeqAt.shaped
  rw [a, Bool.true_and, decide_eq_true_eq]
  omega
theorem shp_any {v : PyData} (n : Nat) (h : anyV v) : shp n v := by
  cases v with
  | bool b => cases n <;> trivial
  | int b => cases n <;> trivial
  | str x =>
    have := strOk7 h.2
    cases n <;> exact this
  | _ => exact h.elim
end DL
set_option Elab.async false
set_option linter.all false
set_option maxRecDepth 100000
set_option maxHeartbeats 4000000
/-! M5: comprehensions with a test; ints in lists. -/
namespace DL
open PySem PySem.Spec PyProof.Rows L2
/-- a comprehension with a test: the items that pass, in order -/
theorem lc_filter {g : Tg} {tt : DTt} {te : DT} {vs : List Nat} (I : Fm → Prop) (J : PyData → Fm → Prop) (Q : PyData → Prop) (p : PyData → Bool) (f : PyData → PyData)
    (htt : ∀ x Γ (K : Bool → Fm → Prop), Q x → I Γ → (∀ Γ2, J x Γ2 → K (p x) Γ2) → g.d x Γ fun Γ1 => tt Γ1 K)
    (hte : ∀ x Γ R, Q x → p x = true → J x Γ → (∀ Γ3, I (wipeF Γ3 vs) → R (.d (f x)) Γ3) → te Γ R)
    (hno : ∀ x Γ, Q x → p x = false → J x Γ → I (wipeF Γ vs)) :
    ∀ (xs acc : List PyData) (Γ : Fm) (k : List PyData → Fm → Prop), (∀ x ∈ xs, Q x) → I Γ → acc.length + xs.length ≤ 16777216 → (∀ Γ', I Γ' → k (acc ++ (xs.filter p).map f) Γ') → lcW g tt te vs xs acc Γ k
  | [], acc, Γ, k, _, hI, _, hk => by
    have := hk Γ hI
    rw [List.filter_nil, List.map_nil, List.append_nil] at this
    rw [lcW_nil]
    exact this
  | x :: xs, acc, Γ, k, hQ, hI, hl, hk => by
    rw [List.length_cons] at hl
    rw [lcW_cons]
    refine htt x Γ (fun b Γ2 => condP b (te Γ2 fun rv Γ3 => datR rv fun y => acc.length < sizeLine ∧ lcW g tt te vs xs (acc ++ [y]) (wipeF Γ3 vs) k) (lcW g tt te vs xs acc (wipeF Γ2 vs) k)) (hQ x List.mem_cons_self) hI fun Γ2 hJ => ?_
    have hQ' : ∀ z ∈ xs, Q z := fun z h => hQ z (List.mem_cons_of_mem _ h)
    cases h : p x with
    | true =>
      refine condP_tt rfl ?_
      refine hte x Γ2 (fun rv Γ3 => datR rv fun y => acc.length < sizeLine ∧ lcW g tt te vs xs (acc ++ [y]) (wipeF Γ3 vs) k) (hQ x List.mem_cons_self) h hJ fun Γ3 i3 => ⟨by show acc.length < 16777216; omega, ?_⟩
      refine lc_filter I J Q p f htt hte hno xs (acc ++ [f x]) _ k hQ' i3 (by rw [List.length_append]; show acc.length + 1 + xs.length ≤ 16777216; omega) fun Γ' hI' => ?_
      rw [List.append_assoc]
      have := hk Γ' hI'
      rw [List.filter_cons_of_pos h] at this
      exact this
    | false =>
      refine condP_ff rfl ?_
      refine lc_filter I J Q p f htt hte hno xs acc _ k hQ' (hno x Γ2 (hQ x List.mem_cons_self) h hJ) (by omega) fun Γ' hI' => ?_
      have := hk Γ' hI'
      rw [List.filter_cons_of_neg (by rw [h]; decide)] at this
      exact this
theorem intsD_map : ∀ ns : List Int, intsD (ns.map .int) = some ns
  | [] => rfl
  | n :: ns => by rw [List.map_cons]; unfold intsD; rw [intsD_map ns]; rfl
theorem Kd.impP [TabP] {P : Program} {w : World} {K : PySem.W.Frag} {mg : Str → Option Value} {base : Heap} {k : Nat} {x : Str} {ps : List Str} {m m' : PM} (D : Kd P w K mg base k x ps (spP K m)) (h : ∀ ds R, m' ds R → m ds R) : Kd P w K mg base k x ps (spP K m') :=
  let ⟨f, fd, F, r⟩ := D.ex
  ⟨f, fd, F.imp fun _ _ _ _ ⟨ds, R, a, b, c, d⟩ => ⟨ds, R, a, b, h ds R c, d⟩, r⟩
theorem Kd.impI [TabP] {P : Program} {w : World} {K : PySem.W.Frag} {mg : Str → Option Value} {base : Heap} {k : Nat} {x : Str} {ps : List Str} {m m' : IM} (D : Kd P w K mg base k x ps (spI K m)) (h : ∀ cs ds R, m' cs ds R → m cs ds R) : Kd P w K mg base k x ps (spI K m') :=
  let ⟨f, fd, F, r⟩ := D.ex
  ⟨f, fd, F.imp fun _ _ _ _ ⟨p, ws, cs, ds, R, a, b, c, d, e, g⟩ => ⟨p, ws, cs, ds, R, a, b, c, d, h cs ds R e, g⟩, r⟩
end DL
set_option Elab.async false
set_option linter.all false
set_option maxRecDepth 100000
set_option maxHeartbeats 4000000
/-! M6: cuts, lists of ints, order the other way, texts put together: shared by many laws. -/
namespace DL
open PySem PySem.Spec PyProof.Rows L2
def pl (x : SV) : Prop := x = .no ∨ ∃ d, x = .d d
theorem pl_no : pl .no := .inl rfl
theorem free_pl {x : SV} {A : Prop} (h : pl x) (a : A) : free (some x) A := by rcases h with rfl | ⟨d, rfl⟩ <;> exact a
theorem plainS_pl {x : SV} {A : Prop} (h : pl x) (a : A) : plainS (some x) A := by rcases h with rfl | ⟨d, rfl⟩ <;> exact a
def np (x : SV) : Prop := ∀ c, x ≠ .c true c
theorem np_no : np .no := fun c z => by cases z
theorem np_d {d : PyData} : np (.d d) := fun c z => by cases z
theorem np_f {d : Cell} : np (.c false d) := fun c z => by cases z
theorem free_np {x : SV} {A : Prop} (h : np x) (a : A) : free (some x) A := by
  cases x with
  | no => exact a
  | d _ => exact a
  | c b q => cases b with
    | true => exact absurd rfl (h q)
    | false => exact a
theorem pl_d {d : PyData} : pl (.d d) := .inr ⟨d, rfl⟩
def inL (l : List Int) : List PyData := l.map .int
theorem inL_len (l : List Int) : (inL l).length = l.length := List.length_map ..
theorem atI_zero {α : Type} (x : α) (xs : List α) : atI (x :: xs) 0 = some x := by
  have := atI_nat (xs := x :: xs) (i := 0) (by simp)
  simpa using this
theorem cutD_lo (rows : List PyData) (c : Nat) (h : c ≤ rows.length) : DL.cutD rows none (some (c : Int)) = rows.take c := by
  unfold DL.cutD
  rw [HT.sIx_none, HT.sIx_nat, Nat.min_eq_left h]; simp
theorem cutD_hi (rows : List PyData) (c : Nat) (h : c ≤ rows.length) : DL.cutD rows (some (c : Int)) none = rows.drop c := by
  unfold DL.cutD
  rw [HT.sIx_none, HT.sIx_nat, Nat.min_eq_left h, List.take_of_length_le (by rw [List.length_drop]; omega)]
theorem cutD_lo2 (rows : List PyData) (c : Int) (h : 0 ≤ c) (h2 : c ≤ rows.length) : DL.cutD rows none (some c) = rows.take c.toNat := by
  have := cutD_lo rows c.toNat (by omega)
  rwa [show ((c.toNat : Nat) : Int) = c from by omega] at this
theorem cutD_hi2 (rows : List PyData) (c : Int) (h : 0 ≤ c) (h2 : c ≤ rows.length) : DL.cutD rows (some c) none = rows.drop c.toNat := by
  have := cutD_hi rows c.toNat (by omega)
  rwa [show ((c.toNat : Nat) : Int) = c from by omega] at this
theorem cutD_mid (rows : List PyData) (f l : Int) (h0 : 0 ≤ f) (h1 : f ≤ l) (h2 : l ≤ rows.length) : DL.cutD rows (some f) (some l) = (rows.drop f.toNat).take (l - f).toNat := by
  obtain ⟨a, rfl⟩ := Int.eq_ofNat_of_zero_le h0
  obtain ⟨b, rfl⟩ := Int.eq_ofNat_of_zero_le (Int.le_trans h0 h1)
  unfold DL.cutD
  have e1 : HT.sIx rows.length 0 (some (a : Int)) = a := by rw [HT.sIx_nat]; omega
  have e2 : HT.sIx rows.length rows.length (some (b : Int)) = b := by rw [HT.sIx_nat]; omega
  show ((rows.drop (HT.sIx rows.length 0 (some (a : Int)))).take (HT.sIx rows.length rows.length (some (b : Int)) - HT.sIx rows.length 0 (some (a : Int)))) = _
  rw [e1, e2]
  congr 1
  omega
theorem cut_mem {rows : List PyData} {P : PyData → Prop} (h : ∀ r ∈ rows, P r) (a b : Option Int) : ∀ r ∈ DL.cutD rows a b, P r := fun r hr => h r (List.mem_of_mem_drop (List.mem_of_mem_take hr))
theorem app_mem {α : Type} {P : α → Prop} {a b : List α} (h1 : ∀ r ∈ a, P r) (h2 : ∀ r ∈ b, P r) : ∀ r ∈ a ++ b, P r := fun r hr => (List.mem_append.mp hr).elim (h1 r) (h2 r)
theorem one_mem {α : Type} {P : α → Prop} {a : α} (h : P a) : ∀ r ∈ [a], P r := fun r hr => by rw [List.mem_singleton.mp hr]; exact h
theorem eqvL_nil (xs : List PyData) : PyData.eqv (.list xs) (.list []) = xs.isEmpty := by
  cases xs <;> simp [PyData.eqv, PyData.eqvAll]
theorem eqvT_nil (xs : List PyData) : PyData.eqv (.tuple xs) (.tuple []) = xs.isEmpty := by
  cases xs <;> simp [PyData.eqv, PyData.eqvAll]
theorem shp_inL (l : List Int) : ∀ x ∈ inL l, shp 0 x := fun x hx => by
  obtain ⟨i, _, rfl⟩ := List.mem_map.mp hx
  trivial
theorem shapedL {l : List Int} (h : l.length ≤ 1000) : SeqAt.shaped (.list (inL l)) = true := shaped_shp (n := 1) ⟨by rw [inL_len]; omega, fun x hx => shp_inL l x hx⟩ (by decide)
theorem shapedT {l : List Int} (h : l.length ≤ 1000) : SeqAt.shaped (.tuple (inL l)) = true := shaped_shp (n := 1) ⟨by rw [inL_len]; omega, fun x hx => shp_inL l x hx⟩ (by decide)
theorem shL0 : SeqAt.shaped (.list []) = true := by decide +kernel
theorem shT0 : SeqAt.shaped (.tuple []) = true := by decide +kernel
theorem isE {xs : List PyData} (h : xs.length ≠ 0) : xs.isEmpty = false := by cases xs <;> simp_all
theorem rngD_off (lo n : Nat) : rngD (lo : Int) n = rgl lo n := by
  unfold rngD
  rw [← rgl_map, List.range'_eq_map_range, List.map_map]
  apply List.map_congr_left
  intro a _
  simp
theorem inL_at {l : List Int} {i : Int} (h0 : 0 ≤ i) (h1 : i < l.length) : atI (inL l) i = some (.int (l.getD i.toNat 0)) := by
  have hlt : i.toNat < l.length := by omega
  rw [atI_lt h0 (by rw [inL_len]; exact h1), List.getD_eq_getElem?_getD, List.getElem?_eq_getElem hlt]
  unfold inL
  rw [List.getElem?_map, List.getElem?_eq_getElem hlt]; rfl
/-! ### <= and > -/
mutual
theorem le_gt : ∀ x y : PyData, sameK x y = true → ordD .le x y = !ordD .gt x y
  | .int a, y, h => by
    cases y with
    | int b => rw [ordD, ordD, Cp.i, Cp.i, Bool.eq_iff_iff]; simp
    | _ => exact absurd h (by simp [sameK])
  | .str a, y, h => by
    cases y with
    | str b => rw [ordD, ordD, Cp.s, Cp.s]
    | _ => exact absurd h (by simp [sameK])
  | .tuple xs, y, h => by
    cases y with
    | tuple ys => rw [ordD, ordD]; rw [sameK] at h; exact le_gts xs ys h
    | _ => exact absurd h (by simp [sameK])
  | .none, y, h => absurd h (by simp [sameK])
  | .bool _, y, h => absurd h (by simp [sameK])
  | .list _, y, h => absurd h (by simp [sameK])
  | .dict _, y, h => absurd h (by simp [sameK])
theorem le_gts : ∀ xs ys : List PyData, sameKs xs ys = true → ordL .le xs ys = !ordL .gt xs ys
  | [], [], _ => by simp [ordL, Cp.n]
  | [], _ :: _, _ => by simp [ordL, Cp.n]
  | _ :: _, [], _ => by simp [ordL, Cp.n]
  | x :: xs, y :: ys, h => by
    rw [sameKs, Bool.and_eq_true] at h
    rw [ordL, ordL]
    split
    · exact le_gts xs ys h.2
    · exact le_gt x y h.1
end
theorem le_rk {d e : PyData} (h : rowV d) (h2 : rowV e) : ordD .le (rk d) (rk e) = leR d e := by
  rw [le_gt _ _ (sameK_rk h h2), gt_rk h h2, leR_eq]
/-! ### texts put together -/
def cat : List Str → Str
  | [] => ⟨#[]⟩
  | x :: xs => x ++ cat xs
theorem str_app_nil (x : Str) : x ++ (⟨#[]⟩ : Str) = x := by
  show Str.append _ _ = _
  unfold Str.append
  simp
theorem str_nil_app (x : Str) : (⟨#[]⟩ : Str) ++ x = x := by
  show Str.append _ _ = _
  unfold Str.append
  simp
theorem str_assoc (x y z : Str) : (x ++ y) ++ z = x ++ (y ++ z) := by
  show Str.append (Str.append _ _) _ = Str.append _ (Str.append _ _)
  unfold Str.append
  simp
theorem join_cat : ∀ xs : List Str, Txt.join ⟨#[]⟩ xs = cat xs := by
  intro xs
  rw [TL.join_eq]
  induction xs with
  | nil => rfl
  | cons c cs ih =>
    cases cs with
    | nil => show c = c ++ cat []; exact (str_app_nil c).symm
    | cons d ds =>
      rw [Str.join]
      · rw [ih, str_app_nil]; rfl
      · intro h; cases h
theorem cat_app : ∀ xs ys : List Str, cat (xs ++ ys) = cat xs ++ cat ys
  | [], ys => by show cat ys = _ ++ _; rw [show cat [] = (⟨#[]⟩ : Str) from rfl, str_nil_app]
  | x :: xs, ys => by rw [List.cons_append]; show x ++ cat (xs ++ ys) = (x ++ cat xs) ++ cat ys; rw [cat_app xs ys, str_assoc]
theorem cat_flat : ∀ xss : List (List Str), cat (xss.map cat) = cat xss.flatten
  | [] => rfl
  | xs :: xss => by rw [List.map_cons, List.flatten_cons, cat_app]; show cat xs ++ _ = _; rw [cat_flat xss]
theorem cat_len : ∀ (xs : List Str), (cat xs).length = (xs.map (·.length)).sum
  | [] => rfl
  | x :: xs => by
    rw [List.map_cons, List.sum_cons, ← cat_len xs]
    show (x ++ cat xs).length = _
    rw [app_length]
/-- '' .join of texts -/
theorem join_e {xs : List Str} {R : Str → Prop} (hl : (cat xs).length ≤ 16777216) (hR : R (cat xs)) :
    (optS (strsD (xs.map PyData.str)) fun ys => (ys.map fun x => x.length).sum + ys.length * (Str.ofString "").length ≤ 16777216 ∧ R (Txt.join (Str.ofString "") ys)) := by
  rw [strsD_str, lit0]
  refine ⟨?_, ?_⟩
  · rw [cat_len] at hl
    show _ + xs.length * 0 ≤ _
    omega
  · rw [join_cat]; exact hR
theorem optS_str {xs : List Str} {k : List Str → Prop} (h : k xs) : optS (strsD (xs.map PyData.str)) k := by rw [strsD_str]; exact h
theorem join_b {xs : List Str} (hl : (cat xs).length ≤ 16777216) : (xs.map fun x => x.length).sum + xs.length * (Str.ofString "").length ≤ 16777216 := by
  rw [lit0]
  rw [cat_len] at hl
  show _ + xs.length * 0 ≤ _
  omega
theorem join_ecat (xs : List Str) : Txt.join (Str.ofString "") xs = cat xs := by rw [lit0, join_cat]
end DL
set_option Elab.async false
set_option linter.all false
set_option maxRecDepth 100000
set_option maxHeartbeats 4000000
local macro_rules | `(tactic| walk_at "dl.s") => `(tactic| first | exact DL.shaped_int | exact DL.shaped_bool | exact DL.shaped_non | assumption | (with_reducible decide) | omega | exact DL.cmulw 64 64 (by omega) (by omega) (by decide) | exact DL.cdivw (by omega) (by omega) | exact DL.cmulw 64 64 (by decide) (by decide) (by decide) | exact DL.cpow (by decide) (by decide) (by decide) | exact rfl | exact Nat.le_of_ble_eq_true rfl | fail)
local macro_rules | `(tactic| walk_at "dl") => `(tactic| ((conv => whnf); repeat' (first | (refine And.intro (by walk_at "dl.s") ?_; conv => whnf) | (refine DL.condP_tt (by rfl) ?_; conv => whnf) | (refine DL.condP_ff (by rfl) ?_; conv => whnf) | fail)))
local macro_rules | `(tactic| walk_at "dl.if") => `(tactic| (refine DL.condP_by (fun h => ?_) (fun h => ?_) <;> (try simp only [DL.eqv_int, DL.eqv_str, DL.eqv_bool, DL.Cp.i, beq_iff_eq, decide_eq_true_eq, decide_eq_false_iff_not, beq_eq_false_iff_ne, List.length_map, ne_eq, Bool.not_eq_true', Bool.not_eq_false', Int.reduceToNat, Int.reducePow] at h)))
namespace DL
open PySem PySem.Spec PyProof.Rows L2
def L__law_rows_1 (m__law_next : IM) : DS :=
    (sIf (tAndT (tCmp2 fNe (tName 2) (tLst' tN)) (tCmp2 fEq (tCallI m__law_next 0 (tC' (tK (.int 4)) tN)) (tK (.int 0)))) (sDrop (tApp 2 (tBin fIx (tName 2) (tCallI m__law_next 0 (tC' (tCB' fLen (tC' (tName 2) tN)) tN))))) (sDrop (tApp 2 (tTup' (tC' (tBin (fI0 fun i j => .int (i - j)) (tCallI m__law_next 0 (tC' (tK (.int 6)) tN)) (tK (.int 2))) (tC' (tBin fIx (tLst' (tC' (tK (.str "a")) (tC' (tK (.str "b")) (tC' (tK (.str "ab")) (tC' (tK (.str "it's")) tN))))) (tCallI m__law_next 0 (tC' (tK (.int 4)) tN))) (tC' (tBin fEq (tCallI m__law_next 0 (tC' (tK (.int 2)) tN)) (tK (.int 1))) tN)))))))
def b__law_rows_1 (m__law_next : IM) : DS :=
    (sAsg (tLst' tN) (gNm 2))
def b__law_rows_2 (m__law_next : IM) : DS :=
    (sFor (wRng (tCallI m__law_next 0 (tC' (tFrz (tBin fAdd (tName 1) (tK (.int 1)))) tN))) (.nm 3) (L__law_rows_1 m__law_next))
def b__law_rows_3 (m__law_next : IM) : DS :=
    (sRet (tFrz (tName 2)))
def b__law_rows_t3 (m__law_next : IM) : DS := b__law_rows_3 m__law_next
def b__law_rows_t2 (m__law_next : IM) : DS := sSeq (b__law_rows_2 m__law_next) (b__law_rows_t3 m__law_next)
def b__law_rows (m__law_next : IM) : DS := sSeq (b__law_rows_1 m__law_next) (b__law_rows_t2 m__law_next)
def rowOk (r : PyData) : Prop := ∃ vs, r = .tuple vs ∧ vs.length ≤ 5 ∧ ∀ v ∈ vs, anyV v
/-- rows of a number, a text and a truth -/
def pRow (r : PyData) : Prop := ∃ (n : Int) (t : Str) (b : Bool), r = .tuple [.int n, .str t, .bool b] ∧ -10 ≤ n ∧ n ≤ 10 ∧ t.length ≤ 8 ∧ ∀ c ∈ t.cps.toList, 32 ≤ c ∧ c < 127
theorem pRow_mk {r : PyData} (h : pRow r) : ∃ v vs, r = .tuple (v :: vs) ∧ vs.length = 2 ∧ ∀ x ∈ v :: vs, anyV x := by
  obtain ⟨n, t, b, rfl, h1, h2, h3⟩ := h
  refine ⟨_, _, rfl, rfl, fun v hv => ?_⟩
  simp only [List.mem_cons, List.not_mem_nil, or_false] at hv
  rcases hv with rfl | rfl | rfl
  · exact ⟨by omega, by omega⟩
  · exact h3
  · trivial
theorem pRow_ok {r : PyData} (h : pRow r) : rowOk r := by
  obtain ⟨v, vs, rfl, h1, h2⟩ := pRow_mk h
  exact ⟨_, rfl, by rw [List.length_cons]; omega, h2⟩
theorem pRow_V {r : PyData} (h : pRow r) : rowV r := by
  obtain ⟨v, vs, rfl, h1, h2⟩ := pRow_mk h
  exact ⟨_, _, rfl, by omega, h2⟩
def mRows : IM := fun cs ds R => St cs ∧ ∃ m : Int, ds = [.int m] ∧ 0 ≤ m ∧ m ≤ 24 ∧ ∀ rows cs', (rows.length : Int) ≤ m → (∀ r ∈ rows, pRow r) → St cs' → R (.list rows) cs'
theorem shp_row {r : PyData} (h : rowOk r) : shp 1 r := by
  obtain ⟨vs, rfl, h1, h2⟩ := h
  exact ⟨by omega, fun x hx => shp_any 0 (h2 x hx)⟩
theorem shapedRL {rows : List PyData} (h : ∀ r ∈ rows, rowOk r) (hl : rows.length ≤ 100) : SeqAt.shaped (.list rows) = true := shaped_shp (n := 2) ⟨by omega, fun x hx => shp_row (h x hx)⟩ (by decide)
theorem ix_row {rows : List PyData} (hr : ∀ r ∈ rows, pRow r) {k : Int} (h0 : 0 ≤ k) (h1 : k < rows.length) : ∃ r, atI rows k = some r ∧ pRow r := by
  have h : k.toNat < rows.length := by omega
  exact ⟨rows[k.toNat], by rw [atI_lt h0 h1, List.getElem?_eq_getElem h], hr _ (List.getElem_mem h)⟩
theorem rows_loop (E : DEnds) (m : SV) (mm : Int) : ∀ (n i : Nat) (cs rows : List PyData) (x : SV), St cs → (∀ r ∈ rows, pRow r) → rows.length + n ≤ 24 → (rows.length + n : Int) ≤ mm → pl x → (∀ cs rows x, St cs → (∀ r ∈ rows, pRow r) → (rows.length : Int) ≤ mm → rows.length ≤ 24 → E.nx [.c true (.lst cs), m, .c false (.lst rows), x]) →
    loopW (.nm 3) (L__law_rows_1 mNext) E (rgl i n) [.c true (.lst cs), m, .c false (.lst rows), x]
  | 0, i, cs, rows, x, hs, hr, hn, hm, hx, h => by unfold rgl loopW; exact h cs rows x hs hr (by omega) (by omega)
  | n + 1, i, cs, rows, x, hs, hr, hn, hm, hx, h => by
    have hz : rows.length < 16777216 := by omega
    have ih := fun cs' row (hs' : St cs') (hrow : pRow row) => rows_loop E m mm n (i + 1) cs' (rows ++ [row]) (.d (.int i)) hs' (app_mem hr (one_mem hrow)) (by rw [List.length_append]; show rows.length + 1 + n ≤ 24; omega) (by rw [List.length_append]; show ((rows.length + 1 : Nat) + n : Int) ≤ mm; omega) pl_d h
    have sh := shapedRL (fun r h => pRow_ok (hr r h)) (by omega : rows.length ≤ 100)
    have s0 := shL0
    have fresh : ∀ cs, St cs → (sDrop (tApp 2 (tTup' (tC' (tBin (fI0 fun i j => .int (i - j)) (tCallI mNext 0 (tC' (tK (.int 6)) tN)) (tK (.int 2))) (tC' (tBin fIx (tLst' (tC' (tK (.str "a")) (tC' (tK (.str "b")) (tC' (tK (.str "ab")) (tC' (tK (.str "it's")) tN))))) (tCallI mNext 0 (tC' (tK (.int 4)) tN))) (tC' (tBin fEq (tCallI mNext 0 (tC' (tK (.int 2)) tN)) (tK (.int 1))) tN)))))) { nx := loopW (.nm 3) (L__law_rows_1 mNext) E (rgl (i + 1) n), ct := loopW (.nm 3) (L__law_rows_1 mNext) E (rgl (i + 1) n), bk := E.nx, rt := E.rt } [.c true (.lst cs), m, .c false (.lst rows), .d (.int i)] := fun cs hs => by
      walk_at "dl"
      refine ⟨_, rfl, by decide, by decide, fun a cs1 a0 a1 hs1 => ?_⟩
      walk_at "dl"
      refine ⟨_, rfl, by decide, by decide, fun b cs2 b0 b1 hs2 => ?_⟩
      have : b = 0 ∨ b = 1 ∨ b = 2 ∨ b = 3 := by omega
      rcases this with rfl | rfl | rfl | rfl <;> (
        walk_at "dl"
        refine ⟨_, rfl, by decide, by decide, fun c cs3 c0 c1 hs3 => ?_⟩
        walk_at "dl"
        rw [eqv_int]
        exact ih cs3 _ hs3 ⟨a - 2, _, _, rfl, by omega, by omega, by decide +kernel, by decide +kernel⟩)
    unfold rgl loopW
    rcases hx with rfl | ⟨_, rfl⟩ <;> (
      walk_at "dl"
      refine condP_by (fun e => ?_) (fun e => ?_)
      · rw [eqvL_nil] at e
        have ne : rows.length ≠ 0 := fun z => by rw [List.length_eq_zero_iff.mp z] at e; cases e
        walk_at "dl"
        refine ⟨_, rfl, by decide, by decide, fun a cs1 a0 a1 hs1 => ?_⟩
        walk_at "dl"
        refine condP_by (fun e2 => ?_) (fun e2 => ?_)
        · walk_at "dl"
          refine ⟨_, rfl, by omega, by omega, fun k cs2 k0 k1 hs2 => ?_⟩
          obtain ⟨r, e3, hr3⟩ := ix_row hr k0 k1
          walk_at "dl"
          rw [e3]
          walk_at "dl"
          exact ih cs2 r hs2 hr3
        · exact fresh cs1 hs1
      · conv => whnf
        refine condP_ff (by rfl) ?_
        exact fresh cs hs)
theorem rows_ok (cs ds : List PyData) (R : PyData → List PyData → Prop) (h : mRows cs ds R) : b__law_rows mNext (eI R) (.c true (.lst cs) :: (ds.map SV.d ++ bl (4 - ds.length - 1))) := by
  obtain ⟨hs, m, rfl, m0, m1, hR⟩ := h
  walk_at "dl"
  refine ⟨_, rfl, by omega, by omega, fun a cs1 a0 a1 hs1 => ?_⟩
  walk_at "dl"
  rw [rngD_rgl]
  refine rows_loop _ _ m _ 0 cs1 [] .no hs1 (fun r h => by cases h) (by rw [List.length_nil]; omega) (by rw [List.length_nil]; omega) pl_no fun cs2 rows x hs2 hr hl hl2 => ?_
  walk_at "dl"
  exact hR rows cs2 hl hr hs2
end DL
set_option Elab.async false
set_option linter.all false
set_option maxRecDepth 100000
set_option maxHeartbeats 4000000
namespace Lk41
open PySem PySem.Spec PyProof.Rows L2 DL
def topS (i : Nat) : Stmt := PySem.Challenge.pw_answersheld_k41_entries_between_values.main.body.getD i (.Pass ⟨0, 0, 0, 0⟩)
abbrev s_is_text : Stmt := topS 6
theorem sc_is_text : FnScope ["value", "sign"] ["value"] (defScope s_is_text) := ⟨rfl, rfl, rfl, by decide +kernel, rfl, by decide +kernel, by decide +kernel⟩
theorem bn_is_text : BndOk "is_text" s_is_text ["value"] := fun _ _ _ _ _ _ us hl => match us, hl with | [_], _ => rfl
abbrev s_kind_of : Stmt := topS 7
theorem sc_kind_of : FnScope ["value"] ["value"] (defScope s_kind_of) := ⟨rfl, rfl, rfl, by decide +kernel, rfl, by decide +kernel, by decide +kernel⟩
theorem bn_kind_of : BndOk "kind_of" s_kind_of ["value"] := fun _ _ _ _ _ _ us hl => match us, hl with | [_], _ => rfl
abbrev s_key_of : Stmt := topS 8
theorem sc_key_of : FnScope ["value", "kind"] ["value"] (defScope s_key_of) := ⟨rfl, rfl, rfl, by decide +kernel, rfl, by decide +kernel, by decide +kernel⟩
theorem bn_key_of : BndOk "key_of" s_key_of ["value"] := fun _ _ _ _ _ _ us hl => match us, hl with | [_], _ => rfl
abbrev s_row_key : Stmt := topS 9
theorem sc_row_key : FnScope ["row", "value"] ["row"] (defScope s_row_key) := ⟨rfl, rfl, rfl, by decide +kernel, rfl, by decide +kernel, by decide +kernel⟩
theorem bn_row_key : BndOk "row_key" s_row_key ["row"] := fun _ _ _ _ _ _ us hl => match us, hl with | [_], _ => rfl
abbrev s_in_order : Stmt := topS 10
theorem sc_in_order : FnScope ["rows"] ["rows"] (defScope s_in_order) := ⟨rfl, rfl, rfl, by decide +kernel, rfl, by decide +kernel, by decide +kernel⟩
theorem bn_in_order : BndOk "in_order" s_in_order ["rows"] := fun _ _ _ _ _ _ us hl => match us, hl with | [_], _ => rfl
abbrev s_place_of : Stmt := topS 12
theorem sc_place_of : FnScope ["schema", "name", "place", "one", "_"] ["schema", "name"] (defScope s_place_of) := ⟨rfl, rfl, rfl, by decide +kernel, rfl, by decide +kernel, by decide +kernel⟩
theorem bn_place_of : BndOk "place_of" s_place_of ["schema", "name"] := fun _ _ _ _ _ _ us hl => match us, hl with | [_, _], _ => rfl
abbrev s_worth_at : Stmt := topS 13
theorem sc_worth_at : FnScope ["schema", "row", "name"] ["schema", "row", "name"] (defScope s_worth_at) := ⟨rfl, rfl, rfl, by decide +kernel, rfl, by decide +kernel, by decide +kernel⟩
theorem bn_worth_at : BndOk "worth_at" s_worth_at ["schema", "row", "name"] := fun _ _ _ _ _ _ us hl => match us, hl with | [_, _, _], _ => rfl
abbrev s_part_of : Stmt := topS 14
theorem sc_part_of : FnScope ["schema", "row", "names", "name"] ["schema", "row", "names"] (defScope s_part_of) := ⟨rfl, rfl, rfl, by decide +kernel, rfl, by decide +kernel, by decide +kernel⟩
theorem bn_part_of : BndOk "part_of" s_part_of ["schema", "row", "names"] := fun _ _ _ _ _ _ us hl => match us, hl with | [_, _, _], _ => rfl
abbrev s_index_of : Stmt := topS 16
theorem sc_index_of : FnScope ["table", "names", "schema", "_", "rows", "name", "row"] ["table", "names"] (defScope s_index_of) := ⟨rfl, rfl, rfl, by decide +kernel, rfl, by decide +kernel, by decide +kernel⟩
theorem bn_index_of : BndOk "index_of" s_index_of ["table", "names"] := fun _ _ _ _ _ _ us hl => match us, hl with | [_, _], _ => rfl
abbrev s_first_place : Stmt := topS 17
theorem sc_first_place : FnScope ["index", "many", "worths", "low", "high", "looked", "goal", "middle"] ["index", "many", "worths"] (defScope s_first_place) := ⟨rfl, rfl, rfl, by decide +kernel, rfl, by decide +kernel, by decide +kernel⟩
theorem bn_first_place : BndOk "first_place" s_first_place ["index", "many", "worths"] := fun _ _ _ _ _ _ us hl => match us, hl with | [_, _, _], _ => rfl
abbrev s_behind_place : Stmt := topS 18
theorem sc_behind_place : FnScope ["index", "many", "worths", "low", "high", "goal", "middle"] ["index", "many", "worths"] (defScope s_behind_place) := ⟨rfl, rfl, rfl, by decide +kernel, rfl, by decide +kernel, by decide +kernel⟩
theorem bn_behind_place : BndOk "behind_place" s_behind_place ["index", "many", "worths"] := fun _ _ _ _ _ _ us hl => match us, hl with | [_, _, _], _ => rfl
abbrev s_rows_from : Stmt := topS 19
theorem sc_rows_from : FnScope ["index", "many", "low", "high", "first", "last", "entry"] ["index", "many", "low", "high"] (defScope s_rows_from) := ⟨rfl, rfl, rfl, by decide +kernel, rfl, by decide +kernel, by decide +kernel⟩
theorem bn_rows_from : BndOk "rows_from" s_rows_from ["index", "many", "low", "high"] := fun _ _ _ _ _ _ us hl => match us, hl with | [_, _, _, _], _ => rfl
abbrev s_rows_same : Stmt := topS 20
theorem sc_rows_same : FnScope ["index", "many", "worths"] ["index", "many", "worths"] (defScope s_rows_same) := ⟨rfl, rfl, rfl, by decide +kernel, rfl, by decide +kernel, by decide +kernel⟩
theorem bn_rows_same : BndOk "rows_same" s_rows_same ["index", "many", "worths"] := fun _ _ _ _ _ _ us hl => match us, hl with | [_, _, _], _ => rfl
abbrev s__law_next : Stmt := topS 22
theorem sc__law_next : FnScope ["state", "limit", "cell", "value"] ["state", "limit"] (defScope s__law_next) := ⟨rfl, rfl, rfl, by decide +kernel, rfl, by decide +kernel, by decide +kernel⟩
theorem bn__law_next : BndOk "_law_next" s__law_next ["state", "limit"] := fun _ _ _ _ _ _ us hl => match us, hl with | [_, _], _ => rfl
abbrev s__law_same : Stmt := topS 23
theorem sc__law_same : FnScope ["actual", "expected", "k"] ["actual", "expected"] (defScope s__law_same) := ⟨rfl, rfl, rfl, by decide +kernel, rfl, by decide +kernel, by decide +kernel⟩
theorem bn__law_same : BndOk "_law_same" s__law_same ["actual", "expected"] := fun _ _ _ _ _ _ us hl => match us, hl with | [_, _], _ => rfl
abbrev s__law_key : Stmt := topS 24
theorem sc__law_key : FnScope ["row", "found", "value"] ["row"] (defScope s__law_key) := ⟨rfl, rfl, rfl, by decide +kernel, rfl, by decide +kernel, by decide +kernel⟩
theorem bn__law_key : BndOk "_law_key" s__law_key ["row"] := fun _ _ _ _ _ _ us hl => match us, hl with | [_], _ => rfl
abbrev s__law_sorted : Stmt := topS 25
theorem sc__law_sorted : FnScope ["rows"] ["rows"] (defScope s__law_sorted) := ⟨rfl, rfl, rfl, by decide +kernel, rfl, by decide +kernel, by decide +kernel⟩
theorem bn__law_sorted : BndOk "_law_sorted" s__law_sorted ["rows"] := fun _ _ _ _ _ _ us hl => match us, hl with | [_], _ => rfl
abbrev s__law_rows : Stmt := topS 26
theorem sc__law_rows : FnScope ["state", "most", "rows", "k"] ["state", "most"] (defScope s__law_rows) := ⟨rfl, rfl, rfl, by decide +kernel, rfl, by decide +kernel, by decide +kernel⟩
theorem bn__law_rows : BndOk "_law_rows" s__law_rows ["state", "most"] := fun _ _ _ _ _ _ us hl => match us, hl with | [_, _], _ => rfl
abbrev s_law : Stmt := topS 27
theorem sc_law : FnScope ["script", "state", "schema", "names", "some", "k", "many", "rows", "index", "due", "row", "name", "turn", "bounds", "side", "found", "entry", "told", "values", "low", "high", "above", "less", "same", "bits", "place", "looked", "one"] ["script"] (defScope s_law) := ⟨rfl, rfl, rfl, by decide +kernel, rfl, by decide +kernel, by decide +kernel⟩
theorem bn_law : BndOk "law" s_law ["script"] := fun _ _ _ _ _ _ us hl => match us, hl with | [_], _ => rfl
/-- what the top has left of built-ins and constants -/
structure Tx (K : PySem.W.Frag) (mg : Str → Option Value) : Prop where
  f_abs : mg "abs" = none
  f_all : mg "all" = none
  f_bool : mg "bool" = none
  f_enumerate : mg "enumerate" = none
  f_int : mg "int" = none
  f_isinstance : mg "isinstance" = none
  f_len : mg "len" = none
  f_list : mg "list" = none
  f_min : mg "min" = none
  f_ord : mg "ord" = none
  f_range : mg "range" = none
  f_sorted : mg "sorted" = none
  f_str : mg "str" = none
  f_tuple : mg "tuple" = none
  g_MOST_NUMBER : ∃ t, mg "MOST_NUMBER" = some (.int 1000000000000 t)
  g_MOST_SIGNS : ∃ t, mg "MOST_SIGNS" = some (.int 200 t)
def c_MOST_NUMBER : PyData := .int 1000000000000
theorem Tx.e_MOST_NUMBER [TabP] {X : Cx} {pos : Pos} (T : Tx X.K X.mg) (hg : Gl X "MOST_NUMBER") : PE X (.Name "MOST_NUMBER" pos) (lft X.K (tK c_MOST_NUMBER)) := let ⟨_, e⟩ := T.g_MOST_NUMBER; de_glob hg e (show L2.RelV (.int 1000000000000) _ from ⟨_, rfl⟩) fun _ => .int _
def c_MOST_SIGNS : PyData := .int 200
theorem Tx.e_MOST_SIGNS [TabP] {X : Cx} {pos : Pos} (T : Tx X.K X.mg) (hg : Gl X "MOST_SIGNS") : PE X (.Name "MOST_SIGNS" pos) (lft X.K (tK c_MOST_SIGNS)) := let ⟨_, e⟩ := T.g_MOST_SIGNS; de_glob hg e (show L2.RelV (.int 200) _ from ⟨_, rfl⟩) fun _ => .int _
section
variable [TabP] {P : Program} {w : World} {K : PySem.W.Frag} {mg : Str → Option Value} {base : Heap} {f : Addr} {cdv : Value} {A : Around} {outer : List Env} {s : Shared} {H : Hp} {E : XK} {k : Nat}
/-- signs between two numbers -/
def pb_32_127 (c : Nat) : Bool := decide ((32 : Int) ≤ (c : Int)) && decide ((c : Int) < (127 : Int))
def b_is_text : DS :=
    (sRet (tAndV (tIsi .str (tName 0)) (tAndV (tBin (fOrdr .le) (tCB' fLen (tC' (tName 0) tN)) (tK c_MOST_SIGNS)) (tAllD pb_32_127 (tName 0)))))
theorem d_is_text (T : Tx K mg) (hr : Room k (A.deeper (envOfC "is_text" (defScope s_is_text) s.heap.objs.size f cdv))) {c0 P0 : Addr} (hT : GxR.TabB base mg c0 P0) (hP : P0 ∈ TabP.ps) (hPl : ∀ q, (P0, q) ∉ TabP.ls) (hcd : cdv = .ref c0) : PSs (cxOf CX0 P w K mg base ["value", "sign"] "is_text" (defScope s_is_text) f cdv A outer s H E).nox (defBody s_is_text) (lfs K (b_is_text)) :=
    (ds_one (ds_ret (de_and (de_isi .str (by rfl) T.f_isinstance (de_var (pv 0)) (pe_tyN .str (by rfl) T.f_str (by decide +kernel))) (de_and (de_ord' .le hr.units (de_len (by rfl) T.f_len (de_var (pv 0))) (T.e_MOST_SIGNS (by rfl))) (de_one (de_sgall hr (by rfl) T.f_all hT hP hPl hcd ⟨rfl, rfl, by decide +kernel, rfl, rfl, noFree (by decide +kernel)⟩ (de_var (pv 0)) (sg_range rfl rfl rfl T.f_ord)))))))
def b_kind_of_1 (m_is_text : PM) : DS :=
    (sIf (tVal (tIsi .bool (tName 0))) (sRet (tK (.str "truth"))) sNext)
def b_kind_of_2 (m_is_text : PM) : DS :=
    (sIf (tVal (tIsi .int (tName 0))) (sRet (tIfE (tVal (tChn .le .le (tNeg (tK c_MOST_NUMBER)) (tName 0) (tK c_MOST_NUMBER))) (tK (.str "number")) (tK .none))) sNext)
def b_kind_of_3 (m_is_text : PM) : DS :=
    (sRet (tIfE (tTru (tCallP m_is_text (tC' (tFrz (tName 0)) tN))) (tK (.str "text")) (tK .none)))
def b_kind_of_t3 (m_is_text : PM) : DS := b_kind_of_3 m_is_text
def b_kind_of_t2 (m_is_text : PM) : DS := sSeq (b_kind_of_2 m_is_text) (b_kind_of_t3 m_is_text)
def b_kind_of (m_is_text : PM) : DS := sSeq (b_kind_of_1 m_is_text) (b_kind_of_t2 m_is_text)
theorem d_kind_of {m_is_text : PM} (T : Tx K mg) (hr : Room k (A.deeper (envOfC "kind_of" (defScope s_kind_of) s.heap.objs.size f cdv))) (k_is_text : Kd P w K mg base k "is_text" ["value"] (spP K m_is_text)) : PSs (cxOf CX0 P w K mg base ["value"] "kind_of" (defScope s_kind_of) f cdv A outer s H E).nox (defBody s_kind_of) (lfs K (b_kind_of m_is_text)) :=
    (ds_cons (ds_if (dt_val (de_isi .bool (by rfl) T.f_isinstance (de_var (pv 0)) (pe_tyN .bool (by rfl) T.f_bool (by decide +kernel)))) (ds_one (ds_ret de_str)) ds_nil)
    (ds_cons (ds_if (dt_val (de_isi .int (by rfl) T.f_isinstance (de_var (pv 0)) (pe_tyN .int (by rfl) T.f_int (by decide +kernel)))) (ds_one (ds_ret (de_if (dt_chain .le .le hr.units (de_neg (T.e_MOST_NUMBER (by rfl))) (de_var (pv 0)) (T.e_MOST_NUMBER (by rfl)) (by with_unfolding_all rfl)) de_str de_none))) ds_nil)
    (ds_one (ds_ret (de_if (dt_truth (de_k k_is_text hr (by rfl) (da_cons (de_frz (de_var (pv 0))) da_nil))) de_str de_none)))))
def b_key_of_1 (m_kind_of : PM) : DS :=
    (sAsg (tCallP m_kind_of (tC' (tFrz (tName 0)) tN)) (gNm 1))
def b_key_of_2 (m_kind_of : PM) : DS :=
    (sIf (tCmp2 fEq (tName 1) (tK (.str "truth"))) (sRet (tTup' (tC' (tK (.int 0)) (tC' (tCB' fInt (tC' (tName 0) tN)) (tC' (tK (.str "")) tN))))) sNext)
def b_key_of_3 (m_kind_of : PM) : DS :=
    (sRet (tIfE (tCmp2 fEq (tName 1) (tK (.str "number"))) (tTup' (tC' (tK (.int 1)) (tC' (tFrz (tName 0)) (tC' (tK (.str "")) tN)))) (tTup' (tC' (tK (.int 2)) (tC' (tK (.int 0)) (tC' (tFrz (tName 0)) tN))))))
def b_key_of_t3 (m_kind_of : PM) : DS := b_key_of_3 m_kind_of
def b_key_of_t2 (m_kind_of : PM) : DS := sSeq (b_key_of_2 m_kind_of) (b_key_of_t3 m_kind_of)
def b_key_of (m_kind_of : PM) : DS := sSeq (b_key_of_1 m_kind_of) (b_key_of_t2 m_kind_of)
theorem d_key_of {m_kind_of : PM} (T : Tx K mg) (hr : Room k (A.deeper (envOfC "key_of" (defScope s_key_of) s.heap.objs.size f cdv))) (k_kind_of : Kd P w K mg base k "kind_of" ["value"] (spP K m_kind_of)) : PSs (cxOf CX0 P w K mg base ["value", "kind"] "key_of" (defScope s_key_of) f cdv A outer s H E).nox (defBody s_key_of) (lfs K (b_key_of m_kind_of)) :=
    (ds_cons (ds_set (i := 1) sc_key_of.nd rfl (.inl rfl) (de_k k_kind_of hr (by rfl) (da_cons (de_frz (de_var (pv 0))) da_nil)))
    (ds_cons (ds_if (dt_eq hr.units (de_var (pv 1)) de_str) (ds_one (ds_ret (de_tup (da_cons de_int (da_cons (de_int1 (by rfl) T.f_int (de_var (pv 0))) (da_cons de_str da_nil)))))) ds_nil)
    (ds_one (ds_ret (de_if (dt_eq hr.units (de_var (pv 1)) de_str) (de_tup (da_cons de_int (da_cons (de_frz (de_var (pv 0))) (da_cons de_str da_nil)))) (de_tup (da_cons de_int (da_cons de_int (da_cons (de_frz (de_var (pv 0))) da_nil)))))))))
def C_row_key_1 (m_key_of : PM) : DT :=
    (tCallP m_key_of (tC' (tFrz (tName 1)) tN))
def b_row_key (m_key_of : PM) : DS :=
    (sRet (tCB' fTuple (tC' (tLcD (wSeq (tFrz (tName 0))) (.nm 1) tYesD (C_row_key_1 m_key_of) [1]) tN)))
theorem d_row_key {m_key_of : PM} (T : Tx K mg) (hr : Room k (A.deeper (envOfC "row_key" (defScope s_row_key) s.heap.objs.size f cdv))) (k_key_of : Kd P w K mg base k "key_of" ["value"] (spP K m_key_of)) : PSs (cxOf CX0 P w K mg base ["row", "value"] "row_key" (defScope s_row_key) f cdv A outer s H E).nox (defBody s_row_key) (lfs K (b_row_key m_key_of)) :=
    (ds_one (ds_ret (de_tuple (by rfl) T.f_tuple (by exact de_lc rfl sc_row_key.nd (by exact (di_seq (de_frz (de_var (pv 0))))) (blkOk_by (own := [("value", 1)]) (by first | decide +kernel | rfl)) (fun _ _ _ _ _ => by exact (pgN (pg_name (i := 1) sc_row_key.nd rfl (.inl rfl)))) (fun _ _ _ _ _ => by exact dts_nil) (fun _ _ _ _ _ => by exact (de_k k_key_of hr (by rfl) (da_cons (de_frz (de_var (pv 1))) da_nil))) (by simp [Tg.sl, Tg.sls])))))
def b_in_order (m_row_key : PM) : DS :=
    (sRet (tCB' fTuple (tC' (tSrtL (tName 0) (tCallP m_row_key (tC' (tFrz (tName 0)) tN)) 0) tN)))
theorem d_in_order {m_row_key : PM} (T : Tx K mg) (hr3 : Room (k + 3) (A.deeper (envOfC "in_order" (defScope s_in_order) s.heap.objs.size f cdv))) {c0 P0 : Addr} (hT : GxR.TabB base mg c0 P0) (hP : P0 ∈ TabP.ps) (hPl : (P0, lamQ "in_order") ∈ TabP.ls) (hu : ∀ q, (P0, q) ∈ TabP.ls → q = lamQ "in_order") (hcd : cdv = .ref c0) (k_row_key : Kd P w K mg base k "row_key" ["row"] (spP K m_row_key)) : PSs (cxOf CX0 P w K mg base ["rows"] "in_order" (defScope s_in_order) f cdv A outer s H E).nox (defBody s_in_order) (lfs K (b_in_order m_row_key)) :=
    by
    have hr := hr3.mono (j := k) (by omega)
    exact (ds_one (ds_ret (de_tuple (by rfl) T.f_tuple (de_sortedL hr3 (by rfl) T.f_sorted hT hP hPl hu hcd (de_var (pv 0)) (x := "row") (N := ["row"]) ⟨rfl, rfl, rfl, by decide +kernel, rfl, by decide +kernel, by decide +kernel⟩ (by decide) (fun _ _ _ _ => rfl) (fun _ _ _ _ _ _ _ hr => (de_k k_row_key hr (by rfl) (da_cons (de_frz (de_var (pv 0))) da_nil))) (by decide +kernel)))))
def L_place_of_1 : DS :=
    (sIf (tCmp2 fEq (tName 3) (tName 1)) (sRet (tFrz (tName 2))) sNext)
def b_place_of_1 : DS :=
    (sFor (wEnum (tFrz (tName 0))) (.tup [(.nm 2), (.tup [(.nm 3), (.nm 4)])]) (L_place_of_1))
def b_place_of_2 : DS :=
    sNever
def b_place_of_t2 : DS := b_place_of_2
def b_place_of : DS := sSeq (b_place_of_1) (b_place_of_t2)
theorem d_place_of (T : Tx K mg) (hr : Room k (A.deeper (envOfC "place_of" (defScope s_place_of) s.heap.objs.size f cdv))) : PSs (cxOf CX0 P w K mg base ["schema", "name", "place", "one", "_"] "place_of" (defScope s_place_of) f cdv A outer s H E).nox (defBody s_place_of) (lfs K (b_place_of)) :=
    (ds_cons (ds_for PassesOwn.never rfl (di_enum (by rfl) T.f_enumerate (de_frz (de_var (pv 0)))) (pgT rfl (pgsC (pgN (pg_name (i := 2) sc_place_of.nd rfl (.inl rfl))) (pgsC (pgT rfl (pgsC (pgN (pg_name (i := 3) sc_place_of.nd rfl (.inl rfl))) (pgsC (pgN (pg_name (i := 4) sc_place_of.nd rfl (.inl rfl))) pgsN))) pgsN))) (ds_one (ds_if (dt_eq hr.units (de_var (pv 3)) (de_var (pv 1))) (ds_one (ds_ret (de_frz (de_var (pv 2))))) ds_nil)))
    (ds_one ds_never))
def b_worth_at (m_place_of : PM) : DS :=
    (sRet (tBin fIx (tName 1) (tCallP m_place_of (tC' (tFrz (tName 0)) (tC' (tFrz (tName 2)) tN)))))
theorem d_worth_at {m_place_of : PM} (T : Tx K mg) (hr : Room k (A.deeper (envOfC "worth_at" (defScope s_worth_at) s.heap.objs.size f cdv))) (k_place_of : Kd P w K mg base k "place_of" ["schema", "name"] (spP K m_place_of)) : PSs (cxOf CX0 P w K mg base ["schema", "row", "name"] "worth_at" (defScope s_worth_at) f cdv A outer s H E).nox (defBody s_worth_at) (lfs K (b_worth_at m_place_of)) :=
    (ds_one (ds_ret (de_item (fun _ _ => rfl) (de_var (pv 1)) (de_k k_place_of hr (by rfl) (da_cons (de_frz (de_var (pv 0))) (da_cons (de_frz (de_var (pv 2))) da_nil))))))
def C_part_of_1 (m_worth_at : PM) : DT :=
    (tCallP m_worth_at (tC' (tFrz (tName 0)) (tC' (tFrz (tName 1)) (tC' (tFrz (tName 3)) tN))))
def b_part_of (m_worth_at : PM) : DS :=
    (sRet (tCB' fTuple (tC' (tLcD (wSeq (tFrz (tName 2))) (.nm 3) tYesD (C_part_of_1 m_worth_at) [3]) tN)))
theorem d_part_of {m_worth_at : PM} (T : Tx K mg) (hr : Room k (A.deeper (envOfC "part_of" (defScope s_part_of) s.heap.objs.size f cdv))) (k_worth_at : Kd P w K mg base k "worth_at" ["schema", "row", "name"] (spP K m_worth_at)) : PSs (cxOf CX0 P w K mg base ["schema", "row", "names", "name"] "part_of" (defScope s_part_of) f cdv A outer s H E).nox (defBody s_part_of) (lfs K (b_part_of m_worth_at)) :=
    (ds_one (ds_ret (de_tuple (by rfl) T.f_tuple (by exact de_lc rfl sc_part_of.nd (by exact (di_seq (de_frz (de_var (pv 2))))) (blkOk_by (own := [("name", 3)]) (by first | decide +kernel | rfl)) (fun _ _ _ _ _ => by exact (pgN (pg_name (i := 3) sc_part_of.nd rfl (.inl rfl)))) (fun _ _ _ _ _ => by exact dts_nil) (fun _ _ _ _ _ => by exact (de_k k_worth_at hr (by rfl) (da_cons (de_frz (de_var (pv 0))) (da_cons (de_frz (de_var (pv 1))) (da_cons (de_frz (de_var (pv 3))) da_nil))))) (by simp [Tg.sl, Tg.sls])))))
def L_index_of_1 (m_place_of : PM) (m_in_order : PM) (m_part_of : PM) : DS :=
    (sDrop (tCallP m_place_of (tC' (tFrz (tName 2)) (tC' (tFrz (tName 5)) tN))))
def C_index_of_2 (m_place_of : PM) (m_in_order : PM) (m_part_of : PM) : DT :=
    (tFrz (tBin fAdd (tCallP m_part_of (tC' (tFrz (tName 2)) (tC' (tFrz (tName 6)) (tC' (tFrz (tName 1)) tN)))) (tName 6)))
def b_index_of_1 (m_place_of : PM) (m_in_order : PM) (m_part_of : PM) : DS :=
    (sAsgT (tFrz (tName 0)) (.tup [(.nm 2), (.nm 3), (.nm 4)]))
def b_index_of_2 (m_place_of : PM) (m_in_order : PM) (m_part_of : PM) : DS :=
    (sFor (wSeq (tFrz (tName 1))) (.nm 5) (L_index_of_1 m_place_of m_in_order m_part_of))
def b_index_of_3 (m_place_of : PM) (m_in_order : PM) (m_part_of : PM) : DS :=
    (sRet (tCallP m_in_order (tC' (tFrz (tLcD (wSeq (tFrz (tName 4))) (.nm 6) tYesD (C_index_of_2 m_place_of m_in_order m_part_of) [6])) tN)))
def b_index_of_t3 (m_place_of : PM) (m_in_order : PM) (m_part_of : PM) : DS := b_index_of_3 m_place_of m_in_order m_part_of
def b_index_of_t2 (m_place_of : PM) (m_in_order : PM) (m_part_of : PM) : DS := sSeq (b_index_of_2 m_place_of m_in_order m_part_of) (b_index_of_t3 m_place_of m_in_order m_part_of)
def b_index_of (m_place_of : PM) (m_in_order : PM) (m_part_of : PM) : DS := sSeq (b_index_of_1 m_place_of m_in_order m_part_of) (b_index_of_t2 m_place_of m_in_order m_part_of)
theorem d_index_of {m_place_of : PM} {m_in_order : PM} {m_part_of : PM} (T : Tx K mg) (hr : Room k (A.deeper (envOfC "index_of" (defScope s_index_of) s.heap.objs.size f cdv))) (k_place_of : Kd P w K mg base k "place_of" ["schema", "name"] (spP K m_place_of)) (k_in_order : Kd P w K mg base k "in_order" ["rows"] (spP K m_in_order)) (k_part_of : Kd P w K mg base k "part_of" ["schema", "row", "names"] (spP K m_part_of)) : PSs (cxOf CX0 P w K mg base ["table", "names", "schema", "_", "rows", "name", "row"] "index_of" (defScope s_index_of) f cdv A outer s H E).nox (defBody s_index_of) (lfs K (b_index_of m_place_of m_in_order m_part_of)) :=
    (ds_cons (ds_asgT (de_frz (de_var (pv 0))) (pgT rfl (pgsC (pgN (pg_name (i := 2) sc_index_of.nd rfl (.inr rfl))) (pgsC (pgN (pg_name (i := 3) sc_index_of.nd rfl (.inl rfl))) (pgsC (pgN (pg_name (i := 4) sc_index_of.nd rfl (.inl rfl))) pgsN)))))
    (ds_cons (ds_for PassesOwn.never rfl (di_seq (de_frz (de_var (pv 1)))) (pgN (pg_name (i := 5) sc_index_of.nd rfl (.inl rfl))) (ds_one (ds_expr (de_k k_place_of hr (by rfl) (da_cons (de_frz (de_var (pv 2))) (da_cons (de_frz (de_var (pv 5))) da_nil))))))
    (ds_one (ds_ret (de_k k_in_order hr (by rfl) (da_cons (de_frz (by exact de_lc rfl sc_index_of.nd (by exact (di_seq (de_frz (de_var (pv 4))))) (blkOk_by (own := [("row", 6)]) (by first | decide +kernel | rfl)) (fun _ _ _ _ _ => by exact (pgN (pg_name (i := 6) sc_index_of.nd rfl (.inl rfl)))) (fun _ _ _ _ _ => by exact dts_nil) (fun _ _ _ _ _ => by exact (de_frz (de_add (de_k k_part_of hr (by rfl) (da_cons (de_frz (de_var (pv 2))) (da_cons (de_frz (de_var (pv 6))) (da_cons (de_frz (de_var (pv 1))) da_nil)))) (de_var (pv 6))))) (by simp [Tg.sl, Tg.sls]))) da_nil))))))
def L_first_place_1 (m_row_key : PM) : DS :=
    (sSeq (sAsg (tBin (fI CDivW fun i j => .int (i / j)) (tBin fAdd (tName 3) (tName 4)) (tK (.int 2))) (gNm 7))
    (sSeq (sAug 5 (tK (.int 1)) ipAdd)
    (sIf (tCmp2 (fOrdr .lt) (tCallP m_row_key (tC' (tFrz (tSl' (tBin fIx (tName 0) (tName 7)) tPno (tPsome (tCB' fLen (tC' (tName 6) tN))))) tN)) (tName 6)) (sAsg (tBin fAdd (tName 7) (tK (.int 1))) (gNm 3)) (sAsg (tFrz (tName 7)) (gNm 4)))))
def b_first_place_1 (m_row_key : PM) : DS :=
    (sPar3 3 4 5 (tC' (tK (.int 0)) (tC' (tCB' fLen (tC' (tName 0) tN)) (tC' (tK (.int 0)) tN))))
def b_first_place_2 (m_row_key : PM) : DS :=
    (sAsg (tCallP m_row_key (tC' (tFrz (tSl' (tName 2) tPno (tPsome (tName 1)))) tN)) (gNm 6))
def b_first_place_3 (m_row_key : PM) : DS :=
    (sWhile (tCmp2 (fOrdr .lt) (tName 3) (tName 4)) (L_first_place_1 m_row_key))
def b_first_place_4 (m_row_key : PM) : DS :=
    (sRet (tTup' (tC' (tFrz (tName 3)) (tC' (tFrz (tName 5)) tN))))
def b_first_place_t4 (m_row_key : PM) : DS := b_first_place_4 m_row_key
def b_first_place_t3 (m_row_key : PM) : DS := sSeq (b_first_place_3 m_row_key) (b_first_place_t4 m_row_key)
def b_first_place_t2 (m_row_key : PM) : DS := sSeq (b_first_place_2 m_row_key) (b_first_place_t3 m_row_key)
def b_first_place (m_row_key : PM) : DS := sSeq (b_first_place_1 m_row_key) (b_first_place_t2 m_row_key)
theorem d_first_place {m_row_key : PM} (T : Tx K mg) (hr : Room k (A.deeper (envOfC "first_place" (defScope s_first_place) s.heap.objs.size f cdv))) (k_row_key : Kd P w K mg base k "row_key" ["row"] (spP K m_row_key)) : PSs (cxOf CX0 P w K mg base ["index", "many", "worths", "low", "high", "looked", "goal", "middle"] "first_place" (defScope s_first_place) f cdv A outer s H E).nox (defBody s_first_place) (lfs K (b_first_place m_row_key)) :=
    (ds_cons (ds_par3 (i := 3) (j := 4) (l := 5) rfl sc_first_place.nd rfl rfl rfl (by decide) (by decide) (by decide) rfl rfl rfl (da_cons de_int (da_cons (de_len (by rfl) T.f_len (de_var (pv 0))) (da_cons de_int da_nil))) (by rfl))
    (ds_cons (ds_set (i := 6) sc_first_place.nd rfl (.inl rfl) (de_k k_row_key hr (by rfl) (da_cons (de_frz (de_slice (de_var (pv 2)) do_none (do_some (de_var (pv 1))))) da_nil)))
    (ds_cons (ds_while PassesOwn.never (dt_ord .lt hr.units (de_var (pv 3)) (de_var (pv 4))) (ds_cons (ds_set (i := 7) sc_first_place.nd rfl (.inl rfl) (de_fdiv (de_add (de_var (pv 3)) (de_var (pv 4))) de_int))
    (ds_cons (ds_aug (i := 5) sc_first_place.nd rfl (.inl rfl) de_int ip_add sIpAdd)
    (ds_one (ds_if (dt_ord .lt hr.units (de_k k_row_key hr (by rfl) (da_cons (de_frz (de_slice (de_item (fun _ _ => rfl) (de_var (pv 0)) (de_var (pv 7))) do_none (do_some (de_len (by rfl) T.f_len (de_var (pv 6)))))) da_nil)) (de_var (pv 6))) (ds_one (ds_set (i := 3) sc_first_place.nd rfl (.inl rfl) (de_add (de_var (pv 7)) de_int))) (ds_one (ds_set (i := 4) sc_first_place.nd rfl (.inl rfl) (de_frz (de_var (pv 7))))))))))
    (ds_one (ds_ret (de_tup (da_cons (de_frz (de_var (pv 3))) (da_cons (de_frz (de_var (pv 5))) da_nil))))))))
def L_behind_place_1 (m_row_key : PM) : DS :=
    (sSeq (sAsg (tBin (fI CDivW fun i j => .int (i / j)) (tBin fAdd (tName 3) (tName 4)) (tK (.int 2))) (gNm 6))
    (sIf (tCmp2 (fOrdr .le) (tCallP m_row_key (tC' (tFrz (tSl' (tBin fIx (tName 0) (tName 6)) tPno (tPsome (tCB' fLen (tC' (tName 5) tN))))) tN)) (tName 5)) (sAsg (tBin fAdd (tName 6) (tK (.int 1))) (gNm 3)) (sAsg (tFrz (tName 6)) (gNm 4))))
def b_behind_place_1 (m_row_key : PM) : DS :=
    (sPar 3 4 (tC' (tK (.int 0)) (tC' (tCB' fLen (tC' (tName 0) tN)) tN)))
def b_behind_place_2 (m_row_key : PM) : DS :=
    (sAsg (tCallP m_row_key (tC' (tFrz (tSl' (tName 2) tPno (tPsome (tName 1)))) tN)) (gNm 5))
def b_behind_place_3 (m_row_key : PM) : DS :=
    (sWhile (tCmp2 (fOrdr .lt) (tName 3) (tName 4)) (L_behind_place_1 m_row_key))
def b_behind_place_4 (m_row_key : PM) : DS :=
    (sRet (tFrz (tName 3)))
def b_behind_place_t4 (m_row_key : PM) : DS := b_behind_place_4 m_row_key
def b_behind_place_t3 (m_row_key : PM) : DS := sSeq (b_behind_place_3 m_row_key) (b_behind_place_t4 m_row_key)
def b_behind_place_t2 (m_row_key : PM) : DS := sSeq (b_behind_place_2 m_row_key) (b_behind_place_t3 m_row_key)
def b_behind_place (m_row_key : PM) : DS := sSeq (b_behind_place_1 m_row_key) (b_behind_place_t2 m_row_key)
theorem d_behind_place {m_row_key : PM} (T : Tx K mg) (hr : Room k (A.deeper (envOfC "behind_place" (defScope s_behind_place) s.heap.objs.size f cdv))) (k_row_key : Kd P w K mg base k "row_key" ["row"] (spP K m_row_key)) : PSs (cxOf CX0 P w K mg base ["index", "many", "worths", "low", "high", "goal", "middle"] "behind_place" (defScope s_behind_place) f cdv A outer s H E).nox (defBody s_behind_place) (lfs K (b_behind_place m_row_key)) :=
    (ds_cons (ds_par (i := 3) (j := 4) rfl sc_behind_place.nd rfl rfl (by decide) rfl rfl (da_cons de_int (da_cons (de_len (by rfl) T.f_len (de_var (pv 0))) da_nil)) (by rfl))
    (ds_cons (ds_set (i := 5) sc_behind_place.nd rfl (.inl rfl) (de_k k_row_key hr (by rfl) (da_cons (de_frz (de_slice (de_var (pv 2)) do_none (do_some (de_var (pv 1))))) da_nil)))
    (ds_cons (ds_while PassesOwn.never (dt_ord .lt hr.units (de_var (pv 3)) (de_var (pv 4))) (ds_cons (ds_set (i := 6) sc_behind_place.nd rfl (.inl rfl) (de_fdiv (de_add (de_var (pv 3)) (de_var (pv 4))) de_int))
    (ds_one (ds_if (dt_ord .le hr.units (de_k k_row_key hr (by rfl) (da_cons (de_frz (de_slice (de_item (fun _ _ => rfl) (de_var (pv 0)) (de_var (pv 6))) do_none (do_some (de_len (by rfl) T.f_len (de_var (pv 5)))))) da_nil)) (de_var (pv 5))) (ds_one (ds_set (i := 3) sc_behind_place.nd rfl (.inl rfl) (de_add (de_var (pv 6)) de_int))) (ds_one (ds_set (i := 4) sc_behind_place.nd rfl (.inl rfl) (de_frz (de_var (pv 6)))))))))
    (ds_one (ds_ret (de_frz (de_var (pv 3))))))))
def C_rows_from_1 (m_first_place : PM) (m_behind_place : PM) : DT :=
    (tFrz (tSl' (tName 6) (tPsome (tName 1)) tPno))
def b_rows_from_1 (m_first_place : PM) (m_behind_place : PM) : DS :=
    (sAsg (tIfE (tCmp2 fIsN (tName 2) (tK .none)) (tK (.int 0)) (tBin fIx (tCallP m_first_place (tC' (tFrz (tName 0)) (tC' (tFrz (tName 1)) (tC' (tFrz (tName 2)) tN)))) (tK (.int 0)))) (gNm 4))
def b_rows_from_2 (m_first_place : PM) (m_behind_place : PM) : DS :=
    (sAsg (tIfE (tCmp2 fIsN (tName 3) (tK .none)) (tCB' fLen (tC' (tName 0) tN)) (tCallP m_behind_place (tC' (tFrz (tName 0)) (tC' (tFrz (tName 1)) (tC' (tFrz (tName 3)) tN))))) (gNm 5))
def b_rows_from_3 (m_first_place : PM) (m_behind_place : PM) : DS :=
    (sRet (tCB' fTuple (tC' (tLcD (wSeq (tFrz (tSl' (tName 0) (tPsome (tName 4)) (tPsome (tName 5))))) (.nm 6) tYesD (C_rows_from_1 m_first_place m_behind_place) [6]) tN)))
def b_rows_from_t3 (m_first_place : PM) (m_behind_place : PM) : DS := b_rows_from_3 m_first_place m_behind_place
def b_rows_from_t2 (m_first_place : PM) (m_behind_place : PM) : DS := sSeq (b_rows_from_2 m_first_place m_behind_place) (b_rows_from_t3 m_first_place m_behind_place)
def b_rows_from (m_first_place : PM) (m_behind_place : PM) : DS := sSeq (b_rows_from_1 m_first_place m_behind_place) (b_rows_from_t2 m_first_place m_behind_place)
theorem d_rows_from {m_first_place : PM} {m_behind_place : PM} (T : Tx K mg) (hr : Room k (A.deeper (envOfC "rows_from" (defScope s_rows_from) s.heap.objs.size f cdv))) (k_first_place : Kd P w K mg base k "first_place" ["index", "many", "worths"] (spP K m_first_place)) (k_behind_place : Kd P w K mg base k "behind_place" ["index", "many", "worths"] (spP K m_behind_place)) : PSs (cxOf CX0 P w K mg base ["index", "many", "low", "high", "first", "last", "entry"] "rows_from" (defScope s_rows_from) f cdv A outer s H E).nox (defBody s_rows_from) (lfs K (b_rows_from m_first_place m_behind_place)) :=
    (ds_cons (ds_set (i := 4) sc_rows_from.nd rfl (.inl rfl) (de_if (dt_isN (de_var (pv 2)) de_none) de_int (de_item (fun _ _ => rfl) (de_k k_first_place hr (by rfl) (da_cons (de_frz (de_var (pv 0))) (da_cons (de_frz (de_var (pv 1))) (da_cons (de_frz (de_var (pv 2))) da_nil)))) de_int)))
    (ds_cons (ds_set (i := 5) sc_rows_from.nd rfl (.inl rfl) (de_if (dt_isN (de_var (pv 3)) de_none) (de_len (by rfl) T.f_len (de_var (pv 0))) (de_k k_behind_place hr (by rfl) (da_cons (de_frz (de_var (pv 0))) (da_cons (de_frz (de_var (pv 1))) (da_cons (de_frz (de_var (pv 3))) da_nil))))))
    (ds_one (ds_ret (de_tuple (by rfl) T.f_tuple (by exact de_lc rfl sc_rows_from.nd (by exact (di_seq (de_frz (de_slice (de_var (pv 0)) (do_some (de_var (pv 4))) (do_some (de_var (pv 5))))))) (blkOk_by (own := [("entry", 6)]) (by first | decide +kernel | rfl)) (fun _ _ _ _ _ => by exact (pgN (pg_name (i := 6) sc_rows_from.nd rfl (.inl rfl)))) (fun _ _ _ _ _ => by exact dts_nil) (fun _ _ _ _ _ => by exact (de_frz (de_slice (de_var (pv 6)) (do_some (de_var (pv 1))) do_none))) (by simp [Tg.sl, Tg.sls])))))))
def b_rows_same (m_rows_from : PM) : DS :=
    (sRet (tCallP m_rows_from (tC' (tFrz (tName 0)) (tC' (tFrz (tName 1)) (tC' (tFrz (tName 2)) (tC' (tFrz (tName 2)) tN))))))
theorem d_rows_same {m_rows_from : PM} (T : Tx K mg) (hr : Room k (A.deeper (envOfC "rows_same" (defScope s_rows_same) s.heap.objs.size f cdv))) (k_rows_from : Kd P w K mg base k "rows_from" ["index", "many", "low", "high"] (spP K m_rows_from)) : PSs (cxOf CX0 P w K mg base ["index", "many", "worths"] "rows_same" (defScope s_rows_same) f cdv A outer s H E).nox (defBody s_rows_same) (lfs K (b_rows_same m_rows_from)) :=
    (ds_one (ds_ret (de_k k_rows_from hr (by rfl) (da_cons (de_frz (de_var (pv 0))) (da_cons (de_frz (de_var (pv 1))) (da_cons (de_frz (de_var (pv 2))) (da_cons (de_frz (de_var (pv 2))) da_nil)))))))
def b__law_next_1 : DS :=
    (sIf (tAndT (tCmp2 fEq (tBin fIx (tName 0) (tK (.int 2))) (tK (.int 0))) (tCmp2 (fOrdr .lt) (tBin fIx (tName 0) (tK (.int 1))) (tCB' fLen (tC' (tBin fIx (tName 0) (tK (.int 0))) tN)))) (sSeq (sAsg (tCB' fAbs (tC' (tCB' fInt (tC' (tBin fIx (tBin fIx (tName 0) (tK (.int 0))) (tBin fIx (tName 0) (tK (.int 1)))) tN)) tN)) (gNm 2))
    (sSeq (sAugI 0 (tK (.int 1)) (tK (.int 1)) ipAdd)
    (sIf (tCmp2 (fOrdr .ge) (tName 2) (tBin (fI CPow fun i j => .int (i ^ j.toNat)) (tK (.int 10)) (tK (.int 18)))) (sAsg (tFrz (tName 2)) (gSb 0 (tK (.int 2)))) (sAsg (tBin (fI (fun _ j => 0 < j) fun i j => .int (i % j)) (tCB' fInt (tC' (tBin fAdd (tBin fAdd (tBin (fI CMulW fun i j => .int (i * j)) (tBin fIx (tName 0) (tK (.int 3))) (tK (.int 48271))) (tBin (fI (fun _ j => 0 < j) fun i j => .int (i % j)) (tCB' fInt (tC' (tName 2) tN)) (tK (.int 2147483647)))) (tK (.int 7))) tN)) (tK (.int 2147483647))) (gSb 0 (tK (.int 3))))))) sNext)
def b__law_next_2 : DS :=
    (sIf (tCmp2 (fOrdr .gt) (tBin fIx (tName 0) (tK (.int 2))) (tK (.int 0))) (sSeq (sAsg (tBin (fI (fun _ j => 0 < j) fun i j => .int (i % j)) (tCB' fInt (tC' (tBin fIx (tName 0) (tK (.int 2))) tN)) (tName 1)) (gNm 3))
    (sSeq (sAsg (tBin (fI CDivW fun i j => .int (i / j)) (tBin fIx (tName 0) (tK (.int 2))) (tName 1)) (gSb 0 (tK (.int 2))))
    (sRet (tFrz (tName 3))))) sNext)
def b__law_next_3 : DS :=
    (sAsg (tBin (fI (fun _ j => 0 < j) fun i j => .int (i % j)) (tCB' fInt (tC' (tBin fAdd (tBin (fI CMulW fun i j => .int (i * j)) (tBin fIx (tName 0) (tK (.int 3))) (tK (.int 69621))) (tK (.int 12345))) tN)) (tK (.int 2147483647))) (gSb 0 (tK (.int 3))))
def b__law_next_4 : DS :=
    (sRet (tBin (fI (fun _ j => 0 < j) fun i j => .int (i % j)) (tCB' fInt (tC' (tBin (fI CDivW fun i j => .int (i / j)) (tBin fIx (tName 0) (tK (.int 3))) (tK (.int 7))) tN)) (tName 1)))
def b__law_next_t4 : DS := b__law_next_4
def b__law_next_t3 : DS := sSeq (b__law_next_3) (b__law_next_t4)
def b__law_next_t2 : DS := sSeq (b__law_next_2) (b__law_next_t3)
def b__law_next : DS := sSeq (b__law_next_1) (b__law_next_t2)
theorem d__law_next (T : Tx K mg) (hr : Room k (A.deeper (envOfC "_law_next" (defScope s__law_next) s.heap.objs.size f cdv))) : PSs (cxOf CX0 P w K mg base ["state", "limit", "cell", "value"] "_law_next" (defScope s__law_next) f cdv A outer s H E).nox (defBody s__law_next) (lfs K (b__law_next)) :=
    (ds_cons (ds_if (dw_and (dt_eq hr.units (de_item (fun _ _ => rfl) (de_var (pv 0)) de_int) de_int) (dw_and1 (dt_ord .lt hr.units (de_item (fun _ _ => rfl) (de_var (pv 0)) de_int) (de_len (by rfl) T.f_len (de_item (fun _ _ => rfl) (de_var (pv 0)) de_int))))).pt (ds_cons (ds_set (i := 2) sc__law_next.nd rfl (.inl rfl) (de_abs (by rfl) T.f_abs (de_int1 (by rfl) T.f_int (de_item (fun _ _ => rfl) (de_item (fun _ _ => rfl) (de_var (pv 0)) de_int) (de_item (fun _ _ => rfl) (de_var (pv 0)) de_int)))))
    (ds_cons (ds_augi (pv 0) de_int de_int ip_add sIpAdd)
    (ds_one (ds_if (dt_ord .ge hr.units (de_var (pv 2)) (de_pow de_int de_int)) (ds_one (ds_asg (de_frz (de_var (pv 2))) (dg_sub (pv 0) de_int))) (ds_one (ds_asg (de_mod (de_int1 (by rfl) T.f_int (de_add (de_add (de_mul (de_item (fun _ _ => rfl) (de_var (pv 0)) de_int) de_int) (de_mod (de_int1 (by rfl) T.f_int (de_var (pv 2))) de_int)) de_int)) de_int) (dg_sub (pv 0) de_int))))))) ds_nil)
    (ds_cons (ds_if (dt_ord .gt hr.units (de_item (fun _ _ => rfl) (de_var (pv 0)) de_int) de_int) (ds_cons (ds_set (i := 3) sc__law_next.nd rfl (.inl rfl) (de_mod (de_int1 (by rfl) T.f_int (de_item (fun _ _ => rfl) (de_var (pv 0)) de_int)) (de_var (pv 1))))
    (ds_cons (ds_asg (de_fdiv (de_item (fun _ _ => rfl) (de_var (pv 0)) de_int) (de_var (pv 1))) (dg_sub (pv 0) de_int))
    (ds_one (ds_ret (de_frz (de_var (pv 3))))))) ds_nil)
    (ds_cons (ds_asg (de_mod (de_int1 (by rfl) T.f_int (de_add (de_mul (de_item (fun _ _ => rfl) (de_var (pv 0)) de_int) de_int) de_int)) de_int) (dg_sub (pv 0) de_int))
    (ds_one (ds_ret (de_mod (de_int1 (by rfl) T.f_int (de_fdiv (de_item (fun _ _ => rfl) (de_var (pv 0)) de_int) de_int)) (de_var (pv 1))))))))
def L__law_same_1 (m__law_same : PM) : DS :=
    (sIf (tNotT (tTru (tCallP m__law_same (tC' (tBin fIx (tName 0) (tName 2)) (tC' (tBin fIx (tName 1) (tName 2)) tN))))) (sRet (tK (.bool false))) sNext)
def b__law_same_1 (m__law_same : PM) : DS :=
    (sIf (tCmp2 fIsN (tName 1) (tK .none)) (sRet (tBin fIsN (tName 0) (tK .none))) sNext)
def b__law_same_2 (m__law_same : PM) : DS :=
    (sIf (tVal (tIsi .bool (tName 1))) (sRet (tAndV (tIsi .bool (tName 0)) (tBin fEq (tName 0) (tName 1)))) sNext)
def b__law_same_3 (m__law_same : PM) : DS :=
    (sIf (tVal (tIsi .int (tName 1))) (sRet (tAndV (tIsi .int (tName 0)) (tAndV (tNotV (tIsi .bool (tName 0))) (tBin fEq (tName 0) (tName 1))))) sNext)
def b__law_same_4 (m__law_same : PM) : DS :=
    (sIf (tVal (tIsi .str (tName 1))) (sRet (tAndV (tIsi .str (tName 0)) (tBin fEq (tName 0) (tName 1)))) sNext)
def b__law_same_5 (m__law_same : PM) : DS :=
    (sIf (tAndT (tVal (tIsi .tuple (tName 1))) (tNotT (tVal (tIsi .tuple (tName 0))))) (sRet (tK (.bool false))) sNext)
def b__law_same_6 (m__law_same : PM) : DS :=
    (sIf (tAndT (tVal (tIsi .list (tName 1))) (tNotT (tVal (tIsi .list (tName 0))))) (sRet (tK (.bool false))) sNext)
def b__law_same_7 (m__law_same : PM) : DS :=
    (sIf (tCmp2 fNe (tCB' fLen (tC' (tName 0) tN)) (tCB' fLen (tC' (tName 1) tN))) (sRet (tK (.bool false))) sNext)
def b__law_same_8 (m__law_same : PM) : DS :=
    (sFor (wRng (tCB' fLen (tC' (tName 1) tN))) (.nm 2) (L__law_same_1 m__law_same))
def b__law_same_9 (m__law_same : PM) : DS :=
    (sRet (tK (.bool true)))
def b__law_same_t9 (m__law_same : PM) : DS := b__law_same_9 m__law_same
def b__law_same_t8 (m__law_same : PM) : DS := sSeq (b__law_same_8 m__law_same) (b__law_same_t9 m__law_same)
def b__law_same_t7 (m__law_same : PM) : DS := sSeq (b__law_same_7 m__law_same) (b__law_same_t8 m__law_same)
def b__law_same_t6 (m__law_same : PM) : DS := sSeq (b__law_same_6 m__law_same) (b__law_same_t7 m__law_same)
def b__law_same_t5 (m__law_same : PM) : DS := sSeq (b__law_same_5 m__law_same) (b__law_same_t6 m__law_same)
def b__law_same_t4 (m__law_same : PM) : DS := sSeq (b__law_same_4 m__law_same) (b__law_same_t5 m__law_same)
def b__law_same_t3 (m__law_same : PM) : DS := sSeq (b__law_same_3 m__law_same) (b__law_same_t4 m__law_same)
def b__law_same_t2 (m__law_same : PM) : DS := sSeq (b__law_same_2 m__law_same) (b__law_same_t3 m__law_same)
def b__law_same (m__law_same : PM) : DS := sSeq (b__law_same_1 m__law_same) (b__law_same_t2 m__law_same)
theorem d__law_same {m__law_same : PM} (T : Tx K mg) (hr : Room k (A.deeper (envOfC "_law_same" (defScope s__law_same) s.heap.objs.size f cdv))) (k__law_same : Kd P w K mg base k "_law_same" ["actual", "expected"] (spP K m__law_same)) : PSs (cxOf CX0 P w K mg base ["actual", "expected", "k"] "_law_same" (defScope s__law_same) f cdv A outer s H E).nox (defBody s__law_same) (lfs K (b__law_same m__law_same)) :=
    (ds_cons (ds_if (dt_isN (de_var (pv 1)) de_none) (ds_one (ds_ret (de_isN (de_var (pv 0)) de_none))) ds_nil)
    (ds_cons (ds_if (dt_val (de_isi .bool (by rfl) T.f_isinstance (de_var (pv 1)) (pe_tyN .bool (by rfl) T.f_bool (by decide +kernel)))) (ds_one (ds_ret (de_and (de_isi .bool (by rfl) T.f_isinstance (de_var (pv 0)) (pe_tyN .bool (by rfl) T.f_bool (by decide +kernel))) (de_one (de_eq hr.units (de_var (pv 0)) (de_var (pv 1))))))) ds_nil)
    (ds_cons (ds_if (dt_val (de_isi .int (by rfl) T.f_isinstance (de_var (pv 1)) (pe_tyN .int (by rfl) T.f_int (by decide +kernel)))) (ds_one (ds_ret (de_and (de_isi .int (by rfl) T.f_isinstance (de_var (pv 0)) (pe_tyN .int (by rfl) T.f_int (by decide +kernel))) (de_and (de_not (de_isi .bool (by rfl) T.f_isinstance (de_var (pv 0)) (pe_tyN .bool (by rfl) T.f_bool (by decide +kernel)))) (de_one (de_eq hr.units (de_var (pv 0)) (de_var (pv 1)))))))) ds_nil)
    (ds_cons (ds_if (dt_val (de_isi .str (by rfl) T.f_isinstance (de_var (pv 1)) (pe_tyN .str (by rfl) T.f_str (by decide +kernel)))) (ds_one (ds_ret (de_and (de_isi .str (by rfl) T.f_isinstance (de_var (pv 0)) (pe_tyN .str (by rfl) T.f_str (by decide +kernel))) (de_one (de_eq hr.units (de_var (pv 0)) (de_var (pv 1))))))) ds_nil)
    (ds_cons (ds_if (dw_and (dt_val (de_isi .tuple (by rfl) T.f_isinstance (de_var (pv 1)) (pe_tyN .tuple (by rfl) T.f_tuple (by decide +kernel)))) (dw_and1 (dt_not (dt_val (de_isi .tuple (by rfl) T.f_isinstance (de_var (pv 0)) (pe_tyN .tuple (by rfl) T.f_tuple (by decide +kernel))))))).pt (ds_one (ds_ret de_bool)) ds_nil)
    (ds_cons (ds_if (dw_and (dt_val (de_isi .list (by rfl) T.f_isinstance (de_var (pv 1)) (pe_tyN .list (by rfl) T.f_list (by decide +kernel)))) (dw_and1 (dt_not (dt_val (de_isi .list (by rfl) T.f_isinstance (de_var (pv 0)) (pe_tyN .list (by rfl) T.f_list (by decide +kernel))))))).pt (ds_one (ds_ret de_bool)) ds_nil)
    (ds_cons (ds_if (dt_ne hr.units (de_len (by rfl) T.f_len (de_var (pv 0))) (de_len (by rfl) T.f_len (de_var (pv 1)))) (ds_one (ds_ret de_bool)) ds_nil)
    (ds_cons (ds_for PassesOwn.never rfl (di_range (by rfl) T.f_range (de_len (by rfl) T.f_len (de_var (pv 1)))) (pgN (pg_name (i := 2) sc__law_same.nd rfl (.inl rfl))) (ds_one (ds_if (dt_not (dt_truth (de_k k__law_same hr (by rfl) (da_cons (de_item (fun _ _ => rfl) (de_var (pv 0)) (de_var (pv 2))) (da_cons (de_item (fun _ _ => rfl) (de_var (pv 1)) (de_var (pv 2))) da_nil))))) (ds_one (ds_ret de_bool)) ds_nil)))
    (ds_one (ds_ret de_bool))))))))))
def L__law_key_1 : DS :=
    (sIf (tVal (tIsi .bool (tName 2))) (sDrop (tApp 1 (tTup' (tC' (tK (.int 0)) (tC' (tCB' fInt (tC' (tName 2) tN)) (tC' (tK (.str "")) tN)))))) (sIf (tVal (tIsi .int (tName 2))) (sDrop (tApp 1 (tTup' (tC' (tK (.int 1)) (tC' (tFrz (tName 2)) (tC' (tK (.str "")) tN)))))) (sDrop (tApp 1 (tTup' (tC' (tK (.int 2)) (tC' (tK (.int 0)) (tC' (tFrz (tName 2)) tN))))))))
def b__law_key_1 : DS :=
    (sAsg (tLst' tN) (gNm 1))
def b__law_key_2 : DS :=
    (sFor (wSeq (tFrz (tName 0))) (.nm 2) (L__law_key_1))
def b__law_key_3 : DS :=
    (sRet (tCB' fTuple (tC' (tName 1) tN)))
def b__law_key_t3 : DS := b__law_key_3
def b__law_key_t2 : DS := sSeq (b__law_key_2) (b__law_key_t3)
def b__law_key : DS := sSeq (b__law_key_1) (b__law_key_t2)
theorem d__law_key (T : Tx K mg) (hr : Room k (A.deeper (envOfC "_law_key" (defScope s__law_key) s.heap.objs.size f cdv))) : PSs (cxOf CX0 P w K mg base ["row", "found", "value"] "_law_key" (defScope s__law_key) f cdv A outer s H E).nox (defBody s__law_key) (lfs K (b__law_key)) :=
    (ds_cons (ds_set (i := 1) sc__law_key.nd rfl (.inl rfl) (de_lst da_nil))
    (ds_cons (ds_for PassesOwn.never rfl (di_seq (de_frz (de_var (pv 0)))) (pgN (pg_name (i := 2) sc__law_key.nd rfl (.inl rfl))) (ds_one (ds_if (dt_val (de_isi .bool (by rfl) T.f_isinstance (de_var (pv 2)) (pe_tyN .bool (by rfl) T.f_bool (by decide +kernel)))) (ds_one (ds_expr (de_app (pv 1) (de_tup (da_cons de_int (da_cons (de_int1 (by rfl) T.f_int (de_var (pv 2))) (da_cons de_str da_nil))))))) (ds_one (ds_if (dt_val (de_isi .int (by rfl) T.f_isinstance (de_var (pv 2)) (pe_tyN .int (by rfl) T.f_int (by decide +kernel)))) (ds_one (ds_expr (de_app (pv 1) (de_tup (da_cons de_int (da_cons (de_frz (de_var (pv 2))) (da_cons de_str da_nil))))))) (ds_one (ds_expr (de_app (pv 1) (de_tup (da_cons de_int (da_cons de_int (da_cons (de_frz (de_var (pv 2))) da_nil))))))))))))
    (ds_one (ds_ret (de_tuple (by rfl) T.f_tuple (de_var (pv 1)))))))
def b__law_sorted (m__law_key : PM) : DS :=
    (sRet (tCB' fTuple (tC' (tSrtL (tName 0) (tCallP m__law_key (tC' (tFrz (tName 0)) tN)) 0) tN)))
theorem d__law_sorted {m__law_key : PM} (T : Tx K mg) (hr3 : Room (k + 3) (A.deeper (envOfC "_law_sorted" (defScope s__law_sorted) s.heap.objs.size f cdv))) {c0 P0 : Addr} (hT : GxR.TabB base mg c0 P0) (hP : P0 ∈ TabP.ps) (hPl : (P0, lamQ "_law_sorted") ∈ TabP.ls) (hu : ∀ q, (P0, q) ∈ TabP.ls → q = lamQ "_law_sorted") (hcd : cdv = .ref c0) (k__law_key : Kd P w K mg base k "_law_key" ["row"] (spP K m__law_key)) : PSs (cxOf CX0 P w K mg base ["rows"] "_law_sorted" (defScope s__law_sorted) f cdv A outer s H E).nox (defBody s__law_sorted) (lfs K (b__law_sorted m__law_key)) :=
    by
    have hr := hr3.mono (j := k) (by omega)
    exact (ds_one (ds_ret (de_tuple (by rfl) T.f_tuple (de_sortedL hr3 (by rfl) T.f_sorted hT hP hPl hu hcd (de_var (pv 0)) (x := "row") (N := ["row"]) ⟨rfl, rfl, rfl, by decide +kernel, rfl, by decide +kernel, by decide +kernel⟩ (by decide) (fun _ _ _ _ => rfl) (fun _ _ _ _ _ _ _ hr => (de_k k__law_key hr (by rfl) (da_cons (de_frz (de_var (pv 0))) da_nil))) (by decide +kernel)))))
def L__law_rows_1 (m__law_next : IM) : DS :=
    (sIf (tAndT (tCmp2 fNe (tName 2) (tLst' tN)) (tCmp2 fEq (tCallI m__law_next 0 (tC' (tK (.int 4)) tN)) (tK (.int 0)))) (sDrop (tApp 2 (tBin fIx (tName 2) (tCallI m__law_next 0 (tC' (tCB' fLen (tC' (tName 2) tN)) tN))))) (sDrop (tApp 2 (tTup' (tC' (tBin (fI0 fun i j => .int (i - j)) (tCallI m__law_next 0 (tC' (tK (.int 6)) tN)) (tK (.int 2))) (tC' (tBin fIx (tLst' (tC' (tK (.str "a")) (tC' (tK (.str "b")) (tC' (tK (.str "ab")) (tC' (tK (.str "it's")) tN))))) (tCallI m__law_next 0 (tC' (tK (.int 4)) tN))) (tC' (tBin fEq (tCallI m__law_next 0 (tC' (tK (.int 2)) tN)) (tK (.int 1))) tN)))))))
def b__law_rows_1 (m__law_next : IM) : DS :=
    (sAsg (tLst' tN) (gNm 2))
def b__law_rows_2 (m__law_next : IM) : DS :=
    (sFor (wRng (tCallI m__law_next 0 (tC' (tFrz (tBin fAdd (tName 1) (tK (.int 1)))) tN))) (.nm 3) (L__law_rows_1 m__law_next))
def b__law_rows_3 (m__law_next : IM) : DS :=
    (sRet (tFrz (tName 2)))
def b__law_rows_t3 (m__law_next : IM) : DS := b__law_rows_3 m__law_next
def b__law_rows_t2 (m__law_next : IM) : DS := sSeq (b__law_rows_2 m__law_next) (b__law_rows_t3 m__law_next)
def b__law_rows (m__law_next : IM) : DS := sSeq (b__law_rows_1 m__law_next) (b__law_rows_t2 m__law_next)
theorem d__law_rows {m__law_next : IM} (T : Tx K mg) (hr : Room k (A.deeper (envOfC "_law_rows" (defScope s__law_rows) s.heap.objs.size f cdv))) (k__law_next : Kd P w K mg base k "_law_next" ["state", "limit"] (spI K m__law_next)) : PSs (cxOf CX0 P w K mg base ["state", "most", "rows", "k"] "_law_rows" (defScope s__law_rows) f cdv A outer s H E).nox (defBody s__law_rows) (lfs K (b__law_rows m__law_next)) :=
    (ds_cons (ds_set (i := 2) sc__law_rows.nd rfl (.inl rfl) (de_lst da_nil))
    (ds_cons (ds_for PassesOwn.never rfl (di_range (by rfl) T.f_range (de_ki k__law_next hr (by rfl) (pv 0) (da_cons (de_frz (de_add (de_var (pv 1)) de_int)) da_nil))) (pgN (pg_name (i := 3) sc__law_rows.nd rfl (.inl rfl))) (ds_one (ds_if (dw_and (dt_ne hr.units (de_var (pv 2)) (de_lst da_nil)) (dw_and1 (dt_eq hr.units (de_ki k__law_next hr (by rfl) (pv 0) (da_cons de_int da_nil)) de_int))).pt (ds_one (ds_expr (de_app (pv 2) (de_item (fun _ _ => rfl) (de_var (pv 2)) (de_ki k__law_next hr (by rfl) (pv 0) (da_cons (de_len (by rfl) T.f_len (de_var (pv 2))) da_nil)))))) (ds_one (ds_expr (de_app (pv 2) (de_tup (da_cons (de_sub (de_ki k__law_next hr (by rfl) (pv 0) (da_cons de_int da_nil)) de_int) (da_cons (de_item (fun _ _ => rfl) (de_lst (da_cons de_str (da_cons de_str (da_cons de_str (da_cons de_str da_nil))))) (de_ki k__law_next hr (by rfl) (pv 0) (da_cons de_int da_nil))) (da_cons (de_eq hr.units (de_ki k__law_next hr (by rfl) (pv 0) (da_cons de_int da_nil)) de_int) da_nil))))))))))
    (ds_one (ds_ret (de_frz (de_var (pv 2)))))))
def C_law_1 (m__law_next : IM) (m__law_sorted : PM) (m__law_rows : IM) (m_index_of : PM) (m__law_same : PM) (m__law_key : PM) (m_rows_from : PM) (m_first_place : PM) (m_behind_place : PM) (m_rows_same : PM) : DT :=
    (tBin fIx (tName 3) (tCallI m__law_next 1 (tC' (tK (.int 3)) tN)))
def C_law_2 (m__law_next : IM) (m__law_sorted : PM) (m__law_rows : IM) (m_index_of : PM) (m__law_same : PM) (m__law_key : PM) (m_rows_from : PM) (m_first_place : PM) (m_behind_place : PM) (m_rows_same : PM) : DT :=
    (tBin fIx (tName 10) (tIndex (tName 3) (tName 11)))
def C_law_3 (m__law_next : IM) (m__law_sorted : PM) (m__law_rows : IM) (m_index_of : PM) (m__law_same : PM) (m__law_key : PM) (m_rows_from : PM) (m_first_place : PM) (m_behind_place : PM) (m_rows_same : PM) : DT :=
    (tFrz (tBin fAdd (tCB' fTuple (tC' (tLcD (wSeq (tFrz (tName 4))) (.nm 11) tYesD (C_law_2 m__law_next m__law_sorted m__law_rows m_index_of m__law_same m__law_key m_rows_from m_first_place m_behind_place m_rows_same) [11]) tN)) (tName 10)))
def L_law_4 (m__law_next : IM) (m__law_sorted : PM) (m__law_rows : IM) (m_index_of : PM) (m__law_same : PM) (m__law_key : PM) (m_rows_from : PM) (m_first_place : PM) (m_behind_place : PM) (m_rows_same : PM) : DS :=
    (sDrop (tApp 18 (tDIx (tDct [("n", (tBin (fI0 fun i j => .int (i - j)) (tCallI m__law_next 1 (tC' (tK (.int 8)) tN)) (tK (.int 3)))), ("s", (tBin fIx (tLst' (tC' (tK (.str "")) (tC' (tK (.str "a")) (tC' (tK (.str "ab")) (tC' (tK (.str "b")) tN))))) (tCallI m__law_next 1 (tC' (tK (.int 4)) tN)))), ("c", (tBin fEq (tCallI m__law_next 1 (tC' (tK (.int 2)) tN)) (tK (.int 1))))]) (tName 11))))
def L_law_5 (m__law_next : IM) (m__law_sorted : PM) (m__law_rows : IM) (m_index_of : PM) (m__law_same : PM) (m__law_key : PM) (m_rows_from : PM) (m_first_place : PM) (m_behind_place : PM) (m_rows_same : PM) : DS :=
    (sSeq (sAsg (tBin fAdd (tK (.int 1)) (tCallI m__law_next 1 (tC' (tFrz (tName 6)) tN))) (gNm 17))
    (sSeq (sAsg (tLst' tN) (gNm 18))
    (sSeq (sFor (wSeq (tFrz (tSl' (tName 4) tPno (tPsome (tName 17))))) (.nm 11) (L_law_4 m__law_next m__law_sorted m__law_rows m_index_of m__law_same m__law_key m_rows_from m_first_place m_behind_place m_rows_same))
    (sDrop (tApp 13 (tIfE (tCmp2 fEq (tCallI m__law_next 1 (tC' (tK (.int 5)) tN)) (tK (.int 0))) (tK .none) (tCB' fTuple (tC' (tName 18) tN))))))))
def L_law_6 (m__law_next : IM) (m__law_sorted : PM) (m__law_rows : IM) (m_index_of : PM) (m__law_same : PM) (m__law_key : PM) (m_rows_from : PM) (m_first_place : PM) (m_behind_place : PM) (m_rows_same : PM) : DS :=
    (sSeq (sAsg (tOrV (tBin fIsN (tName 19) (tK .none)) (tBin (fOrdr .ge) (tCallP m__law_key (tC' (tFrz (tSl' (tName 16) tPno (tPsome (tCB' fLen (tC' (tName 19) tN))))) tN)) (tCallP m__law_key (tC' (tFrz (tName 19)) tN)))) (gNm 21))
    (sIf (tAndT (tTru (tName 21)) (tOrT (tCmp2 fIsN (tName 20) (tK .none)) (tCmp2 (fOrdr .le) (tCallP m__law_key (tC' (tFrz (tSl' (tName 16) tPno (tPsome (tCB' fLen (tC' (tName 20) tN))))) tN)) (tCallP m__law_key (tC' (tFrz (tName 20)) tN))))) (sDrop (tApp 15 (tFrz (tSl' (tName 16) (tPsome (tName 6)) tPno)))) sNext))
def C_law_7 (m__law_next : IM) (m__law_sorted : PM) (m__law_rows : IM) (m_index_of : PM) (m__law_same : PM) (m__law_key : PM) (m_rows_from : PM) (m_first_place : PM) (m_behind_place : PM) (m_rows_same : PM) : DT :=
    (tFrz (tName 16))
def C_law_8 (m__law_next : IM) (m__law_sorted : PM) (m__law_rows : IM) (m_index_of : PM) (m__law_same : PM) (m__law_key : PM) (m_rows_from : PM) (m_first_place : PM) (m_behind_place : PM) (m_rows_same : PM) : DT :=
    (tFrz (tSl' (tName 16) (tPsome (tName 6)) tPno))
def C_law_9 (m__law_next : IM) (m__law_sorted : PM) (m__law_rows : IM) (m_index_of : PM) (m__law_same : PM) (m__law_key : PM) (m_rows_from : PM) (m_first_place : PM) (m_behind_place : PM) (m_rows_same : PM) : DT :=
    (tFrz (tName 27))
def L_law_10 (m__law_next : IM) (m__law_sorted : PM) (m__law_rows : IM) (m_index_of : PM) (m__law_same : PM) (m__law_key : PM) (m_rows_from : PM) (m_first_place : PM) (m_behind_place : PM) (m_rows_same : PM) : DS :=
    (sSeq (sAsg (tLst' tN) (gNm 13))
    (sSeq (sFor (wRng (tK (.int 2))) (.nm 14) (L_law_5 m__law_next m__law_sorted m__law_rows m_index_of m__law_same m__law_key m_rows_from m_first_place m_behind_place m_rows_same))
    (sSeq (sAsgT (tFrz (tName 13)) (.tup [(.nm 19), (.nm 20)]))
    (sSeq (sAsg (tLst' tN) (gNm 15))
    (sSeq (sFor (wSeq (tFrz (tName 9))) (.nm 16) (L_law_6 m__law_next m__law_sorted m__law_rows m_index_of m__law_same m__law_key m_rows_from m_first_place m_behind_place m_rows_same))
    (sSeq (sIf (tNotT (tTru (tCallP m__law_same (tC' (tCallP m_rows_from (tC' (tFrz (tName 8)) (tC' (tFrz (tName 6)) (tC' (tFrz (tName 19)) (tC' (tFrz (tName 20)) tN))))) (tC' (tCB' fTuple (tC' (tName 15) tN)) tN))))) (sRet (tK (.bool false))) sNext)
    (sIf (tCmp2 fNotN (tName 19) (tK .none)) (sSeq (sAsg (tCB' fLen (tC' (tLcD (wSeq (tFrz (tName 9))) (.nm 16) (tCmp2 (fOrdr .lt) (tCallP m__law_key (tC' (tFrz (tSl' (tName 16) tPno (tPsome (tCB' fLen (tC' (tName 19) tN))))) tN)) (tCallP m__law_key (tC' (tFrz (tName 19)) tN))) (C_law_7 m__law_next m__law_sorted m__law_rows m_index_of m__law_same m__law_key m_rows_from m_first_place m_behind_place m_rows_same) [16]) tN)) (gNm 22))
    (sSeq (sAsg (tLcD (wSeq (tFrz (tName 9))) (.nm 16) (tCmp2 fEq (tCallP m__law_key (tC' (tFrz (tSl' (tName 16) tPno (tPsome (tCB' fLen (tC' (tName 19) tN))))) tN)) (tCallP m__law_key (tC' (tFrz (tName 19)) tN))) (C_law_8 m__law_next m__law_sorted m__law_rows m_index_of m__law_same m__law_key m_rows_from m_first_place m_behind_place m_rows_same) [16]) (gNm 23))
    (sSeq (sAsgT (tCallP m_first_place (tC' (tFrz (tName 8)) (tC' (tFrz (tName 6)) (tC' (tFrz (tName 19)) tN)))) (.tup [(.nm 25), (.nm 26)]))
    (sSeq (sAsg (tCB' fLen (tC' (tLcD (wSeq (tFrz (tLst' (tC' (tK (.int 1)) (tC' (tK (.int 2)) (tC' (tK (.int 4)) (tC' (tK (.int 8)) (tC' (tK (.int 16)) (tC' (tK (.int 32)) tN))))))))) (.nm 27) (tCmp2 (fOrdr .le) (tName 27) (tCB' fLen (tC' (tName 9) tN))) (C_law_9 m__law_next m__law_sorted m__law_rows m_index_of m__law_same m__law_key m_rows_from m_first_place m_behind_place m_rows_same) [27]) tN)) (gNm 24))
    (sSeq (sIf (tOrT (tNotT (tTru (tCallP m__law_same (tC' (tFrz (tName 25)) (tC' (tFrz (tName 22)) tN))))) (tOrT (tNotT (tVal (tIsi .int (tName 26)))) (tOrT (tCmp2 (fOrdr .gt) (tName 26) (tName 24)) (tCmp2 (fOrdr .lt) (tName 26) (tCB' fMin2 (tC' (tK (.int 1)) (tC' (tCB' fLen (tC' (tName 9) tN)) tN))))))) (sRet (tK (.bool false))) sNext)
    (sIf (tOrT (tNotT (tTru (tCallP m__law_same (tC' (tCallP m_behind_place (tC' (tFrz (tName 8)) (tC' (tFrz (tName 6)) (tC' (tFrz (tName 19)) tN)))) (tC' (tFrz (tBin fAdd (tName 22) (tCB' fLen (tC' (tName 23) tN)))) tN))))) (tNotT (tTru (tCallP m__law_same (tC' (tCallP m_rows_same (tC' (tFrz (tName 8)) (tC' (tFrz (tName 6)) (tC' (tFrz (tName 19)) tN)))) (tC' (tCB' fTuple (tC' (tName 23) tN)) tN)))))) (sRet (tK (.bool false))) sNext)))))) sNext)))))))
def b_law_1 (m__law_next : IM) (m__law_sorted : PM) (m__law_rows : IM) (m_index_of : PM) (m__law_same : PM) (m__law_key : PM) (m_rows_from : PM) (m_first_place : PM) (m_behind_place : PM) (m_rows_same : PM) : DS :=
    (sAsg (tTup' (tC' (tTup' (tC' (tK (.str "n")) (tC' (tK (.str "number")) tN))) (tC' (tTup' (tC' (tK (.str "s")) (tC' (tK (.str "text")) tN))) (tC' (tTup' (tC' (tK (.str "c")) (tC' (tK (.str "truth")) tN))) tN)))) (gNm 2))
def b_law_2 (m__law_next : IM) (m__law_sorted : PM) (m__law_rows : IM) (m_index_of : PM) (m__law_same : PM) (m__law_key : PM) (m_rows_from : PM) (m_first_place : PM) (m_behind_place : PM) (m_rows_same : PM) : DS :=
    (sAsg (tLst' (tC' (tK (.str "n")) (tC' (tK (.str "s")) (tC' (tK (.str "c")) tN)))) (gNm 3))
def b_law_3 (m__law_next : IM) (m__law_sorted : PM) (m__law_rows : IM) (m_index_of : PM) (m__law_same : PM) (m__law_key : PM) (m_rows_from : PM) (m_first_place : PM) (m_behind_place : PM) (m_rows_same : PM) : DS :=
    (sAsg (tCB' fTuple (tC' (tLcD (wRng (tBin fAdd (tK (.int 1)) (tCallI m__law_next 1 (tC' (tK (.int 3)) tN)))) (.nm 5) tYesD (C_law_1 m__law_next m__law_sorted m__law_rows m_index_of m__law_same m__law_key m_rows_from m_first_place m_behind_place m_rows_same) [5]) tN)) (gNm 4))
def b_law_4 (m__law_next : IM) (m__law_sorted : PM) (m__law_rows : IM) (m_index_of : PM) (m__law_same : PM) (m__law_key : PM) (m_rows_from : PM) (m_first_place : PM) (m_behind_place : PM) (m_rows_same : PM) : DS :=
    (sAsg (tCB' fLen (tC' (tName 4) tN)) (gNm 6))
def b_law_5 (m__law_next : IM) (m__law_sorted : PM) (m__law_rows : IM) (m_index_of : PM) (m__law_same : PM) (m__law_key : PM) (m_rows_from : PM) (m_first_place : PM) (m_behind_place : PM) (m_rows_same : PM) : DS :=
    (sAsg (tCallP m__law_sorted (tC' (tCallI m__law_rows 1 (tC' (tK (.int 14)) tN)) tN)) (gNm 7))
def b_law_6 (m__law_next : IM) (m__law_sorted : PM) (m__law_rows : IM) (m_index_of : PM) (m__law_same : PM) (m__law_key : PM) (m_rows_from : PM) (m_first_place : PM) (m_behind_place : PM) (m_rows_same : PM) : DS :=
    (sAsg (tCallP m_index_of (tC' (tTup' (tC' (tFrz (tName 2)) (tC' (tTup' tN) (tC' (tFrz (tName 7)) tN)))) (tC' (tFrz (tName 4)) tN))) (gNm 8))
def b_law_7 (m__law_next : IM) (m__law_sorted : PM) (m__law_rows : IM) (m_index_of : PM) (m__law_same : PM) (m__law_key : PM) (m_rows_from : PM) (m_first_place : PM) (m_behind_place : PM) (m_rows_same : PM) : DS :=
    (sAsg (tCallP m__law_sorted (tC' (tFrz (tLcD (wSeq (tFrz (tName 7))) (.nm 10) tYesD (C_law_3 m__law_next m__law_sorted m__law_rows m_index_of m__law_same m__law_key m_rows_from m_first_place m_behind_place m_rows_same) [10])) tN)) (gNm 9))
def b_law_8 (m__law_next : IM) (m__law_sorted : PM) (m__law_rows : IM) (m_index_of : PM) (m__law_same : PM) (m__law_key : PM) (m_rows_from : PM) (m_first_place : PM) (m_behind_place : PM) (m_rows_same : PM) : DS :=
    (sIf (tNotT (tTru (tCallP m__law_same (tC' (tFrz (tName 8)) (tC' (tFrz (tName 9)) tN))))) (sRet (tK (.bool false))) sNext)
def b_law_9 (m__law_next : IM) (m__law_sorted : PM) (m__law_rows : IM) (m_index_of : PM) (m__law_same : PM) (m__law_key : PM) (m_rows_from : PM) (m_first_place : PM) (m_behind_place : PM) (m_rows_same : PM) : DS :=
    (sFor (wRng (tK (.int 6))) (.nm 12) (L_law_10 m__law_next m__law_sorted m__law_rows m_index_of m__law_same m__law_key m_rows_from m_first_place m_behind_place m_rows_same))
def b_law_10 (m__law_next : IM) (m__law_sorted : PM) (m__law_rows : IM) (m_index_of : PM) (m__law_same : PM) (m__law_key : PM) (m_rows_from : PM) (m_first_place : PM) (m_behind_place : PM) (m_rows_same : PM) : DS :=
    (sRet (tK (.bool true)))
def b_law_t10 (m__law_next : IM) (m__law_sorted : PM) (m__law_rows : IM) (m_index_of : PM) (m__law_same : PM) (m__law_key : PM) (m_rows_from : PM) (m_first_place : PM) (m_behind_place : PM) (m_rows_same : PM) : DS := b_law_10 m__law_next m__law_sorted m__law_rows m_index_of m__law_same m__law_key m_rows_from m_first_place m_behind_place m_rows_same
def b_law_t9 (m__law_next : IM) (m__law_sorted : PM) (m__law_rows : IM) (m_index_of : PM) (m__law_same : PM) (m__law_key : PM) (m_rows_from : PM) (m_first_place : PM) (m_behind_place : PM) (m_rows_same : PM) : DS := sSeq (b_law_9 m__law_next m__law_sorted m__law_rows m_index_of m__law_same m__law_key m_rows_from m_first_place m_behind_place m_rows_same) (b_law_t10 m__law_next m__law_sorted m__law_rows m_index_of m__law_same m__law_key m_rows_from m_first_place m_behind_place m_rows_same)
def b_law_t8 (m__law_next : IM) (m__law_sorted : PM) (m__law_rows : IM) (m_index_of : PM) (m__law_same : PM) (m__law_key : PM) (m_rows_from : PM) (m_first_place : PM) (m_behind_place : PM) (m_rows_same : PM) : DS := sSeq (b_law_8 m__law_next m__law_sorted m__law_rows m_index_of m__law_same m__law_key m_rows_from m_first_place m_behind_place m_rows_same) (b_law_t9 m__law_next m__law_sorted m__law_rows m_index_of m__law_same m__law_key m_rows_from m_first_place m_behind_place m_rows_same)
def b_law_t7 (m__law_next : IM) (m__law_sorted : PM) (m__law_rows : IM) (m_index_of : PM) (m__law_same : PM) (m__law_key : PM) (m_rows_from : PM) (m_first_place : PM) (m_behind_place : PM) (m_rows_same : PM) : DS := sSeq (b_law_7 m__law_next m__law_sorted m__law_rows m_index_of m__law_same m__law_key m_rows_from m_first_place m_behind_place m_rows_same) (b_law_t8 m__law_next m__law_sorted m__law_rows m_index_of m__law_same m__law_key m_rows_from m_first_place m_behind_place m_rows_same)
def b_law_t6 (m__law_next : IM) (m__law_sorted : PM) (m__law_rows : IM) (m_index_of : PM) (m__law_same : PM) (m__law_key : PM) (m_rows_from : PM) (m_first_place : PM) (m_behind_place : PM) (m_rows_same : PM) : DS := sSeq (b_law_6 m__law_next m__law_sorted m__law_rows m_index_of m__law_same m__law_key m_rows_from m_first_place m_behind_place m_rows_same) (b_law_t7 m__law_next m__law_sorted m__law_rows m_index_of m__law_same m__law_key m_rows_from m_first_place m_behind_place m_rows_same)
def b_law_t5 (m__law_next : IM) (m__law_sorted : PM) (m__law_rows : IM) (m_index_of : PM) (m__law_same : PM) (m__law_key : PM) (m_rows_from : PM) (m_first_place : PM) (m_behind_place : PM) (m_rows_same : PM) : DS := sSeq (b_law_5 m__law_next m__law_sorted m__law_rows m_index_of m__law_same m__law_key m_rows_from m_first_place m_behind_place m_rows_same) (b_law_t6 m__law_next m__law_sorted m__law_rows m_index_of m__law_same m__law_key m_rows_from m_first_place m_behind_place m_rows_same)
def b_law_t4 (m__law_next : IM) (m__law_sorted : PM) (m__law_rows : IM) (m_index_of : PM) (m__law_same : PM) (m__law_key : PM) (m_rows_from : PM) (m_first_place : PM) (m_behind_place : PM) (m_rows_same : PM) : DS := sSeq (b_law_4 m__law_next m__law_sorted m__law_rows m_index_of m__law_same m__law_key m_rows_from m_first_place m_behind_place m_rows_same) (b_law_t5 m__law_next m__law_sorted m__law_rows m_index_of m__law_same m__law_key m_rows_from m_first_place m_behind_place m_rows_same)
def b_law_t3 (m__law_next : IM) (m__law_sorted : PM) (m__law_rows : IM) (m_index_of : PM) (m__law_same : PM) (m__law_key : PM) (m_rows_from : PM) (m_first_place : PM) (m_behind_place : PM) (m_rows_same : PM) : DS := sSeq (b_law_3 m__law_next m__law_sorted m__law_rows m_index_of m__law_same m__law_key m_rows_from m_first_place m_behind_place m_rows_same) (b_law_t4 m__law_next m__law_sorted m__law_rows m_index_of m__law_same m__law_key m_rows_from m_first_place m_behind_place m_rows_same)
def b_law_t2 (m__law_next : IM) (m__law_sorted : PM) (m__law_rows : IM) (m_index_of : PM) (m__law_same : PM) (m__law_key : PM) (m_rows_from : PM) (m_first_place : PM) (m_behind_place : PM) (m_rows_same : PM) : DS := sSeq (b_law_2 m__law_next m__law_sorted m__law_rows m_index_of m__law_same m__law_key m_rows_from m_first_place m_behind_place m_rows_same) (b_law_t3 m__law_next m__law_sorted m__law_rows m_index_of m__law_same m__law_key m_rows_from m_first_place m_behind_place m_rows_same)
def b_law (m__law_next : IM) (m__law_sorted : PM) (m__law_rows : IM) (m_index_of : PM) (m__law_same : PM) (m__law_key : PM) (m_rows_from : PM) (m_first_place : PM) (m_behind_place : PM) (m_rows_same : PM) : DS := sSeq (b_law_1 m__law_next m__law_sorted m__law_rows m_index_of m__law_same m__law_key m_rows_from m_first_place m_behind_place m_rows_same) (b_law_t2 m__law_next m__law_sorted m__law_rows m_index_of m__law_same m__law_key m_rows_from m_first_place m_behind_place m_rows_same)
theorem d_law {m__law_next : IM} {m__law_sorted : PM} {m__law_rows : IM} {m_index_of : PM} {m__law_same : PM} {m__law_key : PM} {m_rows_from : PM} {m_first_place : PM} {m_behind_place : PM} {m_rows_same : PM} (T : Tx K mg) (hr : Room k (A.deeper (envOfC "law" (defScope s_law) s.heap.objs.size f cdv))) (k__law_next : Kd P w K mg base k "_law_next" ["state", "limit"] (spI K m__law_next)) (k__law_sorted : Kd P w K mg base k "_law_sorted" ["rows"] (spP K m__law_sorted)) (k__law_rows : Kd P w K mg base k "_law_rows" ["state", "most"] (spI K m__law_rows)) (k_index_of : Kd P w K mg base k "index_of" ["table", "names"] (spP K m_index_of)) (k__law_same : Kd P w K mg base k "_law_same" ["actual", "expected"] (spP K m__law_same)) (k__law_key : Kd P w K mg base k "_law_key" ["row"] (spP K m__law_key)) (k_rows_from : Kd P w K mg base k "rows_from" ["index", "many", "low", "high"] (spP K m_rows_from)) (k_first_place : Kd P w K mg base k "first_place" ["index", "many", "worths"] (spP K m_first_place)) (k_behind_place : Kd P w K mg base k "behind_place" ["index", "many", "worths"] (spP K m_behind_place)) (k_rows_same : Kd P w K mg base k "rows_same" ["index", "many", "worths"] (spP K m_rows_same)) : PSs (cxOf CX0 P w K mg base ["script", "state", "schema", "names", "some", "k", "many", "rows", "index", "due", "row", "name", "turn", "bounds", "side", "found", "entry", "told", "values", "low", "high", "above", "less", "same", "bits", "place", "looked", "one"] "law" (defScope s_law) f cdv A outer s H E).nox (defBody s_law).tail (lfs K (b_law m__law_next m__law_sorted m__law_rows m_index_of m__law_same m__law_key m_rows_from m_first_place m_behind_place m_rows_same)) :=
    (ds_cons (ds_set (i := 2) sc_law.nd rfl (.inl rfl) (de_tup (da_cons (de_tup (da_cons de_str (da_cons de_str da_nil))) (da_cons (de_tup (da_cons de_str (da_cons de_str da_nil))) (da_cons (de_tup (da_cons de_str (da_cons de_str da_nil))) da_nil)))))
    (ds_cons (ds_set (i := 3) sc_law.nd rfl (.inr rfl) (de_lst (da_cons de_str (da_cons de_str (da_cons de_str da_nil)))))
    (ds_cons (ds_set (i := 4) sc_law.nd rfl (.inr rfl) (de_tuple (by rfl) T.f_tuple (by exact de_lc rfl sc_law.nd (by exact (di_range (by rfl) T.f_range (de_add de_int (de_ki k__law_next hr (by rfl) (pv 1) (da_cons de_int da_nil))))) (blkOk_by (own := [("k", 5)]) (by first | decide +kernel | rfl)) (fun _ _ _ _ _ => by exact (pgN (pg_name (i := 5) sc_law.nd rfl (.inl rfl)))) (fun _ _ _ _ _ => by exact dts_nil) (fun _ _ _ _ _ => by exact (de_item (fun _ _ => rfl) (de_var (pv 3)) (de_ki k__law_next hr (by rfl) (pv 1) (da_cons de_int da_nil)))) (by simp [Tg.sl, Tg.sls]))))
    (ds_cons (ds_set (i := 6) sc_law.nd rfl (.inr rfl) (de_len (by rfl) T.f_len (de_var (pv 4))))
    (ds_cons (ds_set (i := 7) sc_law.nd rfl (.inl rfl) (de_k k__law_sorted hr (by rfl) (da_cons (de_ki k__law_rows hr (by rfl) (pv 1) (da_cons de_int da_nil)) da_nil)))
    (ds_cons (ds_set (i := 8) sc_law.nd rfl (.inl rfl) (de_k k_index_of hr (by rfl) (da_cons (de_tup (da_cons (de_frz (de_var (pv 2))) (da_cons (de_tup da_nil) (da_cons (de_frz (de_var (pv 7))) da_nil)))) (da_cons (de_frz (de_var (pv 4))) da_nil))))
    (ds_cons (ds_set (i := 9) sc_law.nd rfl (.inr rfl) (de_k k__law_sorted hr (by rfl) (da_cons (de_frz (by exact de_lc rfl sc_law.nd (by exact (di_seq (de_frz (de_var (pv 7))))) (blkOk_by (own := [("row", 10)]) (by first | decide +kernel | rfl)) (fun _ _ _ _ _ => by exact (pgN (pg_name (i := 10) sc_law.nd rfl (.inr rfl)))) (fun _ _ _ _ _ => by exact dts_nil) (fun _ _ _ _ _ => by exact (de_frz (de_add (de_tuple (by rfl) T.f_tuple (by exact de_lc rfl sc_law.nd (by exact (di_seq (de_frz (de_var (pv 4))))) (blkOk_by (own := [("name", 11)]) (by first | decide +kernel | rfl)) (fun _ _ _ _ _ => by exact (pgN (pg_name (i := 11) sc_law.nd rfl (.inl rfl)))) (fun _ _ _ _ _ => by exact dts_nil) (fun _ _ _ _ _ => by exact (de_item (fun _ _ => rfl) (de_var (pv 10)) (de_index (units65 hr) (de_var (pv 3)) (de_var (pv 11))))) (by simp [Tg.sl, Tg.sls]))) (de_var (pv 10))))) (by simp [Tg.sl, Tg.sls]))) da_nil)))
    (ds_cons (ds_if (dt_not (dt_truth (de_k k__law_same hr (by rfl) (da_cons (de_frz (de_var (pv 8))) (da_cons (de_frz (de_var (pv 9))) da_nil))))) (ds_one (ds_ret de_bool)) ds_nil)
    (ds_cons (ds_for PassesOwn.never rfl (di_range (by rfl) T.f_range de_int) (pgN (pg_name (i := 12) sc_law.nd rfl (.inl rfl))) (ds_cons (ds_set (i := 13) sc_law.nd rfl (.inl rfl) (de_lst da_nil))
    (ds_cons (ds_for PassesOwn.never rfl (di_range (by rfl) T.f_range de_int) (pgN (pg_name (i := 14) sc_law.nd rfl (.inl rfl))) (ds_cons (ds_set (i := 17) sc_law.nd rfl (.inl rfl) (de_add de_int (de_ki k__law_next hr (by rfl) (pv 1) (da_cons (de_frz (de_var (pv 6))) da_nil))))
    (ds_cons (ds_set (i := 18) sc_law.nd rfl (.inl rfl) (de_lst da_nil))
    (ds_cons (ds_for PassesOwn.never rfl (di_seq (de_frz (de_slice (de_var (pv 4)) do_none (do_some (de_var (pv 17)))))) (pgN (pg_name (i := 11) sc_law.nd rfl (.inl rfl))) (ds_one (ds_expr (de_app (pv 18) (de_dix hr.units (de_dct (dp_cons (de_sub (de_ki k__law_next hr (by rfl) (pv 1) (da_cons de_int da_nil)) de_int) (dp_cons (de_item (fun _ _ => rfl) (de_lst (da_cons de_str (da_cons de_str (da_cons de_str (da_cons de_str da_nil))))) (de_ki k__law_next hr (by rfl) (pv 1) (da_cons de_int da_nil))) (dp_cons (de_eq hr.units (de_ki k__law_next hr (by rfl) (pv 1) (da_cons de_int da_nil)) de_int) dp_nil)))) (de_var (pv 11)))))))
    (ds_one (ds_expr (de_app (pv 13) (de_if (dt_eq hr.units (de_ki k__law_next hr (by rfl) (pv 1) (da_cons de_int da_nil)) de_int) de_none (de_tuple (by rfl) T.f_tuple (de_var (pv 18)))))))))))
    (ds_cons (ds_asgT (de_frz (de_var (pv 13))) (pgT rfl (pgsC (pgN (pg_name (i := 19) sc_law.nd rfl (.inr rfl))) (pgsC (pgN (pg_name (i := 20) sc_law.nd rfl (.inl rfl))) pgsN))))
    (ds_cons (ds_set (i := 15) sc_law.nd rfl (.inl rfl) (de_lst da_nil))
    (ds_cons (ds_for PassesOwn.never rfl (di_seq (de_frz (de_var (pv 9)))) (pgN (pg_name (i := 16) sc_law.nd rfl (.inl rfl))) (ds_cons (ds_set (i := 21) sc_law.nd rfl (.inl rfl) (de_or (de_isN (de_var (pv 19)) de_none) (de_one (de_ord' .ge hr.units (de_k k__law_key hr (by rfl) (da_cons (de_frz (de_slice (de_var (pv 16)) do_none (do_some (de_len (by rfl) T.f_len (de_var (pv 19)))))) da_nil)) (de_k k__law_key hr (by rfl) (da_cons (de_frz (de_var (pv 19))) da_nil))))))
    (ds_one (ds_if (dw_and (dt_truth (de_var (pv 21))) (dw_and1 (dw_or (dt_isN (de_var (pv 20)) de_none) (dw_or1 (dt_ord .le hr.units (de_k k__law_key hr (by rfl) (da_cons (de_frz (de_slice (de_var (pv 16)) do_none (do_some (de_len (by rfl) T.f_len (de_var (pv 20)))))) da_nil)) (de_k k__law_key hr (by rfl) (da_cons (de_frz (de_var (pv 20))) da_nil))))).pt)).pt (ds_one (ds_expr (de_app (pv 15) (de_frz (de_slice (de_var (pv 16)) (do_some (de_var (pv 6))) do_none))))) ds_nil))))
    (ds_cons (ds_if (dt_not (dt_truth (de_k k__law_same hr (by rfl) (da_cons (de_k k_rows_from hr (by rfl) (da_cons (de_frz (de_var (pv 8))) (da_cons (de_frz (de_var (pv 6))) (da_cons (de_frz (de_var (pv 19))) (da_cons (de_frz (de_var (pv 20))) da_nil))))) (da_cons (de_tuple (by rfl) T.f_tuple (de_var (pv 15))) da_nil))))) (ds_one (ds_ret de_bool)) ds_nil)
    (ds_one (ds_if (dt_notN (de_var (pv 19)) de_none) (ds_cons (ds_set (i := 22) sc_law.nd rfl (.inl rfl) (de_len (by rfl) T.f_len (by exact de_lc rfl sc_law.nd (by exact (di_seq (de_frz (de_var (pv 9))))) (blkOk_by (own := [("entry", 16)]) (by first | decide +kernel | rfl)) (fun _ _ _ _ _ => by exact (pgN (pg_name (i := 16) sc_law.nd rfl (.inl rfl)))) (fun _ _ _ _ _ => by exact (dts_one (dt_ord .lt hr.units (de_k k__law_key hr (by rfl) (da_cons (de_frz (de_slice (de_var (pv 16)) do_none (do_some (de_len (by rfl) T.f_len (de_var (pv 19)))))) da_nil)) (de_k k__law_key hr (by rfl) (da_cons (de_frz (de_var (pv 19))) da_nil))))) (fun _ _ _ _ _ => by exact (de_frz (de_var (pv 16)))) (by simp [Tg.sl, Tg.sls]))))
    (ds_cons (ds_setLc (i := 23) rfl sc_law.nd rfl rfl (sw_true rfl rfl rfl (by decide +kernel)) (by exact (di_seq (de_frz (de_var (pv 9))))) (blkOk_by (own := [("entry", 16)]) (by first | decide +kernel | rfl)) (fun _ _ _ _ _ => by exact (pgN (pg_name (i := 16) sc_law.nd rfl (.inl rfl)))) (fun _ _ _ _ _ => by exact (dts_one (dt_eq hr.units (de_k k__law_key hr (by rfl) (da_cons (de_frz (de_slice (de_var (pv 16)) do_none (do_some (de_len (by rfl) T.f_len (de_var (pv 19)))))) da_nil)) (de_k k__law_key hr (by rfl) (da_cons (de_frz (de_var (pv 19))) da_nil))))) (fun _ _ _ _ _ => by exact (de_frz (de_slice (de_var (pv 16)) (do_some (de_var (pv 6))) do_none))) (by simp [Tg.sl, Tg.sls]))
    (ds_cons (ds_asgT (de_k k_first_place hr (by rfl) (da_cons (de_frz (de_var (pv 8))) (da_cons (de_frz (de_var (pv 6))) (da_cons (de_frz (de_var (pv 19))) da_nil)))) (pgT rfl (pgsC (pgN (pg_name (i := 25) sc_law.nd rfl (.inl rfl))) (pgsC (pgN (pg_name (i := 26) sc_law.nd rfl (.inl rfl))) pgsN))))
    (ds_cons (ds_set (i := 24) sc_law.nd rfl (.inl rfl) (de_len (by rfl) T.f_len (by exact de_lc rfl sc_law.nd (by exact (di_seq (de_frz (de_lst (da_cons de_int (da_cons de_int (da_cons de_int (da_cons de_int (da_cons de_int (da_cons de_int da_nil)))))))))) (blkOk_by (own := [("one", 27)]) (by first | decide +kernel | rfl)) (fun _ _ _ _ _ => by exact (pgN (pg_name (i := 27) sc_law.nd rfl (.inl rfl)))) (fun _ _ _ _ _ => by exact (dts_one (dt_ord .le hr.units (de_var (pv 27)) (de_len (by rfl) T.f_len (de_var (pv 9)))))) (fun _ _ _ _ _ => by exact (de_frz (de_var (pv 27)))) (by simp [Tg.sl, Tg.sls]))))
    (ds_cons (ds_if (dw_or (dt_not (dt_truth (de_k k__law_same hr (by rfl) (da_cons (de_frz (de_var (pv 25))) (da_cons (de_frz (de_var (pv 22))) da_nil))))) (dw_or (dt_not (dt_val (de_isi .int (by rfl) T.f_isinstance (de_var (pv 26)) (pe_tyN .int (by rfl) T.f_int (by decide +kernel))))) (dw_or (dt_ord .gt hr.units (de_var (pv 26)) (de_var (pv 24))) (dw_or1 (dt_ord .lt hr.units (de_var (pv 26)) (de_min2 rfl (by rfl) T.f_min de_int (de_len (by rfl) T.f_len (de_var (pv 9))))))))).pt (ds_one (ds_ret de_bool)) ds_nil)
    (ds_one (ds_if (dw_or (dt_not (dt_truth (de_k k__law_same hr (by rfl) (da_cons (de_k k_behind_place hr (by rfl) (da_cons (de_frz (de_var (pv 8))) (da_cons (de_frz (de_var (pv 6))) (da_cons (de_frz (de_var (pv 19))) da_nil)))) (da_cons (de_frz (de_add (de_var (pv 22)) (de_len (by rfl) T.f_len (de_var (pv 23))))) da_nil))))) (dw_or1 (dt_not (dt_truth (de_k k__law_same hr (by rfl) (da_cons (de_k k_rows_same hr (by rfl) (da_cons (de_frz (de_var (pv 8))) (da_cons (de_frz (de_var (pv 6))) (da_cons (de_frz (de_var (pv 19))) da_nil)))) (da_cons (de_tuple (by rfl) T.f_tuple (de_var (pv 23))) da_nil))))))).pt (ds_one (ds_ret de_bool)) ds_nil))))))) ds_nil)))))))))
    (ds_one (ds_ret de_bool)))))))))))
theorem d_law0 (hl : mg "list" = none) (ns : List Int) : PS (cxOf CX0 P w K mg base ["script", "state", "schema", "names", "some", "k", "many", "rows", "index", "due", "row", "name", "turn", "bounds", "side", "found", "entry", "told", "values", "low", "high", "above", "less", "same", "bits", "place", "looked", "one"] "law" (defScope s_law) f cdv A outer s H E).nox ((defBody s_law).headD (.Pass ⟨0, 0, 0, 0⟩)) (lfs0 K 1 ns) := ds_state sc_law.nd rfl (.inr rfl) hl (by rfl) (pv 0)
end
end Lk41
set_option Elab.async false
set_option linter.all false
set_option maxRecDepth 100000
set_option maxHeartbeats 4000000
namespace DL
open PySem PySem.Spec PyProof.Rows L2
/-! M7-like: < and >= of keys; prefixes. -/
mutual
theorem ge_lt : ∀ x y : PyData, sameK x y = true → ordD .ge x y = !ordD .lt x y
  | .int a, y, h => by
    cases y with
    | int b => rw [ordD, ordD, Cp.i, Cp.i, Bool.eq_iff_iff]; simp
    | _ => exact absurd h (by simp [sameK])
  | .str a, y, h => by
    cases y with
    | str b => rw [ordD, ordD, Cp.s, Cp.s]
    | _ => exact absurd h (by simp [sameK])
  | .tuple xs, y, h => by
    cases y with
    | tuple ys => rw [ordD, ordD]; rw [sameK] at h; exact ge_lts xs ys h
    | _ => exact absurd h (by simp [sameK])
  | .none, y, h => absurd h (by simp [sameK])
  | .bool _, y, h => absurd h (by simp [sameK])
  | .list _, y, h => absurd h (by simp [sameK])
  | .dict _, y, h => absurd h (by simp [sameK])
theorem ge_lts : ∀ xs ys : List PyData, sameKs xs ys = true → ordL .ge xs ys = !ordL .lt xs ys
  | [], [], _ => by simp [ordL, Cp.n]
  | [], _ :: _, _ => by simp [ordL, Cp.n]
  | _ :: _, [], _ => by simp [ordL, Cp.n]
  | x :: xs, y :: ys, h => by
    rw [sameKs, Bool.and_eq_true] at h
    rw [ordL, ordL]
    split
    · exact ge_lts xs ys h.2
    · exact ge_lt x y h.1
end
theorem ordL_kv_lt : ∀ (vs ws : List PyData), (∀ x ∈ vs, anyV x) → (∀ x ∈ ws, anyV x) → ordL .lt (vs.map kv) (ws.map kv) = PyProof.Rows.lexLt PyProof.Rows.itemOrd (PySem.W.keyToksAll (vs.map kv)) (PySem.W.keyToksAll (ws.map kv))
  | [], [], _, _ => by rw [List.map_nil, lt_nil]; simp [ordL, Cp.n]
  | [], w :: ws, _, _ => by
    rw [List.map_nil, List.map_cons, PySem.W.toks_all_cons]
    simp [ordL, Cp.n, PySem.W.keyToksAll, PyProof.Rows.lexLt, PyProof.Rows.itemLt]
  | v :: vs, [], _, _ => by
    rw [List.map_nil, List.map_cons, PySem.W.toks_all_cons]
    simp [ordL, Cp.n, PySem.W.keyToksAll, PyProof.Rows.lexLt, PyProof.Rows.itemLt]
  | v :: vs, w :: ws, h, h2 => by
    have hv := h v List.mem_cons_self
    have hw := h2 w List.mem_cons_self
    have ih := ordL_kv_lt vs ws (fun x hx => h x (List.mem_cons_of_mem _ hx)) fun x hx => h2 x (List.mem_cons_of_mem _ hx)
    rw [List.map_cons, List.map_cons, ordL, PySem.W.dataLt_cons (alike_kv hv hw), eqv_kv hv hw, ih, (ordD_kv hv hw).1]
theorem lt_rk {d e : PyData} (h : rowV d) (h2 : rowV e) : ordD .lt (rk d) (rk e) = !leR e d := by
  obtain ⟨v, vs, rfl, hr, hv⟩ := rk_tup h
  obtain ⟨w, ws, rfl, hr2, hw⟩ := rk_tup h2
  rw [leR_eq, Bool.not_not, hr, hr2, ordD, PySem.W.keyToks, PySem.W.keyToks]
  exact ordL_kv_lt (v :: vs) (w :: ws) hv hw
theorem ge_rk {d e : PyData} (h : rowV d) (h2 : rowV e) : ordD .ge (rk d) (rk e) = leR e d := by
  rw [ge_lt _ _ (sameK_rk h h2), lt_rk h h2, Bool.not_not]
theorem eqvAll_kv : ∀ (vs ws : List PyData), (∀ x ∈ vs, anyV x) → (∀ x ∈ ws, anyV x) → (PyData.eqvAll (vs.map kv) (ws.map kv) = true ↔ vs = ws)
  | [], [], _, _ => by simp [PyData.eqvAll]
  | [], w :: ws, _, _ => by simp [PyData.eqvAll]
  | v :: vs, [], _, _ => by simp [PyData.eqvAll]
  | v :: vs, w :: ws, h, h2 => by
    have hv := h v List.mem_cons_self
    have hw := h2 w List.mem_cons_self
    have ih := eqvAll_kv vs ws (fun x hx => h x (List.mem_cons_of_mem _ hx)) fun x hx => h2 x (List.mem_cons_of_mem _ hx)
    rw [List.map_cons, List.map_cons, PyData.eqvAll, eqv_kv hv hw, Bool.and_eq_true, ih, decide_eq_true_eq, List.cons.injEq]
    exact ⟨fun ⟨a, b⟩ => ⟨k3_inj hv hw a, b⟩, fun ⟨a, b⟩ => ⟨by rw [a], b⟩⟩
theorem leR_refl (d : PyData) : leR d d = true := by
  rcases leR_tot.total d d with h | h <;> exact h
theorem eqv_rk {d e : PyData} (h : rowV d) (h2 : rowV e) : PyData.eqv (rk d) (rk e) = (leR e d && leR d e) := by
  rw [Bool.eq_iff_iff, Bool.and_eq_true]
  refine Iff.trans (b := d = e) ?_ ⟨fun z => by subst z; exact ⟨leR_refl _, leR_refl _⟩, fun ⟨a, b⟩ => leR_anti h h2 b a⟩
  obtain ⟨v, vs, rfl, hr, hv⟩ := rk_tup h
  obtain ⟨w, ws, rfl, hr2, hw⟩ := rk_tup h2
  rw [hr, hr2, PyData.eqv, ← List.map_cons, ← List.map_cons, eqvAll_kv (v :: vs) (w :: ws) hv hw]
  simp
theorem shaped_rk {d : PyData} (h : rowV d) : SeqAt.shaped (rk d) = true := by
  obtain ⟨v, vs, rfl, hr, hv⟩ := rk_tup h
  have lay : PyData.canLayAll0 ((v :: vs).map kv) = true := canAll_of fun x hx => by
    obtain ⟨y, hy, rfl⟩ := List.mem_map.mp hx
    exact lay_kv (hv y hy)
  have dp := depAll_kv (v :: vs) hv
  rw [hr]
  rw [List.map_cons] at lay dp
  unfold SeqAt.shaped PyData.canLay0 PyData.depth
  rw [lay, Bool.true_and, decide_eq_true_eq]
  omega
/-- a prefix of a row -/
def pre (n : Nat) : PyData → PyData
  | .tuple vs => .tuple (vs.take n)
  | _ => .none
theorem gt_pre : ∀ (n : Nat) (vs ws : List PyData), ordL .gt (vs.take n) (ws.take n) = true → ordL .gt vs ws = true
  | 0, vs, ws, h => by simp [ordL, Cp.n] at h
  | n + 1, [], ws, h => by
    cases ws <;> simp [ordL, Cp.n] at h
  | n + 1, v :: vs, [], h => by simp [ordL, Cp.n]
  | n + 1, v :: vs, w :: ws, h => by
    rw [List.take_succ_cons, List.take_succ_cons, ordL] at h
    rw [ordL]
    split
    · rename_i e; rw [if_pos e] at h; exact gt_pre n vs ws h
    · rename_i e; rw [if_neg e] at h; exact h
/-- long rows -/
def longV (n : Nat) (d : PyData) : Prop := ∃ vs, d = .tuple vs ∧ n ≤ vs.length ∧ vs.length ≤ 9 ∧ ∀ v ∈ vs, anyV v
theorem pre_V {n : Nat} {d : PyData} (h : longV n d) (h1 : 1 ≤ n) : rowV (pre n d) := by
  obtain ⟨vs, rfl, h2, h3, h4⟩ := h
  match vs, h2, h3, h4 with
  | [], h2, _, _ => simp at h2; omega
  | v :: vs, h2, h3, h4 =>
    match n, h1 with
    | n + 1, _ =>
      exact ⟨v, vs.take n, by show PyData.tuple ((v :: vs).take (n + 1)) = _; rw [List.take_succ_cons], by rw [List.length_take]; simp at h3; omega, fun x hx => h4 x (by
        rw [← List.take_succ_cons] at hx
        exact List.mem_of_mem_take hx)⟩
theorem long_V {n : Nat} {d : PyData} (h : longV n d) (h1 : 1 ≤ n) : rowV d := by
  obtain ⟨vs, rfl, h2, h3, h4⟩ := h
  match vs, h2, h3, h4 with
  | [], h2, _, _ => simp at h2; omega
  | v :: vs, h2, h3, h4 => exact ⟨v, vs, rfl, by simp at h3; omega, h4⟩
theorem le_pre {n : Nat} {d e : PyData} (h1 : 1 ≤ n) (hd : longV n d) (he : longV n e) (h : leR d e = true) : leR (pre n d) (pre n e) = true := by
  have a := gt_rk (long_V hd h1) (long_V he h1)
  have b := gt_rk (pre_V hd h1) (pre_V he h1)
  rw [leR_eq, ← b, Bool.not_eq_true']
  rw [leR_eq, ← a, Bool.not_eq_true'] at h
  obtain ⟨vs, rfl, _⟩ := hd
  obtain ⟨ws, rfl, _⟩ := he
  cases q : ordD .gt (rk (pre n (.tuple vs))) (rk (pre n (.tuple ws))) with
  | false => rfl
  | true =>
    have q : ordL .gt ((vs.take n).map kv) ((ws.take n).map kv) = true := by
      have : ordD .gt (.tuple ((vs.take n).map kv)) (.tuple ((ws.take n).map kv)) = true := q
      rw [ordD] at this; exact this
    rw [List.map_take, List.map_take] at q
    have := gt_pre n _ _ q
    have h : ordD .gt (.tuple (vs.map kv)) (.tuple (ws.map kv)) = false := h
    rw [ordD, this] at h
    cases h
/-! ### a test that holds at the beginning alone -/
def Ini (p : PyData → Bool) (L : List PyData) : Prop := L.Pairwise fun a b => p b = true → p a = true
theorem ini_take {p : PyData → Bool} : ∀ {L : List PyData}, Ini p L → ∀ (i : Nat) (h : i < L.length), p L[i] = decide (i < L.countP p)
  | [], _, i, h => by simp at h
  | x :: L, hI, i, h => by
    obtain ⟨h1, h2⟩ := List.pairwise_cons.mp hI
    rw [List.countP_cons]
    by_cases e : p x = true
    · rw [if_pos e]
      cases i with
      | zero => rw [List.getElem_cons_zero, e]; simp
      | succ i =>
        rw [List.getElem_cons_succ, ini_take h2 i (by simpa using h), Bool.eq_iff_iff]
        simp
    · have z : L.countP p = 0 := List.countP_eq_zero.mpr fun y hy => fun q => e (h1 y hy q)
      rw [if_neg e, z]
      cases i with
      | zero => rw [List.getElem_cons_zero]; simpa using e
      | succ i =>
        rw [List.getElem_cons_succ]
        have hi : i < L.length := by simpa using h
        have : p L[i] ≠ true := fun q => e (h1 _ (List.getElem_mem hi) q)
        simpa using this
theorem ini_between {p q : PyData → Bool} : ∀ {L : List PyData}, Ini p L → Ini q L → L.filter (fun x => !p x && q x) = (L.take (L.countP q)).drop (L.countP p)
  | [], _, _ => rfl
  | x :: L, hp, hq => by
    obtain ⟨p1, p2⟩ := List.pairwise_cons.mp hp
    obtain ⟨q1, q2⟩ := List.pairwise_cons.mp hq
    have ih := ini_between p2 q2
    rw [List.countP_cons, List.countP_cons]
    by_cases e : p x = true
    · rw [List.filter_cons_of_neg (by rw [e]; simp), if_pos e, ih]
      by_cases f : q x = true
      · rw [if_pos f, List.take_succ_cons, List.drop_succ_cons]
      · have z : L.countP q = 0 := List.countP_eq_zero.mpr fun y hy => fun w => f (q1 y hy w)
        rw [if_neg f, z]; simp
    · have z : L.countP p = 0 := List.countP_eq_zero.mpr fun y hy => fun w => e (p1 y hy w)
      rw [if_neg e, z]
      rw [z] at ih
      by_cases f : q x = true
      · rw [List.filter_cons_of_pos (by rw [f]; simp; simpa using e), if_pos f, ih, List.take_succ_cons]; rfl
      · have z2 : L.countP q = 0 := List.countP_eq_zero.mpr fun y hy => fun w => f (q1 y hy w)
        rw [List.filter_cons_of_neg (by simp; intro _; simpa using f), if_neg f, ih, z2]; simp
/-- so many halvings -/
def blen : Nat → Nat
  | 0 => 0
  | n + 1 => 1 + blen ((n + 1) / 2)
theorem blen_mono : ∀ b : Fin 16, ∀ a : Fin 16, a ≤ b → blen a.val ≤ blen b.val := by decide +kernel
theorem blen_half {s t : Nat} (hs : 0 < s) (h : t ≤ s / 2) (hl : s ≤ 15) : blen t + 1 ≤ blen s := by
  have m := blen_mono ⟨s / 2, by omega⟩ ⟨t, by omega⟩ h
  have e : blen s = 1 + blen (s / 2) := by
    cases s with
    | zero => omega
    | succ n => rw [blen]
  dsimp at m
  omega
theorem pw_bits : ∀ n : Fin 16, (([1, 2, 4, 8, 16, 32] : List Int).filter fun x => decide (x ≤ (n.val : Int))).length = blen n.val := by decide +kernel
end DL
set_option Elab.async false
set_option linter.all false
set_option maxRecDepth 100000
set_option maxHeartbeats 4000000
local macro_rules | `(tactic| walk_at "dl.s") => `(tactic| first | exact DL.shaped_int | exact DL.shaped_bool | exact DL.shaped_non | assumption | (with_reducible decide) | omega | exact DL.cmulw 64 64 (by omega) (by omega) (by decide) | exact DL.cdivw (by omega) (by omega) | exact DL.cmulw 64 64 (by decide) (by decide) (by decide) | exact DL.cpow (by decide) (by decide) (by decide) | exact rfl | exact Nat.le_of_ble_eq_true rfl | fail)
local macro_rules | `(tactic| walk_at "dl") => `(tactic| ((conv => whnf); repeat' (first | (refine And.intro (by walk_at "dl.s") ?_; conv => whnf) | (refine DL.condP_tt (by rfl) ?_; conv => whnf) | (refine DL.condP_ff (by rfl) ?_; conv => whnf) | (refine DL.free_pl (by assumption) ?_; conv => whnf) | (refine DL.plainS_pl (by assumption) ?_; conv => whnf) | fail)))
local macro_rules | `(tactic| walk_at "dl.if") => `(tactic| (refine DL.condP_by (fun h => ?_) (fun h => ?_) <;> (try simp only [DL.eqv_int, DL.eqv_str, DL.eqv_bool, DL.Cp.i, beq_iff_eq, decide_eq_true_eq, decide_eq_false_iff_not, beq_eq_false_iff_ne, List.length_map, ne_eq, Bool.not_eq_true', Bool.not_eq_false', Int.reduceToNat, Int.reducePow] at h)))
namespace Lk41
open PySem PySem.Spec PyProof.Rows L2 DL
theorem isText_ok (ds : List PyData) (R : PyData → Prop) (h : mIsText ds R) : b_is_text (eR R) (ds.map SV.d ++ bl (2 - ds.length)) := DL.isText_ok ds R h
theorem kind_ok (ds : List PyData) (R : PyData → Prop) (h : mKind ds R) : b_kind_of mIsText (eR R) (ds.map SV.d ++ bl (1 - ds.length)) := DL.kind_ok ds R h
theorem key_ok (ds : List PyData) (R : PyData → Prop) (h : mKey ds R) : b_key_of mKind (eR R) (ds.map SV.d ++ bl (2 - ds.length)) := DL.key_ok ds R h
theorem row_ok (ds : List PyData) (R : PyData → Prop) (h : mRow ds R) : b_row_key mKey (eR R) (ds.map SV.d ++ bl (2 - ds.length)) := DL.row_ok ds R h
theorem inOrder_ok (ds : List PyData) (R : PyData → Prop) (h : mSrt ds R) : b_in_order mRow (eR R) (ds.map SV.d ++ bl (1 - ds.length)) := DL.inOrder_ok ds R h
theorem lkey_ok (ds : List PyData) (R : PyData → Prop) (h : mRow ds R) : b__law_key (eR R) (ds.map SV.d ++ bl (3 - ds.length)) := DL.lkey_ok ds R h
theorem lsorted_ok (ds : List PyData) (R : PyData → Prop) (h : mSrt ds R) : b__law_sorted mRow (eR R) (ds.map SV.d ++ bl (1 - ds.length)) := DL.lsorted_ok ds R h
def sn : Str := Str.ofString "n"
def ss : Str := Str.ofString "s"
def sc : Str := Str.ofString "c"
def schD : PyData := .tuple [.tuple [.str (Str.ofString "n"), .str (Str.ofString "number")], .tuple [.str (Str.ofString "s"), .str (Str.ofString "text")], .tuple [.str (Str.ofString "c"), .str (Str.ofString "truth")]]
def isNm (d : PyData) (k : Nat) : Prop := (d = .str (Str.ofString "n") ∧ k = 0) ∨ (d = .str (Str.ofString "s") ∧ k = 1) ∨ (d = .str (Str.ofString "c") ∧ k = 2)
def nmOf : PyData → Nat
  | .str z => if z = Str.ofString "n" then 0 else if z = Str.ofString "s" then 1 else 2
  | _ => 0
def okNm (d : PyData) : Prop := isNm d (nmOf d)
theorem nm_of {d : PyData} {k : Nat} (h : isNm d k) : nmOf d = k := by
  rcases h with ⟨rfl, rfl⟩ | ⟨rfl, rfl⟩ | ⟨rfl, rfl⟩ <;> decide +kernel
theorem en3 (a b c : PyData) : enumD [a, b, c] = [.tuple [.int 0, a], .tuple [.int 1, b], .tuple [.int 2, c]] := by unfold enumD; rfl
theorem shN : SeqAt.shaped (.str (Str.ofString "n")) = true := by rw [shaped_str]; decide +kernel
theorem shS : SeqAt.shaped (.str (Str.ofString "s")) = true := by rw [shaped_str]; decide +kernel
theorem shC : SeqAt.shaped (.str (Str.ofString "c")) = true := by rw [shaped_str]; decide +kernel
theorem nNS : (Str.ofString "n" == Str.ofString "s") = false := by decide +kernel
theorem nNC : (Str.ofString "n" == Str.ofString "c") = false := by decide +kernel
theorem nSC : (Str.ofString "s" == Str.ofString "c") = false := by decide +kernel
def mPlace : PM := fun ds R => ∃ d, ds = [schD, d] ∧ okNm d ∧ R (.int (nmOf d : Nat))
theorem place_ok (ds : List PyData) (R : PyData → Prop) (h : mPlace ds R) : b_place_of (eR R) (ds.map SV.d ++ bl (5 - ds.length)) := by
  obtain ⟨d, rfl, hd, hR⟩ := h
  have s1 := shN
  have s2 := shS
  have s3 := shC
  have e := nm_of hd
  unfold schD
  rcases hd with ⟨rfl, k⟩ | ⟨rfl, k⟩ | ⟨rfl, k⟩ <;> (
    rw [k] at hR
    conv => whnf
    rw [en3]
    walk_at "dl"
    exact hR)
def row3 (r : PyData) : Prop := ∃ a b c, r = .tuple [a, b, c] ∧ anyV a ∧ anyV b ∧ anyV c
def vals : PyData → List PyData
  | .tuple vs => vs
  | _ => []
def colOf (r : PyData) (d : PyData) : PyData := (vals r).getD (nmOf d) .none
theorem nm_lt {d : PyData} (h : okNm d) : nmOf d < 3 := by
  rcases h with ⟨_, k⟩ | ⟨_, k⟩ | ⟨_, k⟩ <;> omega
def mWorth : PM := fun ds R => ∃ r d, ds = [schD, r, d] ∧ row3 r ∧ okNm d ∧ R (colOf r d)
theorem worth_ok (ds : List PyData) (R : PyData → Prop) (h : mWorth ds R) : b_worth_at mPlace (eR R) (ds.map SV.d ++ bl (3 - ds.length)) := by
  obtain ⟨r, d, rfl, ⟨a, b, c, rfl, h1⟩, hd, hR⟩ := h
  have lt := nm_lt hd
  walk_at "dl"
  refine ⟨d, rfl, hd, ?_⟩
  have e : atI [a, b, c] ((nmOf d : Nat) : Int) = some (colOf (.tuple [a, b, c]) d) := by
    rw [atI_nat (show nmOf d < [a, b, c].length from lt)]
    unfold colOf
    rw [List.getD_eq_getElem?_getD, show vals (.tuple [a, b, c]) = [a, b, c] from rfl, List.getElem?_eq_getElem (show nmOf d < [a, b, c].length from lt)]; rfl
  walk_at "dl"
  rw [e]
  exact hR
def mPart : PM := fun ds R => ∃ r ns, ds = [schD, r, .tuple ns] ∧ row3 r ∧ ns.length ≤ 3 ∧ (∀ d ∈ ns, okNm d) ∧ R (.tuple (ns.map (colOf r)))
theorem part_ok (ds : List PyData) (R : PyData → Prop) (h : mPart ds R) : b_part_of mWorth (eR R) (ds.map SV.d ++ bl (4 - ds.length)) := by
  obtain ⟨r, ns, rfl, hr, hl, hn, hR⟩ := h
  walk_at "dl"
  refine lc_map (fun Γ => Γ = [.d schD, .d r, .d (.tuple ns), .no]) okNm (colOf r) (fun x Γ R hx hI k => ?_) ns [] _ _ hn rfl (by rw [List.length_nil]; omega) fun Γ' hI => ?_
  · subst hI
    walk_at "dl"
    exact ⟨r, x, rfl, hr, hx, k _ rfl⟩
  · subst hI
    exact hR
/-- an entry -/
def ent (ns : List PyData) (r : PyData) : PyData := .tuple (ns.map (colOf r) ++ vals r)
theorem col_any {r d : PyData} (hr : row3 r) (hd : okNm d) : anyV (colOf r d) := by
  obtain ⟨a, b, c, rfl, h1, h2, h3⟩ := hr
  unfold colOf
  rcases hd with ⟨_, k⟩ | ⟨_, k⟩ | ⟨_, k⟩ <;> (rw [k]; assumption)
theorem ent_long {ns : List PyData} {r : PyData} (hr : row3 r) (hl : ns.length ≤ 3) (hn : ∀ d ∈ ns, okNm d) : longV (ns.length + 3) (ent ns r) := by
  obtain ⟨a, b, c, rfl, h1, h2, h3⟩ := id hr
  refine ⟨_, rfl, by simp [vals], by simp [vals]; omega, app_mem (fun v hv => ?_) fun v hv => ?_⟩
  · obtain ⟨d, hd, rfl⟩ := List.mem_map.mp hv
    exact col_any hr (hn d hd)
  · simp only [vals, List.mem_cons, List.not_mem_nil, or_false] at hv
    rcases hv with rfl | rfl | rfl <;> assumption
theorem long_mono {n m : Nat} {d : PyData} (h : longV m d) (hn : n ≤ m) : longV n d := by
  obtain ⟨vs, e, h1, h2⟩ := h
  exact ⟨vs, e, by omega, h2⟩
theorem ent_V {ns : List PyData} {r : PyData} (hr : row3 r) (hl : ns.length ≤ 3) (hn : ∀ d ∈ ns, okNm d) : rowV (ent ns r) := long_V (long_mono (ent_long hr hl hn) (by omega : 1 ≤ ns.length + 3)) (by omega)
def mIndex : PM := fun ds R => ∃ rows ns, ds = [.tuple [schD, .tuple [], .tuple rows], .tuple ns] ∧ rows.length ≤ 100 ∧ (∀ r ∈ rows, row3 r) ∧ ns.length ≤ 3 ∧ (∀ d ∈ ns, okNm d) ∧ R (.tuple (srt rk (rows.map (ent ns))))
theorem ix_loop (E : DEnds) (x0 x1 x3 x4 x6 : SV) : ∀ (ns : List PyData) (x5 : SV), (∀ d ∈ ns, okNm d) → pl x5 → (∀ x5, pl x5 → E.nx [x0, x1, .d schD, x3, x4, x5, x6]) → loopW (.nm 5) (L_index_of_1 mPlace mSrt mPart) E ns [x0, x1, .d schD, x3, x4, x5, x6]
  | [], x5, _, h5, h => by unfold loopW; exact h x5 h5
  | d :: ns, x5, hn, h5, h => by
    unfold loopW
    walk_at "dl"
    exact ⟨d, rfl, hn d List.mem_cons_self, ix_loop E x0 x1 x3 x4 x6 ns (.d d) (fun e he => hn e (List.mem_cons_of_mem _ he)) pl_d h⟩
theorem index_ok (ds : List PyData) (R : PyData → Prop) (h : mIndex ds R) : b_index_of mPlace mSrt mPart (eR R) (ds.map SV.d ++ bl (7 - ds.length)) := by
  obtain ⟨rows, ns, rfl, hl, hr, hnl, hn, hR⟩ := h
  walk_at "dl"
  refine ix_loop _ _ _ _ _ _ ns .no hn pl_no fun x5 h5 => ?_
  walk_at "dl"
  refine lc_map (fun Γ => Γ = [.d (.tuple [schD, .tuple [], .tuple rows]), .d (.tuple ns), .d schD, .d (.tuple []), .d (.tuple rows), x5, .no]) row3 (ent ns) (fun x Γ R hx hI k => ?_) rows [] _ _ hr rfl (by rw [List.length_nil]; omega) fun Γ' hI => ?_
  · subst hI
    obtain ⟨a, b, c, rfl, h1⟩ := id hx
    walk_at "dl"
    refine ⟨_, ns, rfl, hx, hnl, hn, ?_⟩
    walk_at "dl"
    exact ⟨by rw [List.length_map]; show _ + 3 ≤ 16777216; omega, k _ rfl⟩
  · subst hI
    rw [List.nil_append]
    walk_at "dl"
    exact ⟨rows.map (ent ns), rfl, fun r m => by
      obtain ⟨q, hq, rfl⟩ := List.mem_map.mp m
      exact ent_V (hr q hq) hnl hn, hR⟩
end Lk41
set_option Elab.async false
set_option linter.all false
set_option maxRecDepth 100000
set_option maxHeartbeats 4000000
local macro_rules | `(tactic| walk_at "dl.s") => `(tactic| first | exact DL.shaped_int | exact DL.shaped_bool | exact DL.shaped_non | assumption | (with_reducible decide) | omega | exact DL.cmulw 64 64 (by omega) (by omega) (by decide) | exact DL.cdivw (by omega) (by omega) | exact DL.cmulw 64 64 (by decide) (by decide) (by decide) | exact DL.cpow (by decide) (by decide) (by decide) | exact rfl | exact Nat.le_of_ble_eq_true rfl | fail)
local macro_rules | `(tactic| walk_at "dl") => `(tactic| ((conv => whnf); repeat' (first | (refine And.intro (by walk_at "dl.s") ?_; conv => whnf) | (refine DL.condP_tt (by rfl) ?_; conv => whnf) | (refine DL.condP_ff (by rfl) ?_; conv => whnf) | (refine DL.free_pl (by assumption) ?_; conv => whnf) | (refine DL.plainS_pl (by assumption) ?_; conv => whnf) | fail)))
local macro_rules | `(tactic| walk_at "dl.if") => `(tactic| (refine DL.condP_by (fun h => ?_) (fun h => ?_) <;> (try simp only [DL.eqv_int, DL.eqv_str, DL.eqv_bool, DL.Cp.i, beq_iff_eq, decide_eq_true_eq, decide_eq_false_iff_not, beq_eq_false_iff_ne, List.length_map, ne_eq, Bool.not_eq_true', Bool.not_eq_false', Int.reduceToNat, Int.reducePow] at h)))
namespace Lk41
open PySem PySem.Spec PyProof.Rows L2 DL
/-- an index in order -/
structure IX (m : Nat) (L : List PyData) : Prop where
  lg : ∀ e ∈ L, longV m e
  so : L.Pairwise fun a b => leR a b = true
  n14 : L.length ≤ 14
  m6 : m ≤ 6
def lowOk (m : Nat) (d : PyData) : Prop := ∃ vs, d = .tuple vs ∧ 1 ≤ vs.length ∧ vs.length ≤ m ∧ ∀ v ∈ vs, anyV v
def wid (d : PyData) : Nat := (vals d).length
theorem low_V {m : Nat} {d : PyData} (h : lowOk m d) (hm : m ≤ 6) : rowV d := by
  obtain ⟨vs, rfl, h1, h2, h3⟩ := h
  match vs, h1, h2, h3 with
  | v :: vs, _, h2, h3 => exact ⟨v, vs, rfl, by simp at h2; omega, h3⟩
/-- ahead of -/
def pLt (low e : PyData) : Bool := !leR low (pre (wid low) e)
def pLe (low e : PyData) : Bool := leR (pre (wid low) e) low
theorem pre_le {m : Nat} {L : List PyData} (I : IX m L) {low : PyData} (h : lowOk m low) : L.Pairwise fun a b => leR (pre (wid low) a) (pre (wid low) b) = true := by
  obtain ⟨vs, rfl, h1, h2, h3⟩ := h
  exact I.so.imp_of_mem fun {a b} ha hb q => le_pre h1 (long_mono (I.lg a ha) h2) (long_mono (I.lg b hb) h2) q
theorem ini_lt {m : Nat} {L : List PyData} (I : IX m L) {low : PyData} (h : lowOk m low) : Ini (pLt low) L := by
  refine (pre_le I h).imp fun {a b} q hb => ?_
  unfold pLt at *
  cases w : leR low (pre (wid low) a) with
  | false => rfl
  | true => rw [leR_tot.trans _ _ _ w q] at hb; cases hb
theorem ini_le {m : Nat} {L : List PyData} (I : IX m L) {low : PyData} (h : lowOk m low) : Ini (pLe low) L := by
  refine (pre_le I h).imp fun {a b} q hb => ?_
  unfold pLe at *
  exact leR_tot.trans _ _ _ q hb
theorem pre_row {m : Nat} {L : List PyData} (I : IX m L) {low : PyData} (h : lowOk m low) {e : PyData} (he : e ∈ L) : rowV (pre (wid low) e) := by
  obtain ⟨vs, rfl, h1, h2, h3⟩ := h
  exact pre_V (long_mono (I.lg e he) h2) h1
def mFirst : PM := fun ds R => ∃ m L low, ds = [.tuple L, .int (m : Nat), low] ∧ IX m L ∧ lowOk m low ∧ ∀ k : Nat, k ≤ blen L.length → min 1 L.length ≤ k → R (.tuple [.int (L.countP (pLt low) : Nat), .int (k : Nat)])
/-- the entry in the middle, its key ahead -/
theorem mid_key {m : Nat} {L : List PyData} (I : IX m L) {vs : List PyData} (h : lowOk m (.tuple vs)) {i : Nat} (hi : i < L.length) : ∃ ws, atI L (i : Int) = some (.tuple ws) ∧ L[i] = .tuple ws ∧ DL.cutD ws none (some ((vs.map kv).length : Nat)) = ws.take vs.length ∧ (ws.take vs.length).length ≤ 100 ∧ (∀ v ∈ ws.take vs.length, anyV v) ∧ rk (pre vs.length (.tuple ws)) = .tuple ((ws.take vs.length).map kv) := by
  obtain ⟨ws, e, h1, h2, h3⟩ := I.lg _ (List.getElem_mem hi)
  obtain ⟨_, e2, h4, h5, h6⟩ := h
  cases e2
  refine ⟨ws, by rw [atI_nat hi, e], e, by rw [List.length_map, cutD_lo _ _ (by omega)], by rw [List.length_take]; omega, fun v hv => h3 v (List.mem_of_mem_take hv), rfl⟩
theorem first_loop (R : PyData → Prop) (m : Nat) (L : List PyData) (vs : List PyData) (I : IX m L) (h : lowOk m (.tuple vs)) (hR : ∀ k : Nat, k ≤ blen L.length → min 1 L.length ≤ k → R (.tuple [.int (L.countP (pLt (.tuple vs)) : Nat), .int (k : Nat)])) : ∀ (n lo hi k : Nat) (x : SV), hi - lo ≤ n → lo ≤ L.countP (pLt (.tuple vs)) → L.countP (pLt (.tuple vs)) ≤ hi → hi ≤ L.length → k + blen (hi - lo) ≤ blen L.length → (1 ≤ k ∨ hi - lo = L.length) → pl x →
    whileW (tCmp2 (fOrdr .lt) (tName 3) (tName 4)) (L_first_place_1 mRow) { eR R with nx := b_first_place_4 mRow (eR R) } (n + 1) [.d (.tuple L), .d (.int (m : Nat)), .d (.tuple vs), .d (.int (lo : Nat)), .d (.int (hi : Nat)), .d (.int (k : Nat)), .d (.tuple (vs.map kv)), x]
  | n, lo, hi, k, x, hn, h1, h2, h3, h4, h5, hx => by
    rw [whileW_s]
    walk_at "dl"
    refine condP_by (fun a => ?_) (fun a => ?_)
    · simp only [Cp.i, decide_eq_true_eq] at a
      have hlt : lo < hi := by omega
      have mi : ((lo : Int) + (hi : Int)) / 2 = (((lo + hi) / 2 : Nat) : Int) := by omega
      generalize hm : (lo + hi) / 2 = mid at *
      have m1 : lo ≤ mid := by omega
      have m2 : mid < hi := by omega
      have hml : mid < L.length := by omega
      obtain ⟨ws, e1, e2, e3, e4, e5, e6⟩ := mid_key I h hml
      have pv := pre_row I h (List.getElem_mem hml)
      have lv := low_V h I.m6
      have sk := sameK_rk pv lv
      have dp := dep_rk pv
      have lt := lt_rk pv lv
      rw [e2] at pv sk dp lt
      rw [show wid (.tuple vs) = vs.length from rfl, e6, show rk (.tuple vs) = .tuple (vs.map kv) from rfl] at sk lt
      rw [show wid (.tuple vs) = vs.length from rfl, e6] at dp
      have it := ini_take (ini_lt I h) mid hml
      rw [e2] at it
      have it2 : (!leR (.tuple vs) (pre vs.length (.tuple ws))) = decide (mid < L.countP (pLt (.tuple vs))) := it
      rw [it2] at lt
      cases n with
      | zero => omega
      | succ n =>
        have go1 := fun x (_ : lo ≤ L.countP (pLt (.tuple vs))) => first_loop R m L vs I h hR n (mid + 1) hi (k + 1) x (by omega)
        have go2 := fun x (h1 : lo ≤ L.countP (pLt (.tuple vs))) => first_loop R m L vs I h hR n lo mid (k + 1) x (by omega) h1
        have n14 := I.n14
        walk_at "dl"
        rw [mi]
        walk_at "dl"
        rw [e1]
        walk_at "dl"
        rw [e3]
        refine ⟨_, rfl, e4, e5, ?_⟩
        walk_at "dl"
        rw [lt]
        refine condP_by (fun b => ?_) (fun b => ?_)
        · simp only [decide_eq_true_eq] at b
          have hb := blen_half (s := hi - lo) (t := hi - (mid + 1)) (by omega) (by omega) (by omega)
          have g := go1 (.d (.int mid)) h1 (by omega) h2 h3 (by omega) (.inl (by omega)) pl_d
          rw [show ((mid + 1 : Nat) : Int) = (mid : Int) + 1 from by omega, show ((k + 1 : Nat) : Int) = (k : Int) + 1 from by omega, ← mi] at g
          walk_at "dl"
          exact g
        · simp only [decide_eq_false_iff_not] at b
          have hb := blen_half (s := hi - lo) (t := mid - lo) (by omega) (by omega) (by omega)
          have g := go2 (.d (.int mid)) h1 (by omega) (by omega) (by omega) (.inl (by omega)) pl_d
          rw [show ((k + 1 : Nat) : Int) = (k : Int) + 1 from by omega, ← mi] at g
          walk_at "dl"
          exact g
    · simp only [Cp.i, decide_eq_false_iff_not] at a
      have e : lo = L.countP (pLt (.tuple vs)) := by omega
      have z : hi - lo = 0 := by omega
      walk_at "dl"
      have := hR k (by rw [z] at h4; simp [blen] at h4; exact h4) (by omega)
      rw [← e] at this
      exact this
theorem first_ok (ds : List PyData) (R : PyData → Prop) (h : mFirst ds R) : b_first_place mRow (eR R) (ds.map SV.d ++ bl (8 - ds.length)) := by
  obtain ⟨m, L, low, rfl, I, hl, hR⟩ := h
  obtain ⟨vs, rfl, v1, v2, v3⟩ := id hl
  have cut : DL.cutD vs none (some (m : Int)) = vs := by
    unfold DL.cutD
    rw [HT.sIx_none, HT.sIx_nat]
    rw [show min m vs.length = vs.length from by omega]
    simp
  walk_at "dl"
  rw [cut]
  refine ⟨vs, rfl, by have := I.m6; omega, v3, ?_⟩
  walk_at "dl"
  exact ⟨_, first_loop R m L vs I hl hR L.length 0 L.length 0 .no (by omega) (by omega) (List.countP_le_length) (by omega) (by simp) (.inr rfl) pl_no⟩
def mBehind : PM := fun ds R => ∃ m L low, ds = [.tuple L, .int (m : Nat), low] ∧ IX m L ∧ lowOk m low ∧ R (.int (L.countP (pLe low) : Nat))
theorem behind_loop (R : PyData → Prop) (m : Nat) (L : List PyData) (vs : List PyData) (I : IX m L) (h : lowOk m (.tuple vs)) (hR : R (.int (L.countP (pLe (.tuple vs)) : Nat))) : ∀ (n lo hi : Nat) (x : SV), hi - lo ≤ n → lo ≤ L.countP (pLe (.tuple vs)) → L.countP (pLe (.tuple vs)) ≤ hi → hi ≤ L.length → pl x →
    whileW (tCmp2 (fOrdr .lt) (tName 3) (tName 4)) (L_behind_place_1 mRow) { eR R with nx := b_behind_place_4 mRow (eR R) } (n + 1) [.d (.tuple L), .d (.int (m : Nat)), .d (.tuple vs), .d (.int (lo : Nat)), .d (.int (hi : Nat)), .d (.tuple (vs.map kv)), x]
  | n, lo, hi, x, hn, h1, h2, h3, hx => by
    rw [whileW_s]
    walk_at "dl"
    refine condP_by (fun a => ?_) (fun a => ?_)
    · simp only [Cp.i, decide_eq_true_eq] at a
      have hlt : lo < hi := by omega
      have mi : ((lo : Int) + (hi : Int)) / 2 = (((lo + hi) / 2 : Nat) : Int) := by omega
      generalize hm : (lo + hi) / 2 = mid at *
      have m1 : lo ≤ mid := by omega
      have m2 : mid < hi := by omega
      have hml : mid < L.length := by omega
      obtain ⟨ws, e1, e2, e3, e4, e5, e6⟩ := mid_key I h hml
      have pv := pre_row I h (List.getElem_mem hml)
      have lv := low_V h I.m6
      have sk := sameK_rk pv lv
      have dp := dep_rk pv
      have lt := le_rk pv lv
      rw [e2] at pv sk dp lt
      rw [show wid (.tuple vs) = vs.length from rfl, e6, show rk (.tuple vs) = .tuple (vs.map kv) from rfl] at sk lt
      rw [show wid (.tuple vs) = vs.length from rfl, e6] at dp
      have it := ini_take (ini_le I h) mid hml
      rw [e2] at it
      have it2 : leR (pre vs.length (.tuple ws)) (.tuple vs) = decide (mid < L.countP (pLe (.tuple vs))) := it
      rw [it2] at lt
      cases n with
      | zero => omega
      | succ n =>
        have go1 := fun x => behind_loop R m L vs I h hR n (mid + 1) hi x (by omega)
        have go2 := fun x => behind_loop R m L vs I h hR n lo mid x (by omega) h1
        have n14 := I.n14
        walk_at "dl"
        rw [mi]
        walk_at "dl"
        rw [e1]
        walk_at "dl"
        rw [e3]
        refine ⟨_, rfl, e4, e5, ?_⟩
        walk_at "dl"
        rw [lt]
        refine condP_by (fun b => ?_) (fun b => ?_)
        · simp only [decide_eq_true_eq] at b
          have g := go1 (.d (.int mid)) (by omega) h2 h3 pl_d
          rw [show ((mid + 1 : Nat) : Int) = (mid : Int) + 1 from by omega, ← mi] at g
          walk_at "dl"
          exact g
        · simp only [decide_eq_false_iff_not] at b
          have g := go2 (.d (.int mid)) (by omega) (by omega) pl_d
          rw [← mi] at g
          walk_at "dl"
          exact g
    · simp only [Cp.i, decide_eq_false_iff_not] at a
      have e : lo = L.countP (pLe (.tuple vs)) := by omega
      walk_at "dl"
      rw [← e] at hR
      exact hR
theorem behind_ok (ds : List PyData) (R : PyData → Prop) (h : mBehind ds R) : b_behind_place mRow (eR R) (ds.map SV.d ++ bl (7 - ds.length)) := by
  obtain ⟨m, L, low, rfl, I, hl, hR⟩ := h
  obtain ⟨vs, rfl, v1, v2, v3⟩ := id hl
  have cut : DL.cutD vs none (some (m : Int)) = vs := by
    unfold DL.cutD
    rw [HT.sIx_none, HT.sIx_nat]
    rw [show min m vs.length = vs.length from by omega]
    simp
  walk_at "dl"
  rw [cut]
  refine ⟨vs, rfl, by have := I.m6; omega, v3, ?_⟩
  walk_at "dl"
  exact ⟨_, behind_loop R m L vs I hl hR L.length 0 L.length .no (by omega) (by omega) (List.countP_le_length) (by omega) pl_no⟩
end Lk41
set_option Elab.async false
set_option linter.all false
set_option maxRecDepth 100000
set_option maxHeartbeats 4000000
local macro_rules | `(tactic| walk_at "dl.s") => `(tactic| first | exact DL.shaped_int | exact DL.shaped_bool | exact DL.shaped_non | assumption | (with_reducible decide) | omega | exact DL.cmulw 64 64 (by omega) (by omega) (by decide) | exact DL.cdivw (by omega) (by omega) | exact DL.cmulw 64 64 (by decide) (by decide) (by decide) | exact DL.cpow (by decide) (by decide) (by decide) | exact rfl | exact Nat.le_of_ble_eq_true rfl | fail)
local macro_rules | `(tactic| walk_at "dl") => `(tactic| ((conv => whnf); repeat' (first | (refine And.intro (by walk_at "dl.s") ?_; conv => whnf) | (refine DL.condP_tt (by rfl) ?_; conv => whnf) | (refine DL.condP_ff (by rfl) ?_; conv => whnf) | (refine DL.free_pl (by assumption) ?_; conv => whnf) | (refine DL.plainS_pl (by assumption) ?_; conv => whnf) | fail)))
local macro_rules | `(tactic| walk_at "dl.if") => `(tactic| (refine DL.condP_by (fun h => ?_) (fun h => ?_) <;> (try simp only [DL.eqv_int, DL.eqv_str, DL.eqv_bool, DL.Cp.i, beq_iff_eq, decide_eq_true_eq, decide_eq_false_iff_not, beq_eq_false_iff_ne, List.length_map, ne_eq, Bool.not_eq_true', Bool.not_eq_false', Int.reduceToNat, Int.reducePow] at h)))
namespace Lk41
open PySem PySem.Spec PyProof.Rows L2 DL
theorem rows_ok (cs ds : List PyData) (R : PyData → List PyData → Prop) (h : mRows cs ds R) : b__law_rows mNext (eI R) (.c true (.lst cs) :: (ds.map SV.d ++ bl (4 - ds.length - 1))) := DL.rows_ok cs ds R h
theorem pw_all {α : Type} {R : α → α → Prop} (h : ∀ a b, R a b) : ∀ L : List α, L.Pairwise R
  | [] => List.Pairwise.nil
  | x :: L => List.pairwise_cons.mpr ⟨fun y _ => h x y, pw_all h L⟩
/-- one bound, or none -/
def bnd (m : Nat) (d : PyData) : Prop := d = .none ∨ lowOk m d
def isN : PyData → Bool
  | .none => true
  | _ => false
def above (low e : PyData) : Bool := isN low || !pLt low e
def below (high e : PyData) : Bool := isN high || pLe high e
def rest (m : Nat) : PyData → PyData
  | .tuple vs => .tuple (vs.drop m)
  | _ => .none
def btw (m : Nat) (L : List PyData) (low high : PyData) : List PyData := (L.filter fun e => above low e && below high e).map (rest m)
def fstN (L : List PyData) (low : PyData) : Nat := if isN low then 0 else L.countP (pLt low)
def lstN (L : List PyData) (high : PyData) : Nat := if isN high then L.length else L.countP (pLe high)
theorem low_n {m : Nat} {d : PyData} (h : lowOk m d) : isN d = false := by obtain ⟨vs, rfl, _⟩ := h; rfl
theorem btw_eq {m : Nat} {L : List PyData} (I : IX m L) {low high : PyData} (h1 : bnd m low) (h2 : bnd m high) : L.filter (fun e => above low e && below high e) = (L.take (lstN L high)).drop (fstN L low) := by
  have ip : Ini (fun e => !above low e) L := by
    rcases h1 with rfl | h1
    · exact pw_all (fun a b q => by simp [above, isN] at q) L
    · have := ini_lt I h1
      unfold above
      rw [low_n h1]
      simp only [Bool.false_or, Bool.not_not]
      exact this
  have iq : Ini (below high) L := by
    rcases h2 with rfl | h2
    · exact pw_all (fun a b q => rfl) L
    · have := ini_le I h2
      unfold below
      rw [low_n h2]
      simp only [Bool.false_or]
      exact this
  have := ini_between ip iq
  have e1 : L.countP (below high) = lstN L high := by
    rcases h2 with rfl | h2
    · unfold lstN; rw [if_pos (show isN .none = true from rfl)]; exact List.countP_eq_length.mpr fun a _ => rfl
    · unfold lstN below; rw [low_n h2]; simp
  have e2 : L.countP (fun e => !above low e) = fstN L low := by
    rcases h1 with rfl | h1
    · unfold fstN; rw [if_pos (show isN .none = true from rfl)]; exact List.countP_eq_zero.mpr fun a _ => by simp [above, isN]
    · unfold fstN above; rw [low_n h1]; simp
  rw [e1, e2] at this
  rw [← this]
  simp
def mFrom : PM := fun ds R => ∃ m L low high, ds = [.tuple L, .int (m : Nat), low, high] ∧ IX m L ∧ bnd m low ∧ bnd m high ∧ R (.tuple (btw m L low high))
theorem cut_ab {L : List PyData} {a b : Nat} (h : a ≤ L.length) (h2 : b ≤ L.length) : DL.cutD L (some (a : Int)) (some (b : Int)) = (L.take b).drop a := by
  unfold DL.cutD
  rw [HT.sIx_nat, HT.sIx_nat, Nat.min_eq_left h, Nat.min_eq_left h2, List.drop_take]
theorem fst_le (L : List PyData) (low : PyData) : fstN L low ≤ L.length := by
  unfold fstN; split
  · omega
  · exact List.countP_le_length
theorem lst_le (L : List PyData) (low : PyData) : lstN L low ≤ L.length := by
  unfold lstN; split
  · omega
  · exact List.countP_le_length
theorem from_tail (R : PyData → Prop) (m : Nat) (L : List PyData) (low high : PyData) (I : IX m L) (h1 : bnd m low) (h2 : bnd m high) (hR : R (.tuple (btw m L low high))) : b_rows_from_3 mFirst mBehind (eR R) [.d (.tuple L), .d (.int (m : Nat)), .d low, .d high, .d (.int (fstN L low : Nat)), .d (.int (lstN L high : Nat)), .no] := by
  have n14 := I.n14
  walk_at "dl"
  rw [cut_ab (fst_le L low) (lst_le L high), ← btw_eq I h1 h2]
  refine lc_map (fun Γ => Γ = [.d (.tuple L), .d (.int (m : Nat)), .d low, .d high, .d (.int (fstN L low : Nat)), .d (.int (lstN L high : Nat)), .no]) (longV m) (rest m) (fun x Γ R hx hI k => ?_) _ [] _ _ (fun x hx => I.lg x ((List.mem_filter.mp hx).1)) rfl (by have := List.length_filter_le (fun e => above low e && below high e) L; rw [List.length_nil]; omega) fun Γ' hI => ?_
  · subst hI
    obtain ⟨vs, rfl, v1, v2, v3⟩ := hx
    walk_at "dl"
    rw [cutD_hi _ _ v1]
    exact k _ rfl
  · subst hI
    exact hR
theorem from_ok (ds : List PyData) (R : PyData → Prop) (h : mFrom ds R) : b_rows_from mFirst mBehind (eR R) (ds.map SV.d ++ bl (7 - ds.length)) := by
  obtain ⟨m, L, low, high, rfl, I, h1, h2, hR⟩ := h
  have two : b_rows_from_t2 mFirst mBehind (eR R) [.d (.tuple L), .d (.int (m : Nat)), .d low, .d high, .d (.int (fstN L low : Nat)), .no, .no] := by
    have fin := from_tail R m L low high I h1 h2 hR
    rcases id h2 with rfl | h2
    · walk_at "dl"
      exact fin
    · have e := low_n h2
      have e2 : lstN L high = L.countP (pLe high) := by unfold lstN; rw [e]; rfl
      rw [e2] at fin
      obtain ⟨vs, rfl, _⟩ := id h2
      walk_at "dl"
      exact ⟨m, L, _, rfl, I, h2, fin⟩
  rcases id h1 with rfl | h1
  · conv => whnf
    refine condP_tt (by rfl) ?_
    exact two
  · have e := low_n h1
    have e2 : fstN L low = L.countP (pLt low) := by unfold fstN; rw [e]; rfl
    rw [e2] at two
    obtain ⟨vs, rfl, _⟩ := id h1
    walk_at "dl"
    exact ⟨m, L, _, rfl, I, h1, fun k _ _ => two⟩
def mSameR : PM := fun ds R => ∃ m L low, ds = [.tuple L, .int (m : Nat), low] ∧ IX m L ∧ lowOk m low ∧ R (.tuple (btw m L low low))
theorem sameR_ok (ds : List PyData) (R : PyData → Prop) (h : mSameR ds R) : b_rows_same mFrom (eR R) (ds.map SV.d ++ bl (3 - ds.length)) := by
  obtain ⟨m, L, low, rfl, I, h1, hR⟩ := h
  walk_at "dl"
  exact ⟨m, L, low, low, rfl, I, .inr h1, .inr h1, hR⟩
/-- so many are ahead, so many alike -/
theorem le_lt {m : Nat} {L : List PyData} (I : IX m L) {low : PyData} (h : lowOk m low) : L.countP (pLe low) = L.countP (pLt low) + (btw m L low low).length := by
  have e := btw_eq I (.inr h) (.inr h)
  have el : (btw m L low low).length = ((L.take (lstN L low)).drop (fstN L low)).length := by unfold btw; rw [List.length_map, e]
  rw [el, List.length_drop, List.length_take]
  have e1 : lstN L low = L.countP (pLe low) := by unfold lstN; rw [low_n h]; rfl
  have e2 : fstN L low = L.countP (pLt low) := by unfold fstN; rw [low_n h]; rfl
  have l1 := List.countP_le_length (p := pLe low) (l := L)
  have l2 : L.countP (pLt low) ≤ L.countP (pLe low) := List.countP_mono_left fun x hx q => by
    unfold pLt at q
    unfold pLe
    rcases leR_tot.total low (pre (wid low) x) with z | z
    · rw [z] at q; cases q
    · exact z
  rw [e1, e2]
  omega
end Lk41
set_option Elab.async false
set_option linter.all false
set_option maxRecDepth 100000
set_option maxHeartbeats 4000000
local macro_rules | `(tactic| walk_at "dl.s") => `(tactic| first | exact DL.shaped_int | exact DL.shaped_bool | exact DL.shaped_non | assumption | (with_reducible decide) | omega | exact DL.cmulw 64 64 (by omega) (by omega) (by decide) | exact DL.cdivw (by omega) (by omega) | exact DL.cmulw 64 64 (by decide) (by decide) (by decide) | exact DL.cpow (by decide) (by decide) (by decide) | exact rfl | exact Nat.le_of_ble_eq_true rfl | fail)
local macro_rules | `(tactic| walk_at "dl") => `(tactic| ((conv => whnf); repeat' (first | (refine And.intro (by walk_at "dl.s") ?_; conv => whnf) | (refine DL.condP_tt (by rfl) ?_; conv => whnf) | (refine DL.condP_ff (by rfl) ?_; conv => whnf) | (refine DL.free_pl (by assumption) ?_; conv => whnf) | (refine DL.plainS_pl (by assumption) ?_; conv => whnf) | (refine DL.free_np (by assumption) ?_; conv => whnf) | fail)))
local macro_rules | `(tactic| walk_at "dl.if") => `(tactic| (refine DL.condP_by (fun h => ?_) (fun h => ?_) <;> (try simp only [DL.eqv_int, DL.eqv_str, DL.eqv_bool, DL.Cp.i, beq_iff_eq, decide_eq_true_eq, decide_eq_false_iff_not, beq_eq_false_iff_ne, List.length_map, ne_eq, Bool.not_eq_true', Bool.not_eq_false', Int.reduceToNat, Int.reducePow] at h)))
namespace Lk41
open PySem PySem.Spec PyProof.Rows L2 DL
abbrev ML (f : IM → PM → IM → PM → PM → PM → PM → PM → PM → PM → DS) : DS := f mNext mSrt mRows mIndex (mSame 2) mRow mFrom mFirst mBehind mSameR
abbrev fin : DEnds := eR fun d => d = .bool true
def nmL : List PyData := [.str (Str.ofString "n"), .str (Str.ofString "s"), .str (Str.ofString "c")]
/-- what stands: the frame -/
abbrev F (cs ns rs ix : List PyData) (x5 x10 x11 x12 x13 x14 x15 x16 x17 x18 x19 x20 x21 x22 x23 x24 x25 x26 x27 : SV) : Fm :=
  [.no, .c false (.lst cs), .d schD, .c false (.lst nmL), .d (.tuple ns), x5, .d (.int (ns.length : Nat)), .d (.tuple rs), .d (.tuple ix), .d (.tuple ix), x10, x11, x12, x13, x14, x15, x16, x17, x18, x19, x20, x21, x22, x23, x24, x25, x26, x27]
theorem dict3 (x y z : PyData) {d : PyData} (h : okNm d) (k : PyData → Prop) (hx : k x) (hy : k y) (hz : k z) : keyP d fun q => optD (getD' (mergeD [] [(.inr (Str.ofString "n"), x), (.inr (Str.ofString "s"), y), (.inr (Str.ofString "c"), z)]) q) k := by
  have n1 : (Str.ofString "n" = Str.ofString "s") = False := by simp only [eq_iff_iff, iff_false]; decide +kernel
  have n2 : (Str.ofString "n" = Str.ofString "c") = False := by simp only [eq_iff_iff, iff_false]; decide +kernel
  have n3 : (Str.ofString "s" = Str.ofString "c") = False := by simp only [eq_iff_iff, iff_false]; decide +kernel
  have e : mergeD [] [(.inr (Str.ofString "n"), x), (.inr (Str.ofString "s"), y), (.inr (Str.ofString "c"), z)] = [(.inr (Str.ofString "n"), x), (.inr (Str.ofString "s"), y), (.inr (Str.ofString "c"), z)] := by
    unfold mergeD
    simp [putD, Sum.inr.injEq, n1, n2, n3]
  rw [e]
  have n4 : (Str.ofString "s" = Str.ofString "n") = False := by simp only [eq_iff_iff, iff_false]; decide +kernel
  have n5 : (Str.ofString "c" = Str.ofString "n") = False := by simp only [eq_iff_iff, iff_false]; decide +kernel
  have n6 : (Str.ofString "c" = Str.ofString "s") = False := by simp only [eq_iff_iff, iff_false]; decide +kernel
  rcases h with ⟨rfl, _⟩ | ⟨rfl, _⟩ | ⟨rfl, _⟩
  · show optD (getD' _ (.inr (Str.ofString "n"))) k
    unfold getD'
    simp [optD]; exact hx
  · show optD (getD' _ (.inr (Str.ofString "s"))) k
    unfold getD'
    simp [optD, n1]; exact hy
  · show optD (getD' _ (.inr (Str.ofString "c"))) k
    unfold getD'
    simp [optD, n2, n3]; exact hz
theorem txt4 {b : Int} (b0 : 0 ≤ b) (b1 : b < 4) : ∃ t : Str, atI [PyData.str (Str.ofString ""), .str (Str.ofString "a"), .str (Str.ofString "ab"), .str (Str.ofString "b")] b = some (.str t) ∧ anyV (.str t) := by
  have : b = 0 ∨ b = 1 ∨ b = 2 ∨ b = 3 := by omega
  rcases this with rfl | rfl | rfl | rfl <;> exact ⟨_, rfl, by decide +kernel, by decide +kernel⟩
theorem values_loop (E : DEnds) (ns rs ix : List PyData) (x5 x10 x12 x13 x14 x15 x16 x17 x19 x20 x21 x22 x23 x24 x25 x26 x27 : SV) : ∀ (ds acc cs : List PyData) (x11 : SV), St cs → (∀ d ∈ ds, okNm d) → (∀ v ∈ acc, anyV v) → acc.length + ds.length ≤ 10 → pl x11 →
    (∀ cs' acc' x11', St cs' → acc'.length = acc.length + ds.length → (∀ v ∈ acc', anyV v) → pl x11' → E.nx (F cs' ns rs ix x5 x10 x11' x12 x13 x14 x15 x16 x17 (.c false (.lst acc')) x19 x20 x21 x22 x23 x24 x25 x26 x27)) →
    loopW (.nm 11) (ML L_law_4) E ds (F cs ns rs ix x5 x10 x11 x12 x13 x14 x15 x16 x17 (.c false (.lst acc)) x19 x20 x21 x22 x23 x24 x25 x26 x27)
  | [], acc, cs, x11, hs, _, ha, _, h11, h => by unfold loopW; exact h cs acc x11 hs rfl ha h11
  | d :: ds, acc, cs, x11, hs, hd, ha, hl, h11, h => by
    rw [List.length_cons] at hl
    have hz : acc.length < 16777216 := by omega
    have ih := fun v cs' (hv : anyV v) (hs' : St cs') => values_loop E ns rs ix x5 x10 x12 x13 x14 x15 x16 x17 x19 x20 x21 x22 x23 x24 x25 x26 x27 ds (acc ++ [v]) cs' (.d d) hs' (fun e he => hd e (List.mem_cons_of_mem _ he)) (app_mem ha (one_mem hv)) (by rw [List.length_append]; show acc.length + 1 + ds.length ≤ 10; omega) pl_d (fun cs2 acc2 y hs2 hl2 => h cs2 acc2 y hs2 (by rw [hl2]; simp; omega))
    unfold loopW
    walk_at "dl"
    refine ⟨_, rfl, by decide, by decide, fun a cs1 a0 a1 hs1 => ?_⟩
    walk_at "dl"
    refine ⟨_, rfl, by decide, by decide, fun b cs2 b0 b1 hs2 => ?_⟩
    obtain ⟨t, et, at1⟩ := txt4 b0 b1
    walk_at "dl"
    rw [et]
    walk_at "dl"
    refine ⟨_, rfl, by decide, by decide, fun c cs3 c0 c1 hs3 => ?_⟩
    walk_at "dl"
    refine dict3 _ _ _ (hd d List.mem_cons_self) _ ?_ ?_ ?_
    · walk_at "dl"
      exact ih (.int (a - 3)) cs3 ⟨by omega, by omega⟩ hs3
    · walk_at "dl"
      exact ih (.str t) cs3 at1 hs3
    · walk_at "dl"
      exact ih (.bool _) cs3 trivial hs3
theorem sides_loop (E : DEnds) (ns rs ix : List PyData) (hn : ∀ d ∈ ns, okNm d) (hn1 : 1 ≤ ns.length) (hn3 : ns.length ≤ 3) (x5 x10 x12 x15 x16 x19 x20 x21 x22 x23 x24 x25 x26 x27 : SV) : ∀ (n i : Nat) (bs cs : List PyData) (x11 x14 x17 x18 : SV), St cs → (∀ b ∈ bs, bnd ns.length b) → bs.length + n ≤ 10 → pl x11 → pl x14 → np x17 → np x18 →
    (∀ bs' cs' x11' x14' x17' x18', St cs' → bs'.length = bs.length + n → (∀ b ∈ bs', bnd ns.length b) → pl x11' → pl x14' → np x17' → np x18' → E.nx (F cs' ns rs ix x5 x10 x11' x12 (.c false (.lst bs')) x14' x15 x16 x17' x18' x19 x20 x21 x22 x23 x24 x25 x26 x27)) →
    loopW (.nm 14) (ML L_law_5) E (rgl i n) (F cs ns rs ix x5 x10 x11 x12 (.c false (.lst bs)) x14 x15 x16 x17 x18 x19 x20 x21 x22 x23 x24 x25 x26 x27)
  | 0, i, bs, cs, x11, x14, x17, x18, hs, hb, _, h11, h14, h17, h18, h => by unfold rgl loopW; exact h bs cs x11 x14 x17 x18 hs rfl hb h11 h14 h17 h18
  | n + 1, i, bs, cs, x11, x14, x17, x18, hs, hb, hl, h11, h14, h17, h18, h => by
    have hz : bs.length < 16777216 := by omega
    have ih := fun b cs' y11 y17 y18 (hb' : bnd ns.length b) (hs' : St cs') (p11 : pl y11) (p17 : np y17) (p18 : np y18) => sides_loop E ns rs ix hn hn1 hn3 x5 x10 x12 x15 x16 x19 x20 x21 x22 x23 x24 x25 x26 x27 n (i + 1) (bs ++ [b]) cs' y11 (.d (.int i)) y17 y18 hs' (app_mem hb (one_mem hb')) (by rw [List.length_append]; show bs.length + 1 + n ≤ 10; omega) p11 pl_d p17 p18 (fun b2 c2 a1 a2 a3 a4 q1 q2 => h b2 c2 a1 a2 a3 a4 q1 (by rw [q2]; simp; omega))
    unfold rgl loopW
    walk_at "dl"
    refine ⟨_, rfl, by omega, by omega, fun a cs1 a0 a1 hs1 => ?_⟩
    walk_at "dl"
    rw [cutD_lo2 ns (1 + a) (by omega) (by omega)]
    refine values_loop _ ns rs ix x5 x10 x12 (.c false (.lst bs)) (.d (.int i)) x15 x16 _ x19 x20 x21 x22 x23 x24 x25 x26 x27 (ns.take (1 + a).toNat) [] cs1 x11 hs1 (fun d hd => hn d (List.mem_of_mem_take hd)) (fun v hv => by cases hv) (by rw [List.length_take, List.length_nil]; omega) h11 fun cs2 acc y11 hs2 hal ha p11 => ?_
    rw [List.length_nil, List.length_take] at hal
    walk_at "dl"
    refine ⟨_, rfl, by decide, by decide, fun c cs3 c0 c1 hs3 => ?_⟩
    walk_at "dl"
    refine condP_by (fun e => ?_) (fun e => ?_)
    · walk_at "dl"
      exact ih .none cs3 y11 _ _ (.inl rfl) hs3 p11 np_d np_f
    · walk_at "dl"
      exact ih (.tuple acc) cs3 y11 _ _ (.inr ⟨acc, rfl, by omega, by omega, ha⟩) hs3 p11 np_d np_f
end Lk41
set_option Elab.async false
set_option linter.all false
set_option maxRecDepth 100000
set_option maxHeartbeats 4000000
local macro_rules | `(tactic| walk_at "dl.s") => `(tactic| first | exact DL.shaped_int | exact DL.shaped_bool | exact DL.shaped_non | assumption | (with_reducible decide) | omega | exact DL.cmulw 64 64 (by omega) (by omega) (by decide) | exact DL.cdivw (by omega) (by omega) | exact DL.cmulw 64 64 (by decide) (by decide) (by decide) | exact DL.cpow (by decide) (by decide) (by decide) | exact rfl | exact Nat.le_of_ble_eq_true rfl | fail)
local macro_rules | `(tactic| walk_at "dl") => `(tactic| ((conv => whnf); repeat' (first | (refine And.intro (by walk_at "dl.s") ?_; conv => whnf) | (refine DL.condP_tt (by rfl) ?_; conv => whnf) | (refine DL.condP_ff (by rfl) ?_; conv => whnf) | (refine DL.free_pl (by assumption) ?_; conv => whnf) | (refine DL.plainS_pl (by assumption) ?_; conv => whnf) | (refine DL.free_np (by assumption) ?_; conv => whnf) | fail)))
local macro_rules | `(tactic| walk_at "dl.if") => `(tactic| (refine DL.condP_by (fun h => ?_) (fun h => ?_) <;> (try simp only [DL.eqv_int, DL.eqv_str, DL.eqv_bool, DL.Cp.i, beq_iff_eq, decide_eq_true_eq, decide_eq_false_iff_not, beq_eq_false_iff_ne, List.length_map, ne_eq, Bool.not_eq_true', Bool.not_eq_false', Int.reduceToNat, Int.reducePow] at h)))
namespace Lk41
open PySem PySem.Spec PyProof.Rows L2 DL
theorem low_mk {m : Nat} {d : PyData} (h : lowOk m d) (hm : m ≤ 6) : ∃ vs, d = .tuple vs ∧ vs.length ≤ 100 ∧ (∀ v ∈ vs, anyV v) ∧ 1 ≤ vs.length ∧ vs.length ≤ m := by
  obtain ⟨vs, rfl, h1, h2, h3⟩ := h
  exact ⟨vs, rfl, by omega, h3, h1, h2⟩
/-- an entry's key, cut -/
theorem ent_key {m : Nat} {L : List PyData} (I : IX m L) {vs : List PyData} (h : lowOk m (.tuple vs)) {e : PyData} (he : e ∈ L) : ∃ ws, e = .tuple ws ∧ DL.cutD ws none (some (vs.length : Nat)) = ws.take vs.length ∧ (ws.take vs.length).length ≤ 100 ∧ (∀ v ∈ ws.take vs.length, anyV v) ∧
    ordD .ge (.tuple ((ws.take vs.length).map kv)) (.tuple (vs.map kv)) = !pLt (.tuple vs) e ∧ ordD .le (.tuple ((ws.take vs.length).map kv)) (.tuple (vs.map kv)) = pLe (.tuple vs) e ∧ ordD .lt (.tuple ((ws.take vs.length).map kv)) (.tuple (vs.map kv)) = pLt (.tuple vs) e ∧
    PyData.eqv (.tuple ((ws.take vs.length).map kv)) (.tuple (vs.map kv)) = (!pLt (.tuple vs) e && pLe (.tuple vs) e) ∧ sameK (.tuple ((ws.take vs.length).map kv)) (.tuple (vs.map kv)) = true ∧ PyData.depth (.tuple ((ws.take vs.length).map kv)) ≤ 64 ∧ SeqAt.shaped (.tuple ((ws.take vs.length).map kv)) = true ∧ SeqAt.shaped (.tuple (vs.map kv)) = true ∧ DL.cutD ws (some (m : Nat)) none = ws.drop m := by
  have pv := pre_row I h he
  have lv := low_V h I.m6
  obtain ⟨ws, rfl, h1, h2, h3⟩ := I.lg _ he
  obtain ⟨_, e2, h4, h5, h6⟩ := h
  cases e2
  refine ⟨ws, rfl, by rw [cutD_lo _ _ (by omega)], by rw [List.length_take]; omega, fun v hv => h3 v (List.mem_of_mem_take hv), ?_, ?_, ?_, ?_, ?_, ?_, ?_, ?_, ?_⟩
  · have := ge_rk pv lv
    unfold pLt; rw [Bool.not_not]; exact this
  · exact le_rk pv lv
  · exact lt_rk pv lv
  · have := eqv_rk pv lv
    unfold pLt pLe; rw [Bool.not_not]; exact this
  · exact sameK_rk pv lv
  · exact dep_rk pv
  · exact shaped_rk pv
  · exact shaped_rk lv
  · rw [cutD_hi _ _ h1]
theorem found_loop (E : DEnds) (ns rs ix : List PyData) (I : IX ns.length ix) (low high : PyData) (b1 : bnd ns.length low) (b2 : bnd ns.length high) (cs : List PyData) (x5 x10 x11 x12 x13 x14 x17 x18 x22 x23 x24 x25 x26 x27 : SV) : ∀ (es acc : List PyData) (x16 x21 : SV), (∀ e ∈ es, e ∈ ix) → acc.length + es.length ≤ 14 → pl x16 → np x21 →
    (∀ y16 y21, pl y16 → np y21 → E.nx (F cs ns rs ix x5 x10 x11 x12 x13 x14 (.c false (.lst (acc ++ (es.filter fun e => above low e && below high e).map (rest ns.length)))) y16 x17 x18 (.d low) (.d high) y21 x22 x23 x24 x25 x26 x27)) →
    loopW (.nm 16) (ML L_law_6) E es (F cs ns rs ix x5 x10 x11 x12 x13 x14 (.c false (.lst acc)) x16 x17 x18 (.d low) (.d high) x21 x22 x23 x24 x25 x26 x27)
  | [], acc, x16, x21, _, _, h16, h21, h => by
    unfold loopW
    have := h x16 x21 h16 h21
    rw [List.filter_nil, List.map_nil, List.append_nil] at this
    exact this
  | e :: es, acc, x16, x21, hm, hl, h16, h21, h => by
    rw [List.length_cons] at hl
    have he := hm e List.mem_cons_self
    have hz : acc.length < 16777216 := by omega
    have no : (above low e && below high e) = false → loopW (.nm 16) (ML L_law_6) E es (F cs ns rs ix x5 x10 x11 x12 x13 x14 (.c false (.lst acc)) (.d e) x17 x18 (.d low) (.d high) (.d (.bool (above low e))) x22 x23 x24 x25 x26 x27) := fun q =>
      found_loop E ns rs ix I low high b1 b2 cs x5 x10 x11 x12 x13 x14 x17 x18 x22 x23 x24 x25 x26 x27 es acc (.d e) _ (fun f hf => hm f (List.mem_cons_of_mem _ hf)) (by omega) pl_d np_d (fun y16 y21 p1 p2 => by
        have := h y16 y21 p1 p2
        rw [List.filter_cons_of_neg (p := fun e => above low e && below high e) (by rw [q]; decide)] at this
        exact this)
    have yes : (above low e && below high e) = true → loopW (.nm 16) (ML L_law_6) E es (F cs ns rs ix x5 x10 x11 x12 x13 x14 (.c false (.lst (acc ++ [rest ns.length e]))) (.d e) x17 x18 (.d low) (.d high) (.d (.bool (above low e))) x22 x23 x24 x25 x26 x27) := fun q =>
      found_loop E ns rs ix I low high b1 b2 cs x5 x10 x11 x12 x13 x14 x17 x18 x22 x23 x24 x25 x26 x27 es (acc ++ [rest ns.length e]) (.d e) _ (fun f hf => hm f (List.mem_cons_of_mem _ hf)) (by rw [List.length_append]; show acc.length + 1 + es.length ≤ 14; omega) pl_d np_d (fun y16 y21 p1 p2 => by
        have := h y16 y21 p1 p2
        rw [List.filter_cons_of_pos (p := fun e => above low e && below high e) q, List.map_cons] at this
        rw [List.append_assoc]
        exact this)
    have tail : (sIf (tAndT (tTru (tName 21)) (tOrT (tCmp2 fIsN (tName 20) (tK .none)) (tCmp2 (fOrdr .le) (tCallP mRow (tC' (tFrz (tSl' (tName 16) tPno (tPsome (tCB' fLen (tC' (tName 20) tN))))) tN)) (tCallP mRow (tC' (tFrz (tName 20)) tN))))) (sDrop (tApp 15 (tFrz (tSl' (tName 16) (tPsome (tName 6)) tPno)))) sNext) { nx := loopW (.nm 16) (ML L_law_6) E es, ct := loopW (.nm 16) (ML L_law_6) E es, bk := E.nx, rt := E.rt } (F cs ns rs ix x5 x10 x11 x12 x13 x14 (.c false (.lst acc)) (.d e) x17 x18 (.d low) (.d high) (.d (.bool (above low e))) x22 x23 x24 x25 x26 x27) := by
      obtain ⟨es', rfl, l1, l2, l3⟩ := I.lg e he
      cases ab : above low (.tuple es') with
      | false =>
        rw [ab] at no
        walk_at "dl"
        exact no rfl
      | true =>
        rw [ab] at no yes
        rcases b2 with rfl | b2
        · walk_at "dl"
          rw [cutD_hi _ _ l1]
          walk_at "dl"
          exact yes rfl
        · have hn := low_n b2
          have eb : below high (.tuple es') = pLe high (.tuple es') := by unfold below; rw [hn]; rfl
          rw [eb] at no yes
          obtain ⟨vs, rfl, v1, v2, v3, v4⟩ := low_mk b2 I.m6
          obtain ⟨ws, ew, k1, k2, k3, k4, k5, k6, k7, k8, k9, k10, k11, k12⟩ := ent_key I b2 he
          cases ew
          walk_at "dl"
          rw [k1]
          refine ⟨_, rfl, k2, k3, ?_⟩
          walk_at "dl"
          refine ⟨vs, rfl, v1, v2, ?_⟩
          walk_at "dl"
          rw [k5]
          refine condP_by (fun q => ?_) (fun q => ?_)
          · walk_at "dl"
            rw [k12]
            walk_at "dl"
            exact yes q
          · walk_at "dl"
            exact no q
    unfold loopW
    rcases id b1 with rfl | b1
    · conv => whnf
      refine plainS_pl h16 ?_
      conv => whnf
      refine condP_tt (by rfl) ?_
      refine free_np h21 ?_
      exact tail
    · have hn := low_n b1
      have ea : above low e = !pLt low e := by unfold above; rw [hn]; rfl
      rw [ea] at tail
      obtain ⟨vs, rfl, v1, v2, v3, v4⟩ := low_mk b1 I.m6
      obtain ⟨ws, rfl, k1, k2, k3, k4, k5, k6, k7, k8, k9, k10, k11, k12⟩ := ent_key I b1 he
      rw [← k4] at tail
      walk_at "dl"
      rw [k1]
      refine ⟨_, rfl, k2, k3, ?_⟩
      walk_at "dl"
      refine ⟨vs, rfl, v1, v2, ?_⟩
      conv => whnf
      refine ⟨k8, ?_⟩
      conv => whnf
      refine ⟨k9, ?_⟩
      refine free_np h21 ?_
      exact tail
end Lk41
set_option Elab.async false
set_option linter.all false
set_option maxRecDepth 100000
set_option maxHeartbeats 4000000
local macro_rules | `(tactic| walk_at "dl.s") => `(tactic| first | exact DL.shaped_int | exact DL.shaped_bool | exact DL.shaped_non | assumption | (with_reducible decide) | omega | exact DL.cmulw 64 64 (by omega) (by omega) (by decide) | exact DL.cdivw (by omega) (by omega) | exact DL.cmulw 64 64 (by decide) (by decide) (by decide) | exact DL.cpow (by decide) (by decide) (by decide) | exact rfl | exact Nat.le_of_ble_eq_true rfl | fail)
local macro_rules | `(tactic| walk_at "dl") => `(tactic| ((conv => whnf); repeat' (first | (refine And.intro (by walk_at "dl.s") ?_; conv => whnf) | (refine DL.condP_tt (by rfl) ?_; conv => whnf) | (refine DL.condP_ff (by rfl) ?_; conv => whnf) | (refine DL.free_pl (by assumption) ?_; conv => whnf) | (refine DL.plainS_pl (by assumption) ?_; conv => whnf) | (refine DL.free_np (by assumption) ?_; conv => whnf) | fail)))
local macro_rules | `(tactic| walk_at "dl.if") => `(tactic| (refine DL.condP_by (fun h => ?_) (fun h => ?_) <;> (try simp only [DL.eqv_int, DL.eqv_str, DL.eqv_bool, DL.Cp.i, beq_iff_eq, decide_eq_true_eq, decide_eq_false_iff_not, beq_eq_false_iff_ne, List.length_map, ne_eq, Bool.not_eq_true', Bool.not_eq_false', Int.reduceToNat, Int.reducePow] at h)))
namespace Lk41
open PySem PySem.Spec PyProof.Rows L2 DL
abbrev MT (f : IM → PM → IM → PM → PM → PM → PM → PM → PM → PM → DT) : DT := f mNext mSrt mRows mIndex (mSame 2) mRow mFrom mFirst mBehind mSameR
theorem shp_btw {m : Nat} {L : List PyData} (I : IX m L) (low high : PyData) : shp 2 (.tuple (btw m L low high)) := by
  have l1 := List.length_filter_le (fun e => above low e && below high e) L
  have n14 := I.n14
  refine ⟨by unfold btw; rw [List.length_map]; omega, fun x hx => ?_⟩
  obtain ⟨e, he, rfl⟩ := List.mem_map.mp hx
  obtain ⟨vs, rfl, h1, h2, h3⟩ := I.lg e (List.mem_filter.mp he).1
  exact ⟨by rw [List.length_drop]; omega, fun v hv => shp_any 0 (h3 v (List.mem_of_mem_drop hv))⟩
theorem shp_ix {m : Nat} {L : List PyData} (I : IX m L) : shp 2 (.tuple L) := by
  have n14 := I.n14
  refine ⟨by omega, fun x hx => ?_⟩
  obtain ⟨vs, rfl, h1, h2, h3⟩ := I.lg x hx
  exact ⟨by omega, fun v hv => shp_any 0 (h3 v hv)⟩
theorem same_eq {m : Nat} {L : List PyData} {low : PyData} (h : lowOk m low) : (L.filter fun e => !pLt low e && pLe low e).map (rest m) = btw m L low low := by
  unfold btw
  congr 1
  apply List.filter_congr
  intro e _
  unfold above below
  rw [low_n h]; rfl
theorem bits_len {n : Nat} (h : n ≤ 14) : (([.int 1, .int 2, .int 4, .int 8, .int 16, .int 32] : List PyData).filter fun x => match x with | .int j => decide (j ≤ (n : Int)) | _ => false).length = blen n := by
  have := pw_bits ⟨n, by omega⟩
  rw [← this]
  show ((([1, 2, 4, 8, 16, 32] : List Int).map PyData.int).filter _).length = _
  rw [List.filter_map, List.length_map]; rfl
/-- behind the first check, a lower bound told -/
theorem low_part (E : DEnds) (cs ns rs ix : List PyData) (I : IX ns.length ix) (low : PyData) (b1 : lowOk ns.length low) (hns : ns.length ≤ 3) (x5 x10 x11 x12 x13 x14 x15 x16 x17 x18 x20 x21 x22 x23 x24 x25 x26 x27 : SV) (h16 : pl x16) (h22 : np x22) (h23 : np x23) (h24 : np x24) (h25 : pl x25) (h26 : pl x26) (h27 : pl x27)
    (hE : ∀ y22 y23 y24 y25 y26, np y22 → np y23 → np y24 → pl y25 → pl y26 → E.nx (F cs ns rs ix x5 x10 x11 x12 x13 x14 x15 x16 x17 x18 (.d low) x20 x21 y22 y23 y24 y25 y26 x27)) :
    (sSeq (sAsg (tCB' fLen (tC' (tLcD (wSeq (tFrz (tName 9))) (.nm 16) (tCmp2 (fOrdr .lt) (tCallP mRow (tC' (tFrz (tSl' (tName 16) tPno (tPsome (tCB' fLen (tC' (tName 19) tN))))) tN)) (tCallP mRow (tC' (tFrz (tName 19)) tN))) (MT C_law_7) [16]) tN)) (gNm 22)) (sSeq (sAsg (tLcD (wSeq (tFrz (tName 9))) (.nm 16) (tCmp2 fEq (tCallP mRow (tC' (tFrz (tSl' (tName 16) tPno (tPsome (tCB' fLen (tC' (tName 19) tN))))) tN)) (tCallP mRow (tC' (tFrz (tName 19)) tN))) (MT C_law_8) [16]) (gNm 23)) (sSeq (sAsgT (tCallP mFirst (tC' (tFrz (tName 8)) (tC' (tFrz (tName 6)) (tC' (tFrz (tName 19)) tN)))) (.tup [(.nm 25), (.nm 26)])) (sSeq (sAsg (tCB' fLen (tC' (tLcD (wSeq (tFrz (tLst' (tC' (tK (.int 1)) (tC' (tK (.int 2)) (tC' (tK (.int 4)) (tC' (tK (.int 8)) (tC' (tK (.int 16)) (tC' (tK (.int 32)) tN))))))))) (.nm 27) (tCmp2 (fOrdr .le) (tName 27) (tCB' fLen (tC' (tName 9) tN))) (MT C_law_9) [27]) tN)) (gNm 24)) (sSeq (sIf (tOrT (tNotT (tTru (tCallP (mSame 2) (tC' (tFrz (tName 25)) (tC' (tFrz (tName 22)) tN))))) (tOrT (tNotT (tVal (tIsi .int (tName 26)))) (tOrT (tCmp2 (fOrdr .gt) (tName 26) (tName 24)) (tCmp2 (fOrdr .lt) (tName 26) (tCB' fMin2 (tC' (tK (.int 1)) (tC' (tCB' fLen (tC' (tName 9) tN)) tN))))))) (sRet (tK (.bool false))) sNext) (sIf (tOrT (tNotT (tTru (tCallP (mSame 2) (tC' (tCallP mBehind (tC' (tFrz (tName 8)) (tC' (tFrz (tName 6)) (tC' (tFrz (tName 19)) tN)))) (tC' (tFrz (tBin fAdd (tName 22) (tCB' fLen (tC' (tName 23) tN)))) tN))))) (tNotT (tTru (tCallP (mSame 2) (tC' (tCallP mSameR (tC' (tFrz (tName 8)) (tC' (tFrz (tName 6)) (tC' (tFrz (tName 19)) tN)))) (tC' (tCB' fTuple (tC' (tName 23) tN)) tN)))))) (sRet (tK (.bool false))) sNext)))))) E (F cs ns rs ix x5 x10 x11 x12 x13 x14 x15 x16 x17 x18 (.d low) x20 x21 x22 x23 x24 x25 x26 x27) := by
  obtain ⟨vs, rfl, v1, v2, v3, v4⟩ := low_mk b1 I.m6
  have n14 := I.n14
  have ll := le_lt I b1
  have sq := shp_btw I (.tuple vs) (.tuple vs)
  have bl1 := List.length_filter_le (fun e => !pLt (.tuple vs) e && pLe (.tuple vs) e) ix
  walk_at "dl"
  refine lc_filter (fun Γ => Γ = F cs ns rs ix x5 x10 x11 x12 x13 x14 x15 .no x17 x18 (.d (.tuple vs)) x20 x21 x22 x23 x24 x25 x26 x27) (fun e Γ => Γ = F cs ns rs ix x5 x10 x11 x12 x13 x14 x15 (.d e) x17 x18 (.d (.tuple vs)) x20 x21 x22 x23 x24 x25 x26 x27) (fun e => e ∈ ix) (pLt (.tuple vs)) id (fun e Γ K he hI k => ?_) (fun e Γ R he _ hJ k => ?_) (fun e Γ _ _ hJ => ?_) ix [] _ _ (fun e h => h) rfl (by rw [List.length_nil]; omega) fun Γ' hI => ?_
  · subst hI
    obtain ⟨ws, rfl, k1, k2, k3, k4, k5, k6, k7, k8, k9, k10, k11, k12⟩ := ent_key I b1 he
    walk_at "dl"
    rw [k1]
    refine ⟨_, rfl, k2, k3, ?_⟩
    walk_at "dl"
    refine ⟨vs, rfl, v1, v2, ?_⟩
    walk_at "dl"
    rw [k6]
    exact k _ rfl
  · subst hJ
    walk_at "dl"
    exact k _ rfl
  · subst hJ; rfl
  · subst hI
    rw [List.nil_append, List.map_id]
    walk_at "dl"
    rw [show (ix.filter (pLt (.tuple vs))).length = ix.countP (pLt (.tuple vs)) from (List.countP_eq_length_filter).symm]
    refine lc_filter (fun Γ => Γ = F cs ns rs ix x5 x10 x11 x12 x13 x14 x15 .no x17 x18 (.d (.tuple vs)) x20 x21 (.d (.int (ix.countP (pLt (.tuple vs)) : Nat))) x23 x24 x25 x26 x27) (fun e Γ => Γ = F cs ns rs ix x5 x10 x11 x12 x13 x14 x15 (.d e) x17 x18 (.d (.tuple vs)) x20 x21 (.d (.int (ix.countP (pLt (.tuple vs)) : Nat))) x23 x24 x25 x26 x27) (fun e => e ∈ ix) (fun e => !pLt (.tuple vs) e && pLe (.tuple vs) e) (rest ns.length) (fun e Γ K he hI k => ?_) (fun e Γ R he _ hJ k => ?_) (fun e Γ _ _ hJ => ?_) ix [] _ _ (fun e h => h) rfl (by rw [List.length_nil]; omega) fun Γ' hI => ?_
    · subst hI
      obtain ⟨ws, rfl, k1, k2, k3, k4, k5, k6, k7, k8, k9, k10, k11, k12⟩ := ent_key I b1 he
      walk_at "dl"
      rw [k1]
      refine ⟨_, rfl, k2, k3, ?_⟩
      walk_at "dl"
      refine ⟨vs, rfl, v1, v2, ?_⟩
      conv => whnf
      refine ⟨k10, k11, ?_⟩
      conv => whnf
      rw [k7]
      exact k _ rfl
    · subst hJ
      obtain ⟨ws, rfl, k1, k2, k3, k4, k5, k6, k7, k8, k9, k10, k11, k12⟩ := ent_key I b1 he
      walk_at "dl"
      rw [k12]
      exact k _ rfl
    · subst hJ; rfl
    · subst hI
      rw [List.nil_append, same_eq b1]
      refine free_np h23 ?_
      walk_at "dl"
      refine ⟨ns.length, ix, .tuple vs, rfl, I, b1, fun q q1 q2 => ?_⟩
      walk_at "dl"
      refine lc_filter (fun Γ => Γ = F cs ns rs ix x5 x10 x11 x12 x13 x14 x15 x16 x17 x18 (.d (.tuple vs)) x20 x21 (.d (.int (ix.countP (pLt (.tuple vs)) : Nat))) (.c false (.lst (btw ns.length ix (.tuple vs) (.tuple vs)))) x24 (.d (.int (ix.countP (pLt (.tuple vs)) : Nat))) (.d (.int (q : Nat))) .no) (fun e Γ => Γ = F cs ns rs ix x5 x10 x11 x12 x13 x14 x15 x16 x17 x18 (.d (.tuple vs)) x20 x21 (.d (.int (ix.countP (pLt (.tuple vs)) : Nat))) (.c false (.lst (btw ns.length ix (.tuple vs) (.tuple vs)))) x24 (.d (.int (ix.countP (pLt (.tuple vs)) : Nat))) (.d (.int (q : Nat))) (.d e)) (fun e => ∃ j, e = .int j) (fun x => match x with | .int j => decide (j ≤ (ix.length : Int)) | _ => false) id (fun e Γ K he hI k => ?_) (fun e Γ R he _ hJ k => ?_) (fun e Γ _ _ hJ => ?_) _ [] _ _ (fun e h => ?_) rfl (by show 0 + 6 ≤ 16777216; decide) fun Γ' hI => ?_
      · subst hI
        obtain ⟨j, rfl⟩ := he
        walk_at "dl"
        exact k _ rfl
      · subst hJ
        walk_at "dl"
        exact k _ rfl
      · subst hJ; rfl
      · simp only [List.mem_cons, List.not_mem_nil, or_false] at h
        rcases h with rfl | rfl | rfl | rfl | rfl | rfl <;> exact ⟨_, rfl⟩
      · subst hI
        rw [List.nil_append, List.map_id]
        walk_at "dl"
        rw [bits_len n14]
        walk_at "dl"
        refine ⟨.int (ix.countP (pLt (.tuple vs)) : Nat), rfl, trivial, ?_⟩
        walk_at "dl"
        refine condP_ff (by simp only [Cp.i, decide_eq_false_iff_not]; omega) ?_
        walk_at "dl"
        refine condP_ff (by simp only [Cp.i, decide_eq_false_iff_not]; split <;> omega) ?_
        walk_at "dl"
        refine ⟨ns.length, ix, .tuple vs, rfl, I, b1, ?_⟩
        walk_at "dl"
        refine ⟨.int (ix.countP (pLe (.tuple vs)) : Nat), by rw [ll]; rfl, trivial, ?_⟩
        walk_at "dl"
        refine ⟨ns.length, ix, .tuple vs, rfl, I, b1, ?_⟩
        walk_at "dl"
        refine ⟨.tuple (btw ns.length ix (.tuple vs) (.tuple vs)), rfl, sq, ?_⟩
        walk_at "dl"
        exact hE _ _ _ _ _ np_d np_f np_d pl_d pl_d
end Lk41
set_option Elab.async false
set_option linter.all false
set_option maxRecDepth 100000
set_option maxHeartbeats 4000000
local macro_rules | `(tactic| walk_at "dl.s") => `(tactic| first | exact DL.shaped_int | exact DL.shaped_bool | exact DL.shaped_non | assumption | (with_reducible decide) | omega | exact DL.cmulw 64 64 (by omega) (by omega) (by decide) | exact DL.cdivw (by omega) (by omega) | exact DL.cmulw 64 64 (by decide) (by decide) (by decide) | exact DL.cpow (by decide) (by decide) (by decide) | exact rfl | exact Nat.le_of_ble_eq_true rfl | fail)
local macro_rules | `(tactic| walk_at "dl") => `(tactic| ((conv => whnf); repeat' (first | (refine And.intro (by walk_at "dl.s") ?_; conv => whnf) | (refine DL.condP_tt (by rfl) ?_; conv => whnf) | (refine DL.condP_ff (by rfl) ?_; conv => whnf) | (refine DL.free_pl (by assumption) ?_; conv => whnf) | (refine DL.plainS_pl (by assumption) ?_; conv => whnf) | (refine DL.free_np (by assumption) ?_; conv => whnf) | fail)))
local macro_rules | `(tactic| walk_at "dl.if") => `(tactic| (refine DL.condP_by (fun h => ?_) (fun h => ?_) <;> (try simp only [DL.eqv_int, DL.eqv_str, DL.eqv_bool, DL.Cp.i, beq_iff_eq, decide_eq_true_eq, decide_eq_false_iff_not, beq_eq_false_iff_ne, List.length_map, ne_eq, Bool.not_eq_true', Bool.not_eq_false', Int.reduceToNat, Int.reducePow] at h)))
namespace Lk41
open PySem PySem.Spec PyProof.Rows L2 DL
theorem turn_loop (E : DEnds) (ns rs ix : List PyData) (I : IX ns.length ix) (hn : ∀ d ∈ ns, okNm d) (hn1 : 1 ≤ ns.length) (hn3 : ns.length ≤ 3) (x5 x10 x27 : SV) (h27 : pl x27) : ∀ (n i : Nat) (cs : List PyData) (x11 x12 x13 x14 x15 x16 x17 x18 x19 x20 x21 x22 x23 x24 x25 x26 : SV), St cs → pl x11 → pl x12 → np x13 → pl x14 → np x15 → pl x16 → np x17 → np x18 → pl x19 → pl x20 → np x21 → np x22 → np x23 → np x24 → pl x25 → pl x26 →
    (∀ Γ, E.nx Γ) → loopW (.nm 12) (ML L_law_10) E (rgl i n) (F cs ns rs ix x5 x10 x11 x12 x13 x14 x15 x16 x17 x18 x19 x20 x21 x22 x23 x24 x25 x26 x27)
  | 0, i, cs, x11, x12, x13, x14, x15, x16, x17, x18, x19, x20, x21, x22, x23, x24, x25, x26, _, _, _, _, _, _, _, _, _, _, _, _, _, _, _, _, _, hE => by unfold rgl loopW; exact hE _
  | n + 1, i, cs, x11, x12, x13, x14, x15, x16, x17, x18, x19, x20, x21, x22, x23, x24, x25, x26, hs, h11, h12, h13, h14, h15, h16, h17, h18, h19, h20, h21, h22, h23, h24, h25, h26, hE => by
    unfold rgl loopW
    walk_at "dl"
    rw [show (2 : Int).toNat = 2 from rfl, rngD_rgl]
    refine sides_loop _ ns rs ix hn hn1 hn3 x5 x10 (.d (.int i)) x15 x16 x19 x20 x21 x22 x23 x24 x25 x26 x27 2 0 [] cs x11 x14 x17 x18 hs (fun b h => by cases h) (by decide) h11 h14 h17 h18 fun bs cs1 y11 y14 y17 y18 hs1 hl hb p11 p14 p17 p18 => ?_
    match bs, hl, hb with
    | [low, high], _, hb =>
      have b1 := hb low (by simp)
      have b2 := hb high (by simp)
      have sq := shp_btw I low high
      have n14 := I.n14
      walk_at "dl"
      refine found_loop _ ns rs ix I low high b1 b2 cs1 x5 x10 y11 (.d (.int i)) (.d (.list [low, high])) y14 y17 y18 x22 x23 x24 x25 x26 x27 ix [] x16 x21 (fun e h => h) (by rw [List.length_nil]; omega) h16 h21 fun y16 y21 p16 p21 => ?_
      rw [List.nil_append, show (ix.filter fun e => above low e && below high e).map (rest ns.length) = btw ns.length ix low high from rfl]
      walk_at "dl"
      refine ⟨ns.length, ix, low, high, rfl, I, b1, b2, ?_⟩
      walk_at "dl"
      refine ⟨.tuple (btw ns.length ix low high), rfl, sq, ?_⟩
      have go := fun y22 y23 y24 y25 y26 a b c d e => turn_loop E ns rs ix I hn hn1 hn3 x5 x10 x27 h27 n (i + 1) cs1 y11 (.d (.int i)) (.d (.list [low, high])) y14 (.c false (.lst (btw ns.length ix low high))) y16 y17 y18 (.d low) (.d high) y21 y22 y23 y24 y25 y26 hs1 p11 pl_d np_d p14 np_f p16 p17 p18 pl_d pl_d p21 a b c d e hE
      rcases id b1 with rfl | b1
      · walk_at "dl"
        exact go x22 x23 x24 x25 x26 h22 h23 h24 h25 h26
      · have hq := low_n b1
        have lp := low_part { nx := loopW (.nm 12) (ML L_law_10) E (rgl (i + 1) n), ct := loopW (.nm 12) (ML L_law_10) E (rgl (i + 1) n), bk := E.nx, rt := E.rt } cs1 ns rs ix I low b1 hn3 x5 x10 y11 (.d (.int i)) (.d (.list [low, high])) y14 (.c false (.lst (btw ns.length ix low high))) y16 y17 y18 (.d high) y21 x22 x23 x24 x25 x26 x27 p16 h22 h23 h24 h25 h26 h27 go
        obtain ⟨vs, rfl, _⟩ := id b1
        conv => whnf
        refine condP_ff (by rfl) ?_
        conv => whnf
        refine condP_tt (by rfl) ?_
        exact lp
theorem pRow3 {r : PyData} (h : pRow r) : row3 r := by
  obtain ⟨n, t, b, rfl, h1, h2, h3⟩ := h
  exact ⟨_, _, _, rfl, ⟨by omega, by omega⟩, h3, trivial⟩
theorem nmAt {r : Int} (h0 : 0 ≤ r) (h1 : r < 3) : ∃ d, atI nmL r = some d ∧ okNm d := by
  have e0 : nmOf (.str (Str.ofString "n")) = 0 := by decide +kernel
  have e1 : nmOf (.str (Str.ofString "s")) = 1 := by decide +kernel
  have e2 : nmOf (.str (Str.ofString "c")) = 2 := by decide +kernel
  have : r = 0 ∨ r = 1 ∨ r = 2 := by omega
  rcases this with rfl | rfl | rfl
  · exact ⟨_, rfl, .inl ⟨rfl, e0⟩⟩
  · exact ⟨_, rfl, .inr (.inl ⟨rfl, e1⟩)⟩
  · exact ⟨_, rfl, .inr (.inr ⟨rfl, e2⟩)⟩
theorem sh_nmL : SeqAt.shaped (.list nmL) = true := by decide +kernel
theorem idx_nm {d : PyData} (h : okNm d) : SeqAt.shaped d = true ∧ idxOf nmL d = some (nmOf d) := by
  rcases h with ⟨rfl, k⟩ | ⟨rfl, k⟩ | ⟨rfl, k⟩ <;> (rw [k]; refine ⟨?_, ?_⟩; · first | exact shN | exact shS | exact shC) <;> decide +kernel
theorem law_ok (nz : List Int) (hn : nz.length ≤ 63) : ML b_law fin ((bl 28).set 1 (.c false (.lst [.list (nz.map .int), .int 0, .int 0, .int 1]))) := by
  have hst : St [.list (nz.map .int), .int 0, .int 0, .int 1] := ⟨nz, 0, 0, 1, rfl, hn, by omega, by omega, by omega, by omega, by omega⟩
  generalize ([.list (nz.map .int), .int 0, .int 0, .int 1] : List PyData) = cs at *
  walk_at "dl"
  refine ⟨_, rfl, by decide, by decide, fun a cs1 a0 a1 hs1 => ?_⟩
  walk_at "dl"
  rw [rngD_rgl]
  refine lc_rule (fun Γ => ∃ cs, Γ = [.no, .c false (.lst cs), .d schD, .c false (.lst nmL), .no, .no, .no, .no, .no, .no, .no, .no, .no, .no, .no, .no, .no, .no, .no, .no, .no, .no, .no, .no, .no, .no, .no, .no] ∧ St cs) (fun _ => True) okNm (fun x Γ R _ hI k => ?_) _ [] _ _ (fun _ _ => trivial) ⟨_, rfl, hs1⟩ ?_ (fun ns Γ' hl hP hI => ?_)
  · obtain ⟨cs, rfl, hs⟩ := hI
    walk_at "dl"
    refine ⟨_, rfl, by decide, by decide, fun r cs2 r0 r1 hs2 => ?_⟩
    obtain ⟨d, ed, hd⟩ := nmAt r0 r1
    walk_at "dl"
    rw [ed]
    exact k d _ hd ⟨_, rfl, hs2⟩
  · rw [← rngD_rgl]; unfold rngD; simp; omega
  · obtain ⟨cs2, rfl, hs2⟩ := hI
    have hl : ns.length = (1 + a).toNat := by rw [hl, ← rngD_rgl]; unfold rngD; simp
    have n1 : 1 ≤ ns.length := by omega
    have n3 : ns.length ≤ 3 := by omega
    rw [List.nil_append]
    walk_at "dl"
    refine ⟨_, rfl, by decide, by decide, fun r0 cs3 hl3 hr hs3 => ?_⟩
    walk_at "dl"
    refine ⟨r0, rfl, fun r m => pRow_V (hr r m), ?_⟩
    have sr : ∀ r ∈ srt rk r0, row3 r := fun r m => pRow3 (hr r (srt_mem m))
    have sl : (srt rk r0).length ≤ 14 := by rw [srt_len]; omega
    generalize srt rk r0 = rs at *
    walk_at "dl"
    refine ⟨rs, ns, rfl, by omega, sr, n3, hP, ?_⟩
    have I : IX ns.length (srt rk (rs.map (ent ns))) := by
      refine ⟨fun e he => ?_, PySem.W.sort_pairwise leR_tot _, by rw [srt_len, List.length_map]; exact sl, by omega⟩
      obtain ⟨r, hr, rfl⟩ := List.mem_map.mp (srt_mem he)
      exact long_mono (ent_long (sr r hr) n3 hP) (by omega)
    have ev : ∀ r ∈ rs.map (ent ns), rowV r := fun r m => by
      obtain ⟨q, hq, rfl⟩ := List.mem_map.mp m
      exact ent_V (sr q hq) n3 hP
    have fin2 : ∀ ix, IX ns.length ix → ix = srt rk (rs.map (ent ns)) → ML b_law_t7 fin [.no, .c false (.lst cs3), .d schD, .c false (.lst nmL), .d (.tuple ns), .no, .d (.int (ns.length : Nat)), .d (.tuple rs), .d (.tuple ix), .no, .no, .no, .no, .no, .no, .no, .no, .no, .no, .no, .no, .no, .no, .no, .no, .no, .no, .no] := fun ix I he => by
      have sh := shp_ix I
      have snm := sh_nmL
      walk_at "dl"
      refine lc_map (fun Γ => Γ = [.no, .c false (.lst cs3), .d schD, .c false (.lst nmL), .d (.tuple ns), .no, .d (.int (ns.length : Nat)), .d (.tuple rs), .d (.tuple ix), .no, .no, .no, .no, .no, .no, .no, .no, .no, .no, .no, .no, .no, .no, .no, .no, .no, .no, .no]) row3 (ent ns) (fun x Γ R hx hI k => ?_) rs [] _ _ sr rfl (by rw [List.length_nil]; omega) fun Γ' hI => ?_
      · subst hI
        obtain ⟨p, q, r, rfl, h1⟩ := id hx
        walk_at "dl"
        refine lc_map (fun Γ => Γ = [.no, .c false (.lst cs3), .d schD, .c false (.lst nmL), .d (.tuple ns), .no, .d (.int (ns.length : Nat)), .d (.tuple rs), .d (.tuple ix), .no, .d (.tuple [p, q, r]), .no, .no, .no, .no, .no, .no, .no, .no, .no, .no, .no, .no, .no, .no, .no, .no, .no]) okNm (colOf (.tuple [p, q, r])) (fun d Γ R hd hI k => ?_) ns [] _ _ hP rfl (by rw [List.length_nil]; omega) fun Γ' hI => ?_
        · subst hI
          obtain ⟨sd, id1⟩ := idx_nm hd
          have lt := nm_lt hd
          have e : atI [p, q, r] ((nmOf d : Nat) : Int) = some (colOf (.tuple [p, q, r]) d) := by
            rw [atI_nat (show nmOf d < [p, q, r].length from lt)]
            unfold colOf
            rw [List.getD_eq_getElem?_getD, show vals (.tuple [p, q, r]) = [p, q, r] from rfl, List.getElem?_eq_getElem (show nmOf d < [p, q, r].length from lt)]; rfl
          walk_at "dl"
          rw [id1]
          walk_at "dl"
          rw [e]
          exact k _ rfl
        · subst hI
          rw [List.nil_append]
          walk_at "dl"
          exact ⟨by rw [List.length_map]; show _ + 3 ≤ 16777216; omega, k _ rfl⟩
      · subst hI
        rw [List.nil_append]
        walk_at "dl"
        refine ⟨rs.map (ent ns), rfl, ev, ?_⟩
        rw [← he]
        walk_at "dl"
        refine ⟨.tuple ix, rfl, sh, ?_⟩
        walk_at "dl"
        rw [show (6 : Int).toNat = 6 from rfl, rngD_rgl]
        exact turn_loop _ ns rs ix I hP n1 n3 .no .no .no pl_no 6 0 cs3 .no .no .no .no .no .no .no .no .no .no .no .no .no .no .no .no hs3 pl_no pl_no np_no pl_no np_no pl_no np_no np_no pl_no pl_no np_no np_no np_no np_no pl_no pl_no fun Γ => rfl
    exact fin2 _ I rfl
end Lk41
set_option Elab.async false
set_option linter.all false
set_option maxRecDepth 100000
set_option maxHeartbeats 0
local macro_rules | `(tactic| walk_at "dl.len") => `(tactic| (intro ds R h; first | (obtain ⟨e, _⟩ := h; rw [e]; rfl) | (obtain ⟨_, e, _⟩ := h; rw [e]; rfl) | (obtain ⟨_, _, e, _⟩ := h; rw [e]; rfl) | (obtain ⟨_, _, _, e, _⟩ := h; rw [e]; rfl) | (obtain ⟨_, _, _, _, e, _⟩ := h; rw [e]; rfl) | (obtain ⟨_, _, _, _, _, e, _⟩ := h; rw [e]; rfl) | (obtain ⟨_, _, _, _, _, _, e, _⟩ := h; rw [e]; rfl) | (obtain ⟨_, _, _, _, _, _, _, e, _⟩ := h; rw [e]; rfl) | (obtain ⟨_, _, _, _, _, _, _, _, e, _⟩ := h; rw [e]; rfl) | (obtain ⟨_, _, _, _, _, _, _, _, _, e, _⟩ := h; rw [e]; rfl) | (obtain ⟨_, _, _, _, _, _, _, _, _, _, e, _⟩ := h; rw [e]; rfl) | (obtain ⟨_, _, _, _, _, _, _, _, _, _, _, e, _⟩ := h; rw [e]; rfl) | fail))
local macro_rules | `(tactic| walk_at "dl.leni") => `(tactic| (intro cs ds R h; obtain ⟨_, h⟩ := h; first | (obtain ⟨e, _⟩ := h; rw [e]; rfl) | (obtain ⟨_, e, _⟩ := h; rw [e]; rfl) | (obtain ⟨_, _, e, _⟩ := h; rw [e]; rfl) | (obtain ⟨_, _, _, e, _⟩ := h; rw [e]; rfl) | (obtain ⟨_, _, _, _, e, _⟩ := h; rw [e]; rfl) | (obtain ⟨_, _, _, _, _, e, _⟩ := h; rw [e]; rfl) | (obtain ⟨_, _, _, _, _, _, e, _⟩ := h; rw [e]; rfl) | (obtain ⟨_, _, _, _, _, _, _, e, _⟩ := h; rw [e]; rfl) | (obtain ⟨_, _, _, _, _, _, _, _, e, _⟩ := h; rw [e]; rfl) | (obtain ⟨_, _, _, _, _, _, _, _, _, e, _⟩ := h; rw [e]; rfl) | (obtain ⟨_, _, _, _, _, _, _, _, _, _, e, _⟩ := h; rw [e]; rfl) | (obtain ⟨_, _, _, _, _, _, _, _, _, _, _, e, _⟩ := h; rw [e]; rfl) | fail))
namespace Lk41
open PySem PySem.Spec PyProof.Rows L2 DL
def fn : List He.DefD := [dfD "is_text" s_is_text, dfD "kind_of" s_kind_of, dfD "key_of" s_key_of, dfD "row_key" s_row_key, dfD "in_order" s_in_order, dfD "place_of" s_place_of, dfD "worth_at" s_worth_at, dfD "part_of" s_part_of, dfD "index_of" s_index_of, dfD "first_place" s_first_place, dfD "behind_place" s_behind_place, dfD "rows_from" s_rows_from, dfD "rows_same" s_rows_same, dfD "_law_next" s__law_next, dfD "_law_same" s__law_same, dfD "_law_key" s__law_key, dfD "_law_sorted" s__law_sorted, dfD "_law_rows" s__law_rows, dfD "law" s_law]
def fa : List He.Fa := [.glo "is_text", .glo "kind_of", .glo "key_of", .glo "row_key", .glo "in_order", .glo "place_of", .glo "worth_at", .glo "part_of", .glo "index_of", .glo "first_place", .glo "behind_place", .glo "rows_from", .glo "rows_same", .glo "_law_next", .glo "_law_same", .glo "_law_key", .glo "_law_sorted", .glo "_law_rows", .glo "law", .free "abs", .free "all", .free "bool", .free "enumerate", .free "int", .free "isinstance", .free "len", .free "list", .free "min", .free "ord", .free "range", .free "sorted", .free "str", .free "tuple", .int "MOST_NUMBER" 1000000000000, .int "MOST_SIGNS" 200]
def tf : List He.Defn := [("is_text", none), ("in_order", none), ("_law_sorted", none)]
def tl : List (He.Defn × Str) := [(("in_order", none), lamQ "in_order"), (("_law_sorted", none), lamQ "_law_sorted")]
def ex (K : PySem.W.Frag) : Bool := decide ((He.cT K ("is_text", none)).2 ≠ (He.cT K ("in_order", none)).2) && (decide ((He.cT K ("is_text", none)).2 ≠ (He.cT K ("_law_sorted", none)).2) && (decide ((He.cT K ("in_order", none)).2 ≠ (He.cT K ("_law_sorted", none)).2)))
abbrev R : PySem.W.OpenRow := PySem.W.OpenLaw.row PySem.Challenge.rw_answersheld_k41_entries_between_values
abbrev hk : PySem.W.Hook := He.hookX 4 fa fn [] tf ex
def ob (s : PySem.W.SharedT) : He.AlX := He.obsX 4 fa fn [] tf ex (HandSHeadRun.getT s)
theorem ob_eq (s : PySem.W.SharedT) : ob s = hk.obs s.abs := He.obsX_eq (HandSHeadRun.getT_eq s)
theorem run (w : World) : HandSHeadRun.RunEq R (PySem.W.view R.prog [27]) hk ob 4000 ["AnswersheldError", "UnknownName", "MOST_SIGNS", "MOST_NUMBER", "is_text", "kind_of", "key_of", "row_key", "in_order", "place_of", "worth_at", "part_of", "index_of", "first_place", "behind_place", "rows_from", "rows_same", "_law_next", "_law_same", "_law_key", "_law_sorted", "_law_rows"] w := by
  intro os
  kernel_rfl
theorem facts (w : World) (K : PySem.W.Frag) (mg : Str → Option Value) (h : Heap) (X : K.In h) (G : h.Ns mainGlobals mg) (cx : He.SaysX fa fn [] tf ex w h K) (inst : TabP) (hi : inst.ps = tf.map (fun p => (He.cT K p).2)) (hj : inst.ls = tl.map (fun x => ((He.cT K x.1).2, x.2))) :
    ∃ fd : FuncData, (∀ (s : Shared) (v : Value), BindsTo s fd ⟨[v], []⟩ [("script", v)]) ∧ ∀ base, (K.In base ∧ base.Ns mainGlobals mg ∧ ∀ p ∈ tf, GxR.TabB base mg (He.cT K p).1 (He.cT K p).2) → FnOk PySem.Challenge.rw_answersheld_k41_entries_between_values.prog w K mg base CX0 40 (He.ga K "law") fd ["script"] (spLaw K) := by
  have c := cx.t.d
  have T : Tx K mg := ⟨free_of X G c (by simp [fa]), free_of X G c (by simp [fa]), free_of X G c (by simp [fa]), free_of X G c (by simp [fa]), free_of X G c (by simp [fa]), free_of X G c (by simp [fa]), free_of X G c (by simp [fa]), free_of X G c (by simp [fa]), free_of X G c (by simp [fa]), free_of X G c (by simp [fa]), free_of X G c (by simp [fa]), free_of X G c (by simp [fa]), free_of X G c (by simp [fa]), free_of X G c (by simp [fa]), int_of X G c (by simp [fa]), int_of X G c (by simp [fa])⟩
  have D_is_text : Df K mg "is_text" s_is_text _ := df_of X G c (by simp [fa]) (by simp [fn])
  have D_kind_of : Df K mg "kind_of" s_kind_of _ := df_of X G c (by simp [fa]) (by simp [fn])
  have D_key_of : Df K mg "key_of" s_key_of _ := df_of X G c (by simp [fa]) (by simp [fn])
  have D_row_key : Df K mg "row_key" s_row_key _ := df_of X G c (by simp [fa]) (by simp [fn])
  have D_in_order : Df K mg "in_order" s_in_order _ := df_of X G c (by simp [fa]) (by simp [fn])
  have D_place_of : Df K mg "place_of" s_place_of _ := df_of X G c (by simp [fa]) (by simp [fn])
  have D_worth_at : Df K mg "worth_at" s_worth_at _ := df_of X G c (by simp [fa]) (by simp [fn])
  have D_part_of : Df K mg "part_of" s_part_of _ := df_of X G c (by simp [fa]) (by simp [fn])
  have D_index_of : Df K mg "index_of" s_index_of _ := df_of X G c (by simp [fa]) (by simp [fn])
  have D_first_place : Df K mg "first_place" s_first_place _ := df_of X G c (by simp [fa]) (by simp [fn])
  have D_behind_place : Df K mg "behind_place" s_behind_place _ := df_of X G c (by simp [fa]) (by simp [fn])
  have D_rows_from : Df K mg "rows_from" s_rows_from _ := df_of X G c (by simp [fa]) (by simp [fn])
  have D_rows_same : Df K mg "rows_same" s_rows_same _ := df_of X G c (by simp [fa]) (by simp [fn])
  have D__law_next : Df K mg "_law_next" s__law_next _ := df_of X G c (by simp [fa]) (by simp [fn])
  have D__law_same : Df K mg "_law_same" s__law_same _ := df_of X G c (by simp [fa]) (by simp [fn])
  have D__law_key : Df K mg "_law_key" s__law_key _ := df_of X G c (by simp [fa]) (by simp [fn])
  have D__law_sorted : Df K mg "_law_sorted" s__law_sorted _ := df_of X G c (by simp [fa]) (by simp [fn])
  have D__law_rows : Df K mg "_law_rows" s__law_rows _ := df_of X G c (by simp [fa]) (by simp [fn])
  have D_law : Df K mg "law" s_law _ := df_of X G c (by simp [fa]) (by simp [fn])
  have hex := cx.more
  unfold ex at hex
  simp only [Bool.and_eq_true, decide_eq_true_eq] at hex
  obtain ⟨x_is_text_in_order, x_is_text__law_sorted, x_in_order__law_sorted⟩ := hex
  refine fn_law (k := 39) _ D_law bn_law sc_law rfl (by decide) (by decide) (b := b_law mNext mSrt mRows mIndex (mSame 2) mRow mFrom mFirst mBehind mSameR) (fun base hb cdv A outer s H E hc hr => ?_) (fun ns hn _ => law_ok ns hn)
  have t_is_text : GxR.TabB base mg (He.cT K ("is_text", none)).1 (He.cT K ("is_text", none)).2 := hb.2.2 _ (by simp [tf])
  have p_is_text : (He.cT K ("is_text", none)).2 ∈ TabP.ps := by rw [hi]; simp [tf]
  have l_is_text : ∀ q, ((He.cT K ("is_text", none)).2, q) ∉ TabP.ls := fun q m => by
    rw [hj] at m
    simp only [tl, List.map_cons, List.map_nil, List.mem_cons, List.not_mem_nil, or_false, Prod.mk.injEq] at m
    rcases m with ⟨e, f⟩ | ⟨e, f⟩
    · exact absurd e x_is_text_in_order
    · exact absurd e x_is_text__law_sorted
  have t_in_order : GxR.TabB base mg (He.cT K ("in_order", none)).1 (He.cT K ("in_order", none)).2 := hb.2.2 _ (by simp [tf])
  have p_in_order : (He.cT K ("in_order", none)).2 ∈ TabP.ps := by rw [hi]; simp [tf]
  have l_in_order : ((He.cT K ("in_order", none)).2, lamQ "in_order") ∈ TabP.ls := by rw [hj]; simp [tl]
  have u_in_order : ∀ q, ((He.cT K ("in_order", none)).2, q) ∈ TabP.ls → q = lamQ "in_order" := fun q m => by
    rw [hj] at m
    simp only [tl, List.map_cons, List.map_nil, List.mem_cons, List.not_mem_nil, or_false, Prod.mk.injEq] at m
    rcases m with ⟨e, f⟩ | ⟨e, f⟩
    · exact f
    · exact absurd e x_in_order__law_sorted
  have t__law_sorted : GxR.TabB base mg (He.cT K ("_law_sorted", none)).1 (He.cT K ("_law_sorted", none)).2 := hb.2.2 _ (by simp [tf])
  have p__law_sorted : (He.cT K ("_law_sorted", none)).2 ∈ TabP.ps := by rw [hi]; simp [tf]
  have l__law_sorted : ((He.cT K ("_law_sorted", none)).2, lamQ "_law_sorted") ∈ TabP.ls := by rw [hj]; simp [tl]
  have u__law_sorted : ∀ q, ((He.cT K ("_law_sorted", none)).2, q) ∈ TabP.ls → q = lamQ "_law_sorted" := fun q m => by
    rw [hj] at m
    simp only [tl, List.map_cons, List.map_nil, List.mem_cons, List.not_mem_nil, or_false, Prod.mk.injEq] at m
    rcases m with ⟨e, f⟩ | ⟨e, f⟩
    · exact absurd e (fun z => x_in_order__law_sorted z.symm)
    · exact f
  have K_is_text : Kd PySem.Challenge.rw_answersheld_k41_entries_between_values.prog w K mg base 1 "is_text" ["value"] (spP K (mIsText)) := kd_pure (k := 0) D_is_text bn_is_text sc_is_text (by walk_at "dl.len") fun cdv A outer s H E hc hr => ⟨_, d_is_text T hr t_is_text p_is_text l_is_text (code_of (st := s_is_text) c (by simp [fn]) hc), isText_ok⟩
  have K_kind_of : Kd PySem.Challenge.rw_answersheld_k41_entries_between_values.prog w K mg base 2 "kind_of" ["value"] (spP K (mKind)) := kd_pure (k := 1) D_kind_of bn_kind_of sc_kind_of (by walk_at "dl.len") fun cdv A outer s H E hc hr => ⟨_, d_kind_of T hr (K_is_text.mono (by decide)), kind_ok⟩
  have K_key_of : Kd PySem.Challenge.rw_answersheld_k41_entries_between_values.prog w K mg base 3 "key_of" ["value"] (spP K (mKey)) := kd_pure (k := 2) D_key_of bn_key_of sc_key_of (by walk_at "dl.len") fun cdv A outer s H E hc hr => ⟨_, d_key_of T hr (K_kind_of.mono (by decide)), key_ok⟩
  have K_row_key : Kd PySem.Challenge.rw_answersheld_k41_entries_between_values.prog w K mg base 4 "row_key" ["row"] (spP K (mRow)) := kd_pure (k := 3) D_row_key bn_row_key sc_row_key (by walk_at "dl.len") fun cdv A outer s H E hc hr => ⟨_, d_row_key T hr (K_key_of.mono (by decide)), row_ok⟩
  have K_in_order : Kd PySem.Challenge.rw_answersheld_k41_entries_between_values.prog w K mg base 8 "in_order" ["rows"] (spP K (mSrt)) := kd_pure (k := 4 + 3) D_in_order bn_in_order sc_in_order (by walk_at "dl.len") fun cdv A outer s H E hc hr => ⟨_, d_in_order T hr t_in_order p_in_order l_in_order u_in_order (code_of (st := s_in_order) c (by simp [fn]) hc) (K_row_key.mono (by decide)), inOrder_ok⟩
  have K_place_of : Kd PySem.Challenge.rw_answersheld_k41_entries_between_values.prog w K mg base 1 "place_of" ["schema", "name"] (spP K (mPlace)) := kd_pure (k := 0) D_place_of bn_place_of sc_place_of (by walk_at "dl.len") fun cdv A outer s H E hc hr => ⟨_, d_place_of T hr, place_ok⟩
  have K_worth_at : Kd PySem.Challenge.rw_answersheld_k41_entries_between_values.prog w K mg base 2 "worth_at" ["schema", "row", "name"] (spP K (mWorth)) := kd_pure (k := 1) D_worth_at bn_worth_at sc_worth_at (by walk_at "dl.len") fun cdv A outer s H E hc hr => ⟨_, d_worth_at T hr (K_place_of.mono (by decide)), worth_ok⟩
  have K_part_of : Kd PySem.Challenge.rw_answersheld_k41_entries_between_values.prog w K mg base 3 "part_of" ["schema", "row", "names"] (spP K (mPart)) := kd_pure (k := 2) D_part_of bn_part_of sc_part_of (by walk_at "dl.len") fun cdv A outer s H E hc hr => ⟨_, d_part_of T hr (K_worth_at.mono (by decide)), part_ok⟩
  have K_index_of : Kd PySem.Challenge.rw_answersheld_k41_entries_between_values.prog w K mg base 9 "index_of" ["table", "names"] (spP K (mIndex)) := kd_pure (k := 8) D_index_of bn_index_of sc_index_of (by walk_at "dl.len") fun cdv A outer s H E hc hr => ⟨_, d_index_of T hr (K_place_of.mono (by decide)) (K_in_order.mono (by decide)) (K_part_of.mono (by decide)), index_ok⟩
  have K_first_place : Kd PySem.Challenge.rw_answersheld_k41_entries_between_values.prog w K mg base 5 "first_place" ["index", "many", "worths"] (spP K (mFirst)) := kd_pure (k := 4) D_first_place bn_first_place sc_first_place (by walk_at "dl.len") fun cdv A outer s H E hc hr => ⟨_, d_first_place T hr (K_row_key.mono (by decide)), first_ok⟩
  have K_behind_place : Kd PySem.Challenge.rw_answersheld_k41_entries_between_values.prog w K mg base 5 "behind_place" ["index", "many", "worths"] (spP K (mBehind)) := kd_pure (k := 4) D_behind_place bn_behind_place sc_behind_place (by walk_at "dl.len") fun cdv A outer s H E hc hr => ⟨_, d_behind_place T hr (K_row_key.mono (by decide)), behind_ok⟩
  have K_rows_from : Kd PySem.Challenge.rw_answersheld_k41_entries_between_values.prog w K mg base 6 "rows_from" ["index", "many", "low", "high"] (spP K (mFrom)) := kd_pure (k := 5) D_rows_from bn_rows_from sc_rows_from (by walk_at "dl.len") fun cdv A outer s H E hc hr => ⟨_, d_rows_from T hr (K_first_place.mono (by decide)) (K_behind_place.mono (by decide)), from_ok⟩
  have K_rows_same : Kd PySem.Challenge.rw_answersheld_k41_entries_between_values.prog w K mg base 7 "rows_same" ["index", "many", "worths"] (spP K (mSameR)) := kd_pure (k := 6) D_rows_same bn_rows_same sc_rows_same (by walk_at "dl.len") fun cdv A outer s H E hc hr => ⟨_, d_rows_same T hr (K_rows_from.mono (by decide)), sameR_ok⟩
  have K__law_next : Kd PySem.Challenge.rw_answersheld_k41_entries_between_values.prog w K mg base 1 "_law_next" ["state", "limit"] (spI K (mNext)) := kd_io (k := 0) D__law_next bn__law_next sc__law_next (by walk_at "dl.leni") fun cdv A outer s H E hc hr => ⟨_, d__law_next T hr, next_ok⟩
  have KR__law_same : ∀ n, Kd PySem.Challenge.rw_answersheld_k41_entries_between_values.prog w K mg base (n + 1) "_law_same" ["actual", "expected"] (spP K (mSame n)) := fun n => by
    induction n with
    | zero => exact kd_pure (k := 0) D__law_same bn__law_same sc__law_same (by walk_at "dl.len") fun cdv A outer s H E hc hr => ⟨_, d__law_same T hr (kd_none D__law_same bn__law_same), same_ok 0⟩
    | succ n ih => exact kd_pure (k := n + 1 + 0) D__law_same bn__law_same sc__law_same (by walk_at "dl.len") fun cdv A outer s H E hc hr => ⟨_, d__law_same T hr (ih.mono (by omega)), same_ok (n + 1)⟩
  have K__law_same := KR__law_same 2
  have K__law_key : Kd PySem.Challenge.rw_answersheld_k41_entries_between_values.prog w K mg base 1 "_law_key" ["row"] (spP K (mRow)) := kd_pure (k := 0) D__law_key bn__law_key sc__law_key (by walk_at "dl.len") fun cdv A outer s H E hc hr => ⟨_, d__law_key T hr, lkey_ok⟩
  have K__law_sorted : Kd PySem.Challenge.rw_answersheld_k41_entries_between_values.prog w K mg base 5 "_law_sorted" ["rows"] (spP K (mSrt)) := kd_pure (k := 1 + 3) D__law_sorted bn__law_sorted sc__law_sorted (by walk_at "dl.len") fun cdv A outer s H E hc hr => ⟨_, d__law_sorted T hr t__law_sorted p__law_sorted l__law_sorted u__law_sorted (code_of (st := s__law_sorted) c (by simp [fn]) hc) (K__law_key.mono (by decide)), lsorted_ok⟩
  have K__law_rows : Kd PySem.Challenge.rw_answersheld_k41_entries_between_values.prog w K mg base 2 "_law_rows" ["state", "most"] (spI K (mRows)) := kd_io (k := 1) D__law_rows bn__law_rows sc__law_rows (by walk_at "dl.leni") fun cdv A outer s H E hc hr => ⟨_, d__law_rows T hr (K__law_next.mono (by decide)), rows_ok⟩
  exact ⟨d_law0 T.f_list, d_law T hr (K__law_next.mono (by decide)) (K__law_sorted.mono (by decide)) (K__law_rows.mono (by decide)) (K_index_of.mono (by decide)) (K__law_same.mono (by decide)) (K__law_key.mono (by decide)) (K_rows_from.mono (by decide)) (K_first_place.mono (by decide)) (K_behind_place.mono (by decide)) (K_rows_same.mono (by decide))⟩
end Lk41
open PySem PySem.W PySem.Calls PyProof.Rows
theorem PySem.Challenge.cw_answersheld_k41_entries_between_values_holds : PySem.Challenge.rw_answersheld_k41_entries_between_values.Holds := by
  w_on; o_law
  refine HandSHeadRun.head_any (r := OpenLaw.row PySem.Challenge.rw_answersheld_k41_entries_between_values) (q := view (OpenLaw.row PySem.Challenge.rw_answersheld_k41_entries_between_values).prog [27]) (H := Lk41.hk) (ob := Lk41.ob) (M := 4000) (loose := ["AnswersheldError", "UnknownName", "MOST_SIGNS", "MOST_NUMBER", "is_text", "kind_of", "key_of", "row_key", "in_order", "place_of", "worth_at", "part_of", "index_of", "first_place", "behind_place", "rows_from", "rows_same", "_law_next", "_law_same", "_law_key", "_law_sorted", "_law_rows"]) (d := HandSHeadRun.topDef (OpenLaw.row PySem.Challenge.rw_answersheld_k41_entries_between_values).prog 27) (kwd := []) Lk41.ob_eq
    (by kernel_rfl) (fun s => by kernel_rfl) Lk41.run (by kernel_rfl) (by kernel_rfl) (by kernel_rfl) (by rfl) (by first | assumption | decide +kernel) (by decide +kernel) ⟨rfl, rfl, rfl, rfl, rfl, by decide +kernel⟩ ?hw ?hc
  case hw => w_witness2
  case hc =>
    exact DL.end_law (k := 40) (tl := Lk41.tl) (by simp [Lk41.tl, Lk41.tf]) rfl (by kernel_rfl) (by kernel_rfl) ⟨rfl, by decide, by decide⟩ (by simp [Lk41.fa]) Lk41.facts
